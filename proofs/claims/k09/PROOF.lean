import PyProof.Rows.All
import Wide.All
import OpenK.AllK
import Wide.FinOn
import HandS.ForMost
import HandS.ForExc
import HandS.Wide
import HandS.SetBool
import HandS.Dict
import HandS.TupAny
import HandS.WideMore
import HandS.WideBits
import HandS.Deep
import HandS.SortInts
import HandS.More
import HandS.Conv
import HandS.Flow
import HandS.IsInst
import HandS.TupLe
import HandS.Rev
import HandS.Zip
import HandS.Small
import KE.DataMinMax
import PyProof.EnumMake
import PyProof.TupleIter
import KE.GoesMore
import KE.GoesNew
import KE.SortData
import HandS.SetFor
import HandS.Strs
import HandS.Set
import HandS.TryOnly
import HandS.TupSets
import HandS.Style
import PyProof.StrBlock2
import KE.RegKIsAll
import HandS.ExcIs
import HandS.ExcOwn
import PyProof.LongRange
import PyProof.Rows.SortShellAny
import PyProof.SumWalkG
import HandS.TupMul
import HandS.Text
import HandS.Sort
import KE.KDictZip
import PySem.Challenge.RW_shungrow_k09_how_many_are_barred
set_option Elab.async false
set_option linter.all false
set_option maxRecDepth 100000
set_option maxHeartbeats 4000000
/-! TL: a layer over HandS: values as trees, slots that are frozen or owned; no heap in what is left to prove. -/
namespace TL
open PySem L2

inductive T where
  | non | bl (b : Bool) | int (i : Int) | str (x : Str)
  | tup (xs : List T) | lst (xs : List T) | dct (ks : List Key) (ts : List T) | scr (ns : List Int) | oth (v : V) | ins (ns : List Str) (ts : List T)
  | bdt (ks : List (List Bool)) (ts : List T)

/-- a dict's entries: keys tuples of truth values (the tuple at an address), values -/
def bEnt (x : List Bool × Addr × Value) : DictEntry := ⟨reduceHash (Builtin.Tuple.tupleHashOf (x.1.map PpSet.hB)), .ref x.2.1, x.2.2⟩
def BD (a : Addr) (xs : List (List Bool × Addr × V)) : HO := .ext fun h => (a == sysModules) = false ∧ ∃ zs : List (List Bool × Addr × Value),
  Paired (fun (p : List Bool × Addr × V) (q : List Bool × Addr × Value) => p.1 = q.1 ∧ p.2.1 = q.2.1 ∧ RelV p.2.2 q.2.2) xs zs ∧
  ∃ o es ep, h.get? a = some o ∧ o.ExactDict ∧ o.data = .dict es ep ∧ es.toList = zs.map bEnt ∧ (zs.map (·.1)).Nodup
mutual
def Rep (K : PySem.W.Frag) (F : Hp) : T → V → Prop
  | .non, v => v = .non
  | .bl b, v => v = .bl b
  | .int i, v => v = .int i
  | .str x, v => v = .str x
  | .tup ts, v => ∃ a vs, v = .ref a ∧ SqT K F a vs ∧ vs.length ≤ sizeLine ∧ Reps K F ts vs
  | .lst ts, v => ∃ a vs, v = .ref a ∧ F a = some (.lst vs) ∧ vs.length ≤ sizeLine ∧ Reps K F ts vs
  | .dct ks ts, v => ∃ a kvs, v = .ref a ∧ Rd F a (.dK kvs) ∧ kvs.length ≤ sizeLine ∧ kvs.map (·.1) = ks ∧ Reps K F ts (kvs.map (·.2))
  | .scr ns, v => ∃ a, v = .ref a ∧ SqL K F a (ns.map V.int) ∧ ns.length ≤ sizeLine
  | .oth u, v => v = u
  | .ins ns ts, v => ∃ a C dx vs, v = .ref a ∧ F a = some (.ins C dx (ns.zip vs)) ∧ Cls K C ∧ (∀ n ∈ ns, NoAttr K C n) ∧ ns.length = vs.length ∧ Reps K F ts vs
  | .bdt ks ts, v => ∃ a xs, v = .ref a ∧ F a = some (BD a xs) ∧ xs.length ≤ sizeLine ∧ xs.map (·.1) = ks ∧ (∀ x ∈ xs, SqT K F x.2.1 (x.1.map V.bl)) ∧ Reps K F ts (xs.map (·.2.2))
def Reps (K : PySem.W.Frag) (F : Hp) : List T → List V → Prop
  | [], vs => vs = []
  | t :: ts, vs => ∃ v r, vs = v :: r ∧ Rep K F t v ∧ Reps K F ts r
end

section
variable {K : PySem.W.Frag} {F F' H H' : Hp}
theorem Rd.mono {a : Addr} {u : HO} (s : Same F F') (h : Rd F a u) : Rd F' a u := by
  rcases h with h | ⟨o, h⟩
  · exact .inl (s _ _ h)
  · exact .inr ⟨o, s _ _ h⟩
theorem SqT.mono {a : Addr} {xs : List V} (s : Same F F') (h : SqT K F a xs) : SqT K F' a xs := by
  rcases h with h | h
  · exact .inl (Rd.mono s h)
  · exact .inr h
mutual
theorem Rep.mono (s : Same F F') : ∀ (t : T) (v : V), Rep K F t v → Rep K F' t v
  | .non, _, h => h
  | .bl _, _, h => h
  | .int _, _, h => h
  | .str _, _, h => h
  | .tup ts, _, ⟨a, vs, e, q, z, r⟩ => ⟨a, vs, e, SqT.mono s q, z, Reps.mono s ts vs r⟩
  | .lst ts, _, ⟨a, vs, e, q, z, r⟩ => ⟨a, vs, e, s _ _ q, z, Reps.mono s ts vs r⟩
  | .dct ks ts, _, ⟨a, kvs, e, q, z, k, r⟩ => ⟨a, kvs, e, Rd.mono s q, z, k, Reps.mono s ts _ r⟩
  | .scr _, _, ⟨a, e, q, z⟩ => ⟨a, e, s.seq q, z⟩
  | .oth _, _, h => h
  | .ins _ ts, _, ⟨a, C, dx, vs, e, q, c, n, l, r⟩ => ⟨a, C, dx, vs, e, s _ _ q, c, n, l, Reps.mono s ts vs r⟩
  | .bdt _ ts, _, ⟨a, xs, e, q, z, k, t, r⟩ => ⟨a, xs, e, s _ _ q, z, k, fun x hx => SqT.mono s (t x hx), Reps.mono s ts _ r⟩
theorem Reps.mono (s : Same F F') : ∀ (ts : List T) (vs : List V), Reps K F ts vs → Reps K F' ts vs
  | [], _, h => h
  | t :: ts, _, ⟨v, r, e, h1, h2⟩ => ⟨v, r, e, Rep.mono s t v h1, Reps.mono s ts r h2⟩
end
theorem Reps.len : ∀ {ts : List T} {vs : List V}, Reps K F ts vs → ts.length = vs.length
  | [], _, h => by rw [show _ = [] from h]; rfl
  | t :: ts, _, ⟨v, r, e, _, h2⟩ => by rw [e, List.length_cons, List.length_cons, Reps.len h2]
theorem Reps.get : ∀ {ts : List T} {vs : List V} {i : Nat} {t : T}, Reps K F ts vs → ts[i]? = some t → ∃ v, vs[i]? = some v ∧ Rep K F t v
  | [], _, _, _, _, e => by simp at e
  | t :: ts, _, 0, _, ⟨v, r, e, h1, _⟩, g => by
    subst e
    simp at g
    subst g
    exact ⟨v, rfl, h1⟩
  | t :: ts, _, i + 1, _, ⟨v, r, e, _, h2⟩, g => by
    subst e
    simpa using Reps.get h2 (by simpa using g)
theorem Reps.getV : ∀ {ts : List T} {vs : List V} {i : Nat} {v : V}, Reps K F ts vs → vs[i]? = some v → ∃ t, ts[i]? = some t ∧ Rep K F t v := by
  intro ts vs i v h e
  have hl := h.len
  have hi : i < ts.length := by
    have := (List.getElem?_eq_some_iff.mp e).1
    omega
  obtain ⟨v', e', r⟩ := Reps.get h (List.getElem?_eq_getElem hi)
  rw [e] at e'
  cases e'
  exact ⟨_, List.getElem?_eq_getElem hi, r⟩
theorem Reps.append : ∀ {ts us : List T} {vs ws : List V}, Reps K F ts vs → Reps K F us ws → Reps K F (ts ++ us) (vs ++ ws)
  | [], _, _, _, h, h' => by rw [show _ = [] from h]; exact h'
  | t :: ts, _, _, _, ⟨v, r, e, h1, h2⟩, h' => by
    subst e
    exact ⟨v, _, rfl, h1, Reps.append h2 h'⟩
theorem Reps.take : ∀ {ts : List T} {vs : List V} (n : Nat), Reps K F ts vs → Reps K F (ts.take n) (vs.take n)
  | _, _, 0, _ => rfl
  | [], _, _ + 1, h => by rw [show _ = [] from h]; exact rfl
  | t :: ts, _, n + 1, ⟨v, r, e, h1, h2⟩ => by
    subst e
    exact ⟨v, _, rfl, h1, Reps.take n h2⟩
theorem Reps.drop : ∀ {ts : List T} {vs : List V} (n : Nat), Reps K F ts vs → Reps K F (ts.drop n) (vs.drop n)
  | _, _, 0, h => h
  | [], _, _ + 1, h => by rw [show _ = [] from h]; exact rfl
  | t :: ts, _, n + 1, ⟨v, r, e, h1, h2⟩ => by
    subst e
    exact Reps.drop n h2
theorem Reps.set : ∀ {ts : List T} {vs : List V} {t : T} {v : V} (n : Nat), Rep K F t v → Reps K F ts vs → Reps K F (ts.set n t) (vs.set n v)
  | [], _, _, _, _, _, h => by rw [show _ = [] from h]; exact rfl
  | t :: ts, _, _, _, 0, hr, ⟨v, r, e, h1, h2⟩ => by
    subst e
    exact ⟨_, _, rfl, hr, h2⟩
  | t :: ts, _, _, _, n + 1, hr, ⟨v, r, e, h1, h2⟩ => by
    subst e
    exact ⟨v, _, rfl, h1, Reps.set n hr h2⟩
theorem Reps.reverse : ∀ {ts : List T} {vs : List V}, Reps K F ts vs → Reps K F ts.reverse vs.reverse
  | [], _, h => by rw [show _ = [] from h]; exact rfl
  | t :: ts, _, ⟨v, r, e, h1, h2⟩ => by
    subst e
    rw [List.reverse_cons, List.reverse_cons]
    exact Reps.append (Reps.reverse h2) ⟨v, [], rfl, h1, rfl⟩
theorem Reps.ints : ∀ {ns : List Int} {vs : List V}, Reps K F (ns.map T.int) vs ↔ vs = ns.map V.int
  | [], vs => Iff.rfl
  | n :: ns, vs => by
    constructor
    · rintro ⟨v, r, e, h1, h2⟩
      rw [e, show v = V.int n from h1, Reps.ints.mp h2]
      rfl
    · intro e
      exact ⟨V.int n, ns.map V.int, e, rfl, Reps.ints.mpr rfl⟩
theorem Reps.bls : ∀ {ns : List Bool} {vs : List V}, Reps K F (ns.map T.bl) vs ↔ vs = ns.map V.bl
  | [], vs => Iff.rfl
  | n :: ns, vs => by
    constructor
    · rintro ⟨v, r, e, h1, h2⟩
      rw [e, show v = V.bl n from h1, Reps.bls.mp h2]
      rfl
    · intro e
      exact ⟨V.bl n, ns.map V.bl, e, rfl, Reps.bls.mpr rfl⟩
theorem Reps.strs : ∀ {ns : List Str} {vs : List V}, Reps K F (ns.map T.str) vs ↔ vs = ns.map V.str
  | [], vs => Iff.rfl
  | n :: ns, vs => by
    constructor
    · rintro ⟨v, r, e, h1, h2⟩
      rw [e, show v = V.str n from h1, Reps.strs.mp h2]
      rfl
    · intro e
      exact ⟨V.str n, ns.map V.str, e, rfl, Reps.strs.mpr rfl⟩
end

/-! ### slots -/
inductive Kd where
  | frz | own | arg (j : Nat)
  deriving DecidableEq
structure Sl where
  k : Kd
  l : Bool
  t : T
abbrev TSt := List (Option Sl)

def OwnAt (K : PySem.W.Frag) (F H : Hp) (a : Addr) : T → Prop
  | .lst ts => ∃ vs, H a = some (.lst vs) ∧ vs.length ≤ sizeLine ∧ Reps K F ts vs
  | .dct ks ts => ∃ kvs, H a = some (.dK kvs) ∧ kvs.length ≤ sizeLine ∧ kvs.map (·.1) = ks ∧ Reps K F ts (kvs.map (·.2))
  | .bdt ks ts => ∃ xs, H a = some (BD a xs) ∧ xs.length ≤ sizeLine ∧ xs.map (·.1) = ks ∧ (∀ x ∈ xs, SqT K F x.2.1 (x.1.map V.bl)) ∧ Reps K F ts (xs.map (·.2.2))
  | _ => False
theorem OwnAt.ex {K : PySem.W.Frag} {F H : Hp} {a : Addr} : ∀ {t : T}, OwnAt K F H a t → ∃ o, H a = some o
  | .lst _, ⟨_, h, _⟩ => ⟨_, h⟩
  | .dct _ _, ⟨_, h, _⟩ => ⟨_, h⟩
  | .bdt _ _, ⟨_, h, _⟩ => ⟨_, h⟩
theorem OwnAt.mono {K : PySem.W.Frag} {F F' H H' : Hp} {a : Addr} (s : Same F F') (e : H' a = H a) : ∀ {t : T}, OwnAt K F H a t → OwnAt K F' H' a t
  | .lst _, ⟨vs, h, z, r⟩ => ⟨vs, e.trans h, z, Reps.mono s _ _ r⟩
  | .dct _ _, ⟨kvs, h, z, k, r⟩ => ⟨kvs, e.trans h, z, k, Reps.mono s _ _ r⟩
  | .bdt _ _, ⟨xs, h, z, k, t, r⟩ => ⟨xs, e.trans h, z, k, fun x hx => SqT.mono s (t x hx), Reps.mono s _ _ r⟩
/-- slot i owns the object at a -/
def Owns (σ : St) (τ : TSt) (i : Nat) (k : Kd) (a : Addr) : Prop := ∃ l t, τ[i]? = some (some ⟨k, l, t⟩) ∧ k ≠ .frz ∧ σ[i]? = some (some (.ref a))
structure WF (K : PySem.W.Frag) (F H : Hp) (σ : St) (τ : TSt) : Prop where
  sub : Same F H
  len : τ.length = σ.length
  frz : ∀ (i : Nat) (l : Bool) (t : T), τ[i]? = some (some ⟨.frz, l, t⟩) → ∃ v, σ[i]? = some (some v) ∧ Rep K F t v
  own : ∀ (i : Nat) (k : Kd) (l : Bool) (t : T), τ[i]? = some (some ⟨k, l, t⟩) → k ≠ .frz → ∃ a, σ[i]? = some (some (.ref a)) ∧ F a = none ∧ OwnAt K F H a t
  sep : ∀ (i j : Nat) (k l : Kd) (a : Addr), Owns σ τ i k a → Owns σ τ j l a → i = j
structure Stp (F H : Hp) (σ : St) (τ : TSt) (F' H' : Hp) (τ' : TSt) : Prop where
  sub : Same F F'
  new : ∀ a, F' a ≠ none → F a ≠ none ∨ H a = none ∨ ∃ i, Owns σ τ i .own a
  fr : ∀ a o, H a = some o → (∀ i k, ¬ Owns σ τ i k a) → H' a = some o
  dom : ∀ a, H a ≠ none → H' a ≠ none
  own : ∀ i k a, Owns σ τ' i k a → Owns σ τ i k a
  slot : ∀ (i : Nat) (s : Sl), τ[i]? = some (some s) → ∃ s', τ'[i]? = some (some s')
  lock : ∀ (i : Nat) (k : Kd) (t : T), τ[i]? = some (some ⟨k, true, t⟩) → τ'[i]? = some (some ⟨k, true, t⟩)
/-- the base of a def: its entry, the addresses of the objects that it may change -/
structure Bs where
  F : Hp
  H : Hp
  args : List (Option Addr)
structure Inn (K : PySem.W.Frag) (B : Bs) (F H : Hp) (σ : St) (τ : TSt) : Prop where
  wf : WF K F H σ τ
  sub : Same B.F F
  new : ∀ a, F a ≠ none → B.F a ≠ none ∨ B.H a = none
  fr : ∀ a o, B.H a = some o → some a ∉ B.args → H a = some o
  dom : ∀ a, B.H a ≠ none → H a ≠ none
  ow : ∀ i a, Owns σ τ i .own a → B.H a = none
  ar : ∀ i j a, Owns σ τ i (.arg j) a → B.args[j]? = some (some a)

section
variable {K : PySem.W.Frag} {B : Bs} {F H F1 H1 F2 H2 : Hp} {σ : St} {τ τ1 τ2 : TSt}
theorem Stp.refl : Stp F H σ τ F H τ := ⟨fun _ _ h => h, fun _ h => .inl h, fun _ _ h _ => h, fun _ h => h, fun _ _ _ h => h, fun _ s h => ⟨s, h⟩, fun _ _ _ h => h⟩
theorem Stp.trans (a : Stp F H σ τ F1 H1 τ1) (b : Stp F1 H1 σ τ1 F2 H2 τ2) : Stp F H σ τ F2 H2 τ2 where
  sub := a.sub.trans b.sub
  new := fun x h => by
    rcases b.new x h with h | h | ⟨i, h⟩
    · exact a.new x h
    · refine .inr (.inl ?_)
      cases e : H x with
      | none => rfl
      | some o => exact absurd h (a.dom x (by rw [e]; simp))
    · exact .inr (.inr ⟨i, a.own i _ x h⟩)
  fr := fun x o h n => b.fr x o (a.fr x o h n) fun i k q => n i k (a.own i k x q)
  dom := fun x h => b.dom x (a.dom x h)
  own := fun i k x h => a.own i k x (b.own i k x h)
  slot := fun i s h => by
    obtain ⟨s1, h1⟩ := a.slot i s h
    exact b.slot i s1 h1
  lock := fun i k t h => b.lock i k t (a.lock i k t h)
theorem Inn.step (I : Inn K B F H σ τ) (w : WF K F1 H1 σ τ1) (s : Stp F H σ τ F1 H1 τ1) : Inn K B F1 H1 σ τ1 where
  wf := w
  sub := I.sub.trans s.sub
  new := fun a h => by
    rcases s.new a h with h | h | ⟨i, h⟩
    · exact I.new a h
    · refine .inr ?_
      cases e : B.H a with
      | none => rfl
      | some o => exact absurd h (I.dom a (by rw [e]; simp))
    · exact .inr (I.ow i a h)
  fr := fun a o h n => s.fr a o (I.fr a o h n) fun i k q => by
    cases k with
    | frz => obtain ⟨_, _, _, z, _⟩ := q; exact z rfl
    | own => rw [I.ow i a q] at h; cases h
    | arg j => exact n (List.mem_of_getElem? (I.ar i j a q))
  dom := fun a h => s.dom a (I.dom a h)
  ow := fun i a h => I.ow i a (s.own i _ a h)
  ar := fun i j a h => I.ar i j a (s.own i _ a h)
end

/-! ### results -/
inductive R where
  | val (own : Bool) (t : T) | var (i : Nat)
def slT (τ : TSt) (i : Nat) : T := match τ[i]? with
  | some (some s) => s.t
  | _ => .non
def R.t (τ : TSt) : R → T
  | .val _ t => t
  | .var i => slT τ i
def RR (K : PySem.W.Frag) (F H : Hp) (σ : St) (τ : TSt) (v : V) : R → Prop
  | .val false t => Rep K F t v
  | .val true t => ∃ p, v = .ref p ∧ F p = none ∧ OwnAt K F H p t ∧ ∀ i k, ¬ Owns σ τ i k p
  | .var i => σ[i]? = some (some v) ∧ ∃ s, τ[i]? = some (some s)
def Fresh (H : Hp) (v : V) : R → Prop
  | .val true _ => ∃ p, v = .ref p ∧ H p = none
  | _ => True
/-- what may be read now -/
def RdT (K : PySem.W.Frag) (F H : Hp) (v : V) (t : T) : Prop := Rep K F t v ∨ ∃ p, v = .ref p ∧ F p = none ∧ OwnAt K F H p t
section
variable {K : PySem.W.Frag} {B : Bs} {F H F1 H1 F2 H2 : Hp} {σ : St} {τ τ1 τ2 : TSt} {v : V} {r : R}
theorem RR.rd (w : WF K F H σ τ) : ∀ {r : R}, RR K F H σ τ v r → RdT K F H v (r.t τ)
  | .val false _, h => .inl h
  | .val true _, ⟨p, e, n, o, _⟩ => .inr ⟨p, e, n, o⟩
  | .var i, ⟨e, ⟨k, l, t⟩, h⟩ => by
    have et : R.t τ (.var i) = t := by simp [R.t, slT, h]
    rw [et]
    by_cases hk : k = .frz
    · subst hk
      obtain ⟨v', e', q⟩ := w.frz i l t h
      rw [e] at e'
      cases e'
      exact .inl q
    · obtain ⟨a, e', n, q⟩ := w.own i k l t h hk
      rw [e] at e'
      cases e'
      exact .inr ⟨a, rfl, n, q⟩
theorem RR.step (s : Stp F H σ τ F1 H1 τ1) : ∀ {r : R}, RR K F H σ τ v r → RR K F1 H1 σ τ1 v r
  | .val false _, h => Rep.mono s.sub _ _ h
  | .val true _, ⟨p, e, n, o, no⟩ => by
    obtain ⟨ob, ho⟩ := o.ex
    have e1 : H1 p = some ob := s.fr p ob ho no
    refine ⟨p, e, ?_, o.mono s.sub (e1.trans ho.symm), fun i k q => no i k (s.own i k p q)⟩
    cases q : F1 p with
    | none => rfl
    | some u =>
      rcases s.new p (by rw [q]; simp) with z | z | ⟨i, z⟩
      · exact absurd n z
      · rw [ho] at z; cases z
      · exact absurd z (no i _)
  | .var i, ⟨e, s', h⟩ => ⟨e, s.slot i s' h⟩
theorem Fresh.step (s : Stp F H σ τ F1 H1 τ1) : ∀ {r : R}, Fresh H1 v r → Fresh H v r
  | .val false _, _ => trivial
  | .val true _, ⟨p, e, n⟩ => ⟨p, e, by
    cases q : H p with
    | none => rfl
    | some o => exact absurd n (s.dom p (by rw [q]; simp))⟩
  | .var _, _ => trivial
end

/-! ### growing: new objects, nothing else -/
structure Grow (F H F' H' : Hp) : Prop where
  sub : Same F F'
  hp : Same H H'
  new : ∀ a, F' a ≠ none → F a ≠ none ∨ H a = none
  in_ : Same F' H'
def RG (K : PySem.W.Frag) (H F' H' : Hp) (v : V) : Bool → T → Prop
  | false, t => Rep K F' t v
  | true, t => ∃ p, v = .ref p ∧ H p = none ∧ F' p = none ∧ OwnAt K F' H' p t
section
variable {K : PySem.W.Frag} {B : Bs} {F H F1 H1 : Hp} {σ : St} {τ : TSt} {v : V}
theorem Grow.refl (s : Same F H) : Grow F H F H := ⟨fun _ _ h => h, fun _ _ h => h, fun _ h => .inl h, s⟩
theorem same_upd {H : Hp} {p : Addr} {o : HO} (h : H p = none) : Same H (upd H p o) := fun b x e => by
  rw [upd_ne (ne_of_none e h)]
  exact e
theorem Grow.own {p : Addr} {o : HO} (s : Same F H) (n : H p = none) : Grow F H F (upd H p o) :=
  ⟨fun _ _ h => h, same_upd n, fun _ h => .inl h, s.trans (same_upd n)⟩
theorem Grow.frz {p : Addr} {o : HO} (s : Same F H) (n : H p = none) : Grow F H (upd F p o) (upd H p o) := by
  have nF : F p = none := s.free n
  refine ⟨same_upd nF, same_upd n, fun a h => ?_, fun b x e => ?_⟩
  · by_cases e : a = p
    · subst e; exact .inr n
    · rw [upd_ne e] at h; exact .inl h
  · by_cases hb : b = p
    · subst hb; rw [upd_same] at e ⊢; exact e
    · rw [upd_ne hb] at e ⊢; exact s b x e
theorem Grow.wf (g : Grow F H F1 H1) (w : WF K F H σ τ) : WF K F1 H1 σ τ where
  sub := g.in_
  len := w.len
  frz := fun i l t h => by
    obtain ⟨v, e, r⟩ := w.frz i l t h
    exact ⟨v, e, Rep.mono g.sub _ _ r⟩
  own := fun i k l t h hk => by
    obtain ⟨a, e, n, o⟩ := w.own i k l t h hk
    obtain ⟨ob, ho⟩ := o.ex
    refine ⟨a, e, ?_, o.mono g.sub ((g.hp a ob ho).trans ho.symm)⟩
    cases q : F1 a with
    | none => rfl
    | some u =>
      rcases g.new a (by rw [q]; simp) with z | z
      · exact absurd n z
      · rw [ho] at z; cases z
  sep := w.sep
theorem Grow.step (g : Grow F H F1 H1) : Stp F H σ τ F1 H1 τ :=
  ⟨g.sub, fun a h => (g.new a h).elim .inl fun z => .inr (.inl z), fun a o h _ => g.hp a o h, fun a h => by
    cases q : H a with
    | none => exact absurd q h
    | some o => rw [g.hp a o q]; simp, fun _ _ _ h => h, fun _ s h => ⟨s, h⟩, fun _ _ _ h => h⟩
theorem RG.rr (w : WF K F H σ τ) (g : Grow F H F1 H1) : ∀ {k : Bool} {t : T}, RG K H F1 H1 v k t → RR K F1 H1 σ τ v (.val k t) ∧ Fresh H v (.val k t)
  | false, _, h => ⟨h, trivial⟩
  | true, _, ⟨p, e, n, nF, o⟩ => ⟨⟨p, e, nF, o, fun i k q => by
      obtain ⟨l, t, h1, hk, h2⟩ := q
      obtain ⟨a, h3, _, o'⟩ := w.own i k l t h1 hk
      rw [h2] at h3
      cases h3
      obtain ⟨ob, ho⟩ := o'.ex
      rw [ho] at n
      cases n⟩, p, e, n⟩
end

/-! ### expressions -/
abbrev TTE := TSt → (R → TSt → Prop) → Prop
abbrev TTA := TSt → (List R → TSt → Prop) → Prop
abbrev TTT := TSt → (Bool → TSt → Prop) → Prop
def lift (K : PySem.W.Frag) (B : Bs) (t : TTE) : TE := fun σ H Q => ∃ F τ P, Inn K B F H σ τ ∧ t τ P ∧
  ∀ r τ' F' H' v, P r τ' → Inn K B F' H' σ τ' → Stp F H σ τ F' H' τ' → RR K F' H' σ τ' v r → Fresh H v r → Q v H'
def liftT (K : PySem.W.Frag) (B : Bs) (t : TTT) : TT := fun σ H Q => ∃ F τ P, Inn K B F H σ τ ∧ t τ P ∧
  ∀ b τ' F' H', P b τ' → Inn K B F' H' σ τ' → Stp F H σ τ F' H' τ' → Q b H'
inductive RRs (K : PySem.W.Frag) (F H : Hp) (σ : St) (τ : TSt) : List V → List R → Prop
  | nil : RRs K F H σ τ [] []
  | cons {v : V} {vs : List V} {r : R} {rs : List R} : RR K F H σ τ v r → (∀ t, r ≠ .val true t) → RRs K F H σ τ vs rs → RRs K F H σ τ (v :: vs) (r :: rs)
def liftA (K : PySem.W.Frag) (B : Bs) (t : TTA) : TA := fun σ H Q => ∃ F τ P, Inn K B F H σ τ ∧ t τ P ∧
  ∀ rs τ' F' H' vs, P rs τ' → Inn K B F' H' σ τ' → Stp F H σ τ F' H' τ' → RRs K F' H' σ τ' vs rs → Q vs H'
structure TPE (X : Cx) (B : Bs) (e : Expr) (t : TTE) : Prop where
  pe : PE X e (lift X.K B t)
structure TPT (X : Cx) (B : Bs) (e : Expr) (t : TTT) : Prop where
  pt : PT X e (liftT X.K B t)
structure TPW (X : Cx) (B : Bs) (e : Expr) (t : TTT) : Prop where
  pw : PW X e (liftT X.K B t)
structure TPA (X : Cx) (B : Bs) (es : List Expr) (t : TTA) : Prop where
  pa : PA X es (liftA X.K B t)
theorem PE.imp {X : Cx} {e : Expr} {t u : TE} (h : PE X e t) (i : ∀ σ H Q, u σ H Q → t σ H Q) : PE X e u := ⟨fun pins s σ H Q I q => h.run pins s σ H Q I (i σ H Q q)⟩
theorem PT.imp {X : Cx} {e : Expr} {t u : TT} (h : PT X e t) (i : ∀ σ H Q, u σ H Q → t σ H Q) : PT X e u := ⟨fun pins s σ H Q I q => h.run pins s σ H Q I (i σ H Q q)⟩
theorem PW.imp {X : Cx} {e : Expr} {t u : TT} (h : PW X e t) (i : ∀ σ H Q, u σ H Q → t σ H Q) : PW X e u := ⟨fun wh pins s σ H Q I q => h.run wh pins s σ H Q I (i σ H Q q)⟩
theorem PA.imp {X : Cx} {e : List Expr} {t u : TA} (h : PA X e t) (i : ∀ σ H Q, u σ H Q → t σ H Q) : PA X e u := ⟨fun pos pins s σ H Q I q => h.run pos pins s σ H Q I (i σ H Q q)⟩
theorem PS.imp {X : Cx} {e : Stmt} {t u : TS} (h : PS X e t) (i : ∀ D σ H, u D σ H → t D σ H) : PS X e u := ⟨fun pins s σ H D I q => h.run pins s σ H D I (i D σ H q)⟩
theorem PSs.imp {X : Cx} {e : List Stmt} {t u : TS} (h : PSs X e t) (i : ∀ D σ H, u D σ H → t D σ H) : PSs X e u := ⟨fun pins s σ H D I q => h.run pins s σ H D I (i D σ H q)⟩

/-- going on with an expression -/
theorem lift.go {K : PySem.W.Frag} {B : Bs} {t : TTE} {σ : St} {F H : Hp} {τ : TSt} {P : R → TSt → Prop} {Q : VK} (I : Inn K B F H σ τ) (h : t τ P)
    (q : ∀ r τ' F' H' v, P r τ' → Inn K B F' H' σ τ' → Stp F H σ τ F' H' τ' → RR K F' H' σ τ' v r → Fresh H v r → Q v H') : lift K B t σ H Q := ⟨F, τ, P, I, h, q⟩
end TL

namespace TL
open PySem L2
section
variable {K : PySem.W.Frag} {F H F1 H1 : Hp} {v : V}
theorem RdT.lst {ts : List T} (s : Same F H) (h : RdT K F H v (.lst ts)) : ∃ a vs, v = .ref a ∧ H a = some (.lst vs) ∧ vs.length ≤ sizeLine ∧ Reps K F ts vs := by
  rcases h with ⟨a, vs, e, q, z, r⟩ | ⟨p, e, _, vs, q, z, r⟩
  · exact ⟨a, vs, e, s _ _ q, z, r⟩
  · exact ⟨p, vs, e, q, z, r⟩
theorem RdT.tup {ts : List T} (h : RdT K F H v (.tup ts)) : ∃ a vs, v = .ref a ∧ SqT K F a vs ∧ vs.length ≤ sizeLine ∧ Reps K F ts vs := by
  rcases h with h | ⟨p, e, _, h⟩
  · exact h
  · exact h.elim
theorem RdT.scr {ns : List Int} (h : RdT K F H v (.scr ns)) : ∃ a, v = .ref a ∧ SqL K F a (ns.map V.int) ∧ ns.length ≤ sizeLine := by
  rcases h with h | ⟨p, e, _, h⟩
  · exact h
  · exact h.elim
theorem RdT.dct {ks : List Key} {ts : List T} (s : Same F H) (h : RdT K F H v (.dct ks ts)) : ∃ a kvs, v = .ref a ∧ Rd H a (.dK kvs) ∧ kvs.length ≤ sizeLine ∧ kvs.map (·.1) = ks ∧ Reps K F ts (kvs.map (·.2)) := by
  rcases h with ⟨a, vs, e, q, z, k, r⟩ | ⟨p, e, _, vs, q, z, k, r⟩
  · exact ⟨a, vs, e, Rd.mono s q, z, k, r⟩
  · exact ⟨p, vs, e, .inl q, z, k, r⟩
theorem RdT.bdt {ks : List (List Bool)} {ts : List T} (s : Same F H) (h : RdT K F H v (.bdt ks ts)) : ∃ a xs, v = .ref a ∧ H a = some (BD a xs) ∧ xs.length ≤ sizeLine ∧ xs.map (·.1) = ks ∧ (∀ x ∈ xs, SqT K F x.2.1 (x.1.map V.bl)) ∧ Reps K F ts (xs.map (·.2.2)) := by
  rcases h with ⟨a, xs, e, q, z, k, t, r⟩ | ⟨p, e, _, xs, q, z, k, t, r⟩
  · exact ⟨a, xs, e, s _ _ q, z, k, t, r⟩
  · exact ⟨p, xs, e, q, z, k, t, r⟩
theorem RdT.int {i : Int} (h : RdT K F H v (.int i)) : v = .int i := h.elim id fun ⟨_, _, _, h⟩ => h.elim
theorem RdT.bl {i : Bool} (h : RdT K F H v (.bl i)) : v = .bl i := h.elim id fun ⟨_, _, _, h⟩ => h.elim
theorem RdT.str {i : Str} (h : RdT K F H v (.str i)) : v = .str i := h.elim id fun ⟨_, _, _, h⟩ => h.elim
theorem RdT.non (h : RdT K F H v .non) : v = .non := h.elim id fun ⟨_, _, _, h⟩ => h.elim
theorem RdT.oth {u : V} (h : RdT K F H v (.oth u)) : v = u := h.elim id fun ⟨_, _, _, h⟩ => h.elim
end

/-! ### operations by values -/
abbrev G2 := T → T → (Bool → T → Prop) → Prop
def OpT (X : Cx) (f : Value → Value → Sem Value) (g : G2) : Prop :=
  ∃ r : R2, OpR X f r ∧ ∀ (F H : Hp) (x y : V) (tx ty : T) (G : Bool → T → Prop) (Q : VK), Same F H → RdT X.K F H x tx → RdT X.K F H y ty → g tx ty G →
    (∀ k t v F' H', G k t → Grow F H F' H' → RG X.K H F' H' v k t → Q v H') → r x y H Q
def CalT (X : Cx) (f : Value) (g : List T → (Bool → T → Prop) → Prop) : Prop :=
  ∃ r : List V → Hp → VK → Prop, CallR X f r ∧ ∀ (F H : Hp) (xs : List V) (ts : List T) (G : Bool → T → Prop) (Q : VK), Same F H → Paired (RdT X.K F H) xs ts → g ts G →
    (∀ k t v F' H', G k t → Grow F H F' H' → RG X.K H F' H' v k t → Q v H') → r xs H Q
section
variable {X : Cx} {B : Bs}
/-! ### names, constants -/
def tv (i : Nat) : TTE := fun τ P => (∃ s, τ[i]? = some (some s)) ∧ P (.var i) τ
theorem tpe_v (i : Nat) {x : Str} {pos : Pos} (hN : X.N[i]? = some x := by rfl) (hv : Vis X.env.scope x := by first | exact Or.inl rfl | exact Or.inr (Or.inl rfl) | exact Or.inr (Or.inr rfl)) (hd : (x == ("__debug__" : Str)) = false := by decide)
    (hcd : (x == ("__classdict__" : Str)) = false := by decide) : TPE X B (.Name x pos) (tv i) := by
  refine ⟨PE.imp (pe_var hN hv hd hcd) fun σ H Q h => ?_⟩
  obtain ⟨F, τ, P, I, ⟨⟨s, hs⟩, hp⟩, hq⟩ := h
  obtain ⟨v, hv⟩ : ∃ v, σ[i]? = some (some v) := by
    obtain ⟨k, l, t⟩ := s
    by_cases hk : k = .frz
    · subst hk
      obtain ⟨v, e, _⟩ := I.wf.frz i l t hs
      exact ⟨v, e⟩
    · obtain ⟨a, e, _⟩ := I.wf.own i k l t hs hk
      exact ⟨_, e⟩
  exact ⟨v, hv, hq _ _ _ _ _ hp I Stp.refl ⟨hv, s, hs⟩ trivial⟩
def tk (t : T) : TTE := fun τ P => P (.val false t) τ
theorem tpe_k {e : Expr} {t : T} {v : V} (h : PE X e (tC v)) (r : ∀ K F, Rep K F t v) : TPE X B e (tk t) := by
  refine ⟨PE.imp h fun σ H Q h => ?_⟩
  obtain ⟨F, τ, P, I, hp, hq⟩ := h
  exact hq _ _ _ _ _ hp I Stp.refl (r _ _) trivial
theorem tpe_int {i j pos} : TPE X B (.Constant (.int i) j pos) (tk (.int i)) := tpe_k pe_int fun _ _ => rfl
theorem tpe_bl {i j pos} : TPE X B (.Constant (.bool i) j pos) (tk (.bl i)) := tpe_k pe_bl fun _ _ => rfl
theorem tpe_non {j pos} : TPE X B (.Constant .none j pos) (tk .non) := tpe_k pe_non fun _ _ => rfl
theorem tpe_str {i j pos} : TPE X B (.Constant (.str i) j pos) (tk (.str i)) := tpe_k pe_str fun _ _ => rfl

/-! ### freezing -/
def frzR : R → TSt → (T → TSt → Prop) → Prop
  | .val _ t, τ, P => P t τ
  | .var i, τ, P => match τ[i]? with
    | some (some ⟨.frz, _, t⟩) => P t τ
    | some (some ⟨.own, false, t⟩) => P t (τ.set i (some ⟨.frz, false, t⟩))
    | _ => False
theorem OwnAt.rep {F H : Hp} {K : PySem.W.Frag} {p : Addr} {o : HO} (n : F p = none) (ho : H p = some o) : ∀ {t : T}, OwnAt K F H p t → Rep K (upd F p o) t (.ref p)
  | .lst _, ⟨vs, h, z, r⟩ => by
    rw [ho] at h
    cases h
    exact ⟨p, vs, rfl, upd_same, z, Reps.mono (same_upd n) _ _ r⟩
  | .dct _ _, ⟨kvs, h, z, k, r⟩ => by
    rw [ho] at h
    cases h
    exact ⟨p, kvs, rfl, .inl upd_same, z, k, Reps.mono (same_upd n) _ _ r⟩
  | .bdt _ _, ⟨xs, h, z, k, t, r⟩ => by
    rw [ho] at h
    cases h
    exact ⟨p, xs, rfl, upd_same, z, k, fun x hx => SqT.mono (same_upd n) (t x hx), Reps.mono (same_upd n) _ _ r⟩
/-- freezing a fresh one, or a slot's own -/
theorem freeze {K : PySem.W.Frag} {F0 H0 F H : Hp} {σ : St} {τ0 τ : TSt} {v : V} {r : R} {P : T → TSt → Prop} (I0 : Inn K B F0 H0 σ τ0) (I : Inn K B F H σ τ) (s : Stp F0 H0 σ τ0 F H τ) (rr : RR K F H σ τ v r) (fr : Fresh H0 v r) (h : frzR r τ P) :
    ∃ t τ' F', P t τ' ∧ Inn K B F' H σ τ' ∧ Stp F0 H0 σ τ0 F' H τ' ∧ Rep K F' t v ∧ Same F F' ∧ (∀ (i : Nat) (s : Sl), τ[i]? = some (some s) → ∃ s' : Sl, τ'[i]? = some (some s') ∧ s'.t = s.t) := by
  cases r with
  | val k t =>
    cases k with
    | false => exact ⟨t, τ, F, h, I, s, rr, fun _ _ h => h, fun _ s h => ⟨s, h, rfl⟩⟩
    | true =>
      obtain ⟨p, rfl, n, o, no⟩ := rr
      obtain ⟨p', e, nf⟩ := fr
      cases e
      obtain ⟨ob, ho⟩ := o.ex
      have w : WF K (upd F p ob) H σ τ := by
        refine ⟨fun a u e => ?_, I.wf.len, fun i l t h => ?_, fun i k l t h hk => ?_, I.wf.sep⟩
        · by_cases ha : a = p
          · subst ha; rw [upd_same] at e; cases e; exact ho
          · rw [upd_ne ha] at e; exact I.wf.sub a u e
        · obtain ⟨v, e, q⟩ := I.wf.frz i l t h
          exact ⟨v, e, Rep.mono (same_upd n) _ _ q⟩
        · obtain ⟨a, e, nF, q⟩ := I.wf.own i k l t h hk
          have ha : a ≠ p := fun z => no i k ⟨l, t, h, hk, by rw [← z]; exact e⟩
          exact ⟨a, e, by rw [upd_ne ha]; exact nF, q.mono (same_upd n) rfl⟩
      have st : Stp F0 H0 σ τ0 (upd F p ob) H τ := by
        refine ⟨s.sub.trans (same_upd n), fun a h => ?_, s.fr, s.dom, s.own, s.slot, s.lock⟩
        by_cases ha : a = p
        · subst ha; exact .inr (.inl nf)
        · rw [upd_ne ha] at h; exact s.new a h
      exact ⟨t, τ, _, h, I0.step w st, st, OwnAt.rep n ho o, same_upd n, fun _ s h => ⟨s, h, rfl⟩⟩
  | var i =>
    obtain ⟨hv, ⟨k, l, t⟩, hs⟩ := rr
    simp only [frzR, hs] at h
    cases k with
    | frz =>
      obtain ⟨v', e, q⟩ := I.wf.frz i l t hs
      rw [hv] at e
      cases e
      exact ⟨t, τ, F, h, I, s, q, fun _ _ h => h, fun _ s h => ⟨s, h, rfl⟩⟩
    | arg j => exact h.elim
    | own =>
      cases l with
      | true => exact h.elim
      | false =>
      obtain ⟨p, e, n, o⟩ := I.wf.own i .own false t hs (by decide)
      rw [hv] at e
      cases e
      obtain ⟨ob, ho⟩ := o.ex
      have hi : i < τ.length := (List.getElem?_eq_some_iff.mp hs).1
      have oi : Owns σ τ i .own p := ⟨false, t, hs, by decide, hv⟩
      have sets : ∀ (j : Nat) (s : Option Sl), (τ.set i (some ⟨.frz, false, t⟩))[j]? = some s → (j = i ∧ s = some ⟨.frz, false, t⟩) ∨ (j ≠ i ∧ τ[j]? = some s) := fun j s e => by
        by_cases hj : j = i
        · subst hj
          rw [List.getElem?_set_self hi] at e
          exact .inl ⟨rfl, (Option.some.inj e).symm⟩
        · rw [List.getElem?_set_ne (Ne.symm hj)] at e
          exact .inr ⟨hj, e⟩
      have ownd : ∀ (j : Nat) (k : Kd) (a : Addr), Owns σ (τ.set i (some ⟨.frz, false, t⟩)) j k a → j ≠ i ∧ Owns σ τ j k a := fun j k a ⟨l, u, h1, h2, h3⟩ => by
        rcases sets j _ h1 with ⟨_, z⟩ | ⟨hj, z⟩
        · cases z; exact absurd rfl h2
        · exact ⟨hj, l, u, z, h2, h3⟩
      have w : WF K (upd F p ob) H σ (τ.set i (some ⟨.frz, false, t⟩)) := by
        refine ⟨fun a u e => ?_, by rw [List.length_set]; exact I.wf.len, fun j l u h => ?_, fun j k l u h hk => ?_, fun a b k l x h1 h2 => I.wf.sep a b k l x (ownd _ _ _ h1).2 (ownd _ _ _ h2).2⟩
        · by_cases ha : a = p
          · subst ha; rw [upd_same] at e; cases e; exact ho
          · rw [upd_ne ha] at e; exact I.wf.sub a u e
        · rcases sets j _ h with ⟨hj, z⟩ | ⟨hj, z⟩
          · cases z
            subst hj
            exact ⟨_, hv, OwnAt.rep n ho o⟩
          · obtain ⟨v, e, q⟩ := I.wf.frz j l u z
            exact ⟨v, e, Rep.mono (same_upd n) _ _ q⟩
        · rcases sets j _ h with ⟨hj, z⟩ | ⟨hj, z⟩
          · cases z; exact absurd rfl hk
          · obtain ⟨a, e, nF, q⟩ := I.wf.own j k l u z hk
            have ha : a ≠ p := fun y => by
              subst y
              exact hj (I.wf.sep j i k .own a ⟨l, u, z, hk, e⟩ oi)
            exact ⟨a, e, by rw [upd_ne ha]; exact nF, q.mono (same_upd n) rfl⟩
      have st : Stp F0 H0 σ τ0 (upd F p ob) H (τ.set i (some ⟨.frz, false, t⟩)) := by
        refine ⟨s.sub.trans (same_upd n), fun a h => ?_, s.fr, s.dom, fun j k a h => s.own j k a (ownd j k a h).2, fun j u h => ?_, fun j k u h => ?_⟩
        · by_cases ha : a = p
          · subst ha; exact .inr (.inr ⟨i, s.own i .own a oi⟩)
          · rw [upd_ne ha] at h; exact s.new a h
        · obtain ⟨u', h'⟩ := s.slot j u h
          by_cases hj : j = i
          · subst hj; exact ⟨_, List.getElem?_set_self hi⟩
          · exact ⟨u', by rw [List.getElem?_set_ne (Ne.symm hj)]; exact h'⟩
        · have h' := s.lock j k u h
          have hj : j ≠ i := fun z => by
            subst z
            rw [hs] at h'
            cases h'
          rw [List.getElem?_set_ne (Ne.symm hj)]
          exact h'
      refine ⟨t, _, _, h, I0.step w st, st, OwnAt.rep n ho o, same_upd n, fun j u hju => ?_⟩
      by_cases hj : j = i
      · subst hj
        rw [hs] at hju
        cases hju
        exact ⟨_, List.getElem?_set_self hi, rfl⟩
      · exact ⟨u, by rw [List.getElem?_set_ne (Ne.symm hj)]; exact hju, rfl⟩
def tf (t : TTE) : TTE := fun τ P => t τ fun r τ1 => frzR r τ1 fun u τ2 => P (.val false u) τ2
theorem tpe_f {e : Expr} {t : TTE} (h : TPE X B e t) : TPE X B e (tf t) := by
  refine ⟨PE.imp h.pe fun σ H Q q => ?_⟩
  obtain ⟨F, τ, P, I, ht, hq⟩ := q
  refine lift.go I ht fun r τ1 F1 H1 v h1 I1 s1 r1 f1 => ?_
  obtain ⟨u, τ2, F2, hp, I2, s2, rep, _⟩ := freeze I I1 s1 r1 f1 h1
  exact hq _ _ _ _ _ hp I2 s2 rep trivial
/-- a name's frozen value -/
theorem tpe_vf (i : Nat) {x : Str} {pos : Pos} (hN : X.N[i]? = some x := by rfl) (hv : Vis X.env.scope x := by first | exact Or.inl rfl | exact Or.inr (Or.inl rfl) | exact Or.inr (Or.inr rfl)) (hd : (x == ("__debug__" : Str)) = false := by decide)
    (hcd : (x == ("__classdict__" : Str)) = false := by decide) : TPE X B (.Name x pos) (tf (tv i)) := tpe_f (tpe_v i hN hv hd hcd)

/-! ### lists of values, frozen one after another -/
abbrev TTL := TSt → (List T → TSt → Prop) → Prop
def liftL (K : PySem.W.Frag) (B : Bs) (t : TTL) : TA := fun σ H Q => ∃ F τ P, Inn K B F H σ τ ∧ t τ P ∧
  ∀ ts τ' F' H' vs, P ts τ' → Inn K B F' H' σ τ' → Stp F H σ τ F' H' τ' → Reps K F' ts vs → Q vs H'
structure TPL (X : Cx) (B : Bs) (es : List Expr) (t : TTL) : Prop where
  pa : PA X es (liftL X.K B t)
def tlnil : TTL := fun τ P => P [] τ
def tlcons (te : TTE) (tl : TTL) : TTL := fun τ P => te τ fun r τ1 => frzR r τ1 fun t τ2 => tl τ2 fun ts τ3 => P (t :: ts) τ3
theorem tpl_nil : TPL X B [] tlnil := by
  refine ⟨PA.imp pa_nil fun σ H Q h => ?_⟩
  obtain ⟨F, τ, P, I, ht, hq⟩ := h
  exact hq _ _ _ _ _ ht I Stp.refl rfl
theorem tpl_cons {e : Expr} {es : List Expr} {te : TTE} {tl : TTL} (ha : TPE X B e te) (hr : TPL X B es tl) (hs : starEach (e :: es) X.env = (false, eval e X.env) :: starEach es X.env := by rfl) : TPL X B (e :: es) (tlcons te tl) := by
  refine ⟨PA.imp (pa_cons ha.pe hr.pa hs) fun σ H Q h => ?_⟩
  obtain ⟨F, τ, P, I, ht, hq⟩ := h
  refine lift.go I ht fun r τ1 F1 H1 v h1 I1 s1 r1 f1 => ?_
  obtain ⟨u, τ2, F2, hp, I2, s2, rep, _⟩ := freeze I I1 s1 r1 f1 h1
  refine ⟨F2, τ2, _, I2, hp, fun ts τ3 F3 H3 vs h3 I3 s3 r3 => ?_⟩
  exact hq _ _ _ _ _ h3 I3 (s2.trans s3) ⟨v, vs, rfl, Rep.mono s3.sub _ _ rep, r3⟩
def ttTup (tl : TTL) : TTE := fun τ P => tl τ fun ts τ1 => ts.length ≤ sizeLine ∧ P (.val false (.tup ts)) τ1
def ttLst (tl : TTL) : TTE := fun τ P => tl τ fun ts τ1 => ts.length ≤ sizeLine ∧ P (.val true (.lst ts)) τ1
variable {es : List Expr} {tl : TTL} {pos : Pos}
theorem tpe_tup {x1} (h : TPL X B es tl) : TPE X B (.Tuple es x1 pos) (ttTup tl) := by
  refine ⟨PE.imp (pe_tup h.pa) fun σ H Q h => ?_⟩
  obtain ⟨F, τ, P, I, ht, hq⟩ := h
  refine ⟨F, τ, _, I, ht, fun ts τ1 F1 H1 vs ⟨hl, hp⟩ I1 s1 r1 => ⟨by rw [← r1.len]; exact hl, fun p np => ?_⟩⟩
  have nF : F1 p = none := I1.wf.sub.free np
  have g : Grow F1 H1 (upd F1 p (.tup vs)) (upd H1 p (.tup vs)) := Grow.frz I1.wf.sub np
  obtain ⟨rr, fr⟩ := RG.rr (v := .ref p) (k := false) (t := .tup ts) I1.wf g ⟨p, vs, rfl, .inl (.inl upd_same), by rw [← r1.len]; exact hl, Reps.mono (same_upd nF) _ _ r1⟩
  exact hq _ _ _ _ _ hp (I1.step (g.wf I1.wf) g.step) (s1.trans g.step) rr trivial
theorem tpe_lst (h : TPL X B es tl) : TPE X B (.List es pos) (ttLst tl) := by
  refine ⟨PE.imp (pe_lst h.pa) fun σ H Q h => ?_⟩
  obtain ⟨F, τ, P, I, ht, hq⟩ := h
  refine ⟨F, τ, _, I, ht, fun ts τ1 F1 H1 vs ⟨hl, hp⟩ I1 s1 r1 => ⟨by rw [← r1.len]; exact hl, fun p np => ?_⟩⟩
  have nF : F1 p = none := I1.wf.sub.free np
  have g : Grow F1 H1 F1 (upd H1 p (.lst vs)) := Grow.own I1.wf.sub np
  obtain ⟨rr, fr⟩ := RG.rr (v := .ref p) (k := true) (t := .lst ts) I1.wf g ⟨p, rfl, np, nF, vs, upd_same, by rw [← r1.len]; exact hl, r1⟩
  exact hq _ _ _ _ _ hp (I1.step (g.wf I1.wf) g.step) (s1.trans g.step) rr (Fresh.step s1 fr)

/-! ### operators -/
def ttBin (g : G2) (ta tb : TTE) : TTE := fun τ P => ta τ fun ra τ1 => tb τ1 fun rb τ2 => g (ra.t τ2) (rb.t τ2) fun k t => P (.val k t) τ2
variable {a b c : Expr} {ta tb tc : TTE}
theorem bin_imp {f : Value → Value → Sem Value} {g : G2} {r : R2} (hg : ∀ (F H : Hp) (x y : V) (tx ty : T) (G : Bool → T → Prop) (Q : VK), Same F H → RdT X.K F H x tx → RdT X.K F H y ty → g tx ty G →
    (∀ k t v F' H', G k t → Grow F H F' H' → RG X.K H F' H' v k t → Q v H') → r x y H Q) (σ : St) (H : Hp) (Q : VK) (h : lift X.K B (ttBin g ta tb) σ H Q) : tOp r (lift X.K B ta) (lift X.K B tb) σ H Q := by
  obtain ⟨F, τ, P, I, ht, hq⟩ := h
  refine lift.go I ht fun ra τ1 F1 H1 x h1 I1 s1 r1 f1 => ?_
  refine lift.go I1 h1 fun rb τ2 F2 H2 y h2 I2 s2 r2 f2 => ?_
  refine hg F2 H2 x y _ _ _ Q I2.wf.sub ((r1.step s2).rd I2.wf) (r2.rd I2.wf) h2 fun k t v F' H' gk gr rg => ?_
  obtain ⟨rr, fr⟩ := RG.rr I2.wf gr rg
  exact hq _ _ _ _ _ gk (I2.step (gr.wf I2.wf) gr.step) ((s1.trans s2).trans gr.step) rr (Fresh.step (s1.trans s2) fr)
theorem tpe_bin {op : Operator} {g : G2} (ho : OpT X (binaryOp op) g) (ha : TPE X B a ta) (hb : TPE X B b tb) : TPE X B (.BinOp a op b pos) (ttBin g ta tb) := by
  obtain ⟨r, hr, hg⟩ := ho
  exact ⟨PE.imp (pe_op hr ha.pe hb.pe) (bin_imp (f := binaryOp op) hg)⟩
theorem tpe_cmp {op : CmpOp} {g : G2} (ho : OpT X (compareOp op) g) (ha : TPE X B a ta) (hb : TPE X B b tb) (hm : behindInMarks op b = false) : TPE X B (.Compare a [op] [b] pos) (ttBin g ta tb) := by
  obtain ⟨r, hr, hg⟩ := ho
  exact ⟨PE.imp (pe_cmpR hr ha.pe hb.pe hm) (bin_imp (f := compareOp op) hg)⟩
/-- a bool's value as a test -/
def ttB (te : TTE) : TTT := fun τ P => te τ fun r τ1 => match r.t τ1 with
  | .bl b => P b τ1
  | _ => False
theorem test_imp {te : TTE} (σ : St) (H : Hp) (Q : Bool → Hp → Prop) (h : liftT X.K B (ttB te) σ H Q) : lift X.K B te σ H fun x H' => ∃ k, x = .bl k ∧ Q k H' := by
  obtain ⟨F, τ, P, I, ht, hq⟩ := h
  refine lift.go I ht fun r τ1 F1 H1 v h1 I1 s1 r1 f1 => ?_
  have rd := r1.rd I1.wf
  cases e : r.t τ1 with
  | bl b =>
    rw [e] at h1 rd
    exact ⟨b, rd.bl, hq _ _ _ _ h1 I1 s1⟩
  | _ => rw [e] at h1; exact h1.elim
theorem tpt_cmp {op : CmpOp} {g : G2} (ho : OpT X (compareOp op) g) (ha : TPE X B a ta) (hb : TPE X B b tb) (hm : behindInMarks op b = false) : TPT X B (.Compare a [op] [b] pos) (ttB (ttBin g ta tb)) := by
  obtain ⟨r, hr, hg⟩ := ho
  refine ⟨PT.imp (pt_cmpR hr ha.pe hb.pe hm) fun σ H Q h => ?_⟩
  exact bin_imp (f := compareOp op) hg σ H _ (test_imp σ H Q h)
theorem tpt_val {e : Expr} {te : TTE} (h : TPE X B e te) (he : ∀ whole, isTrue e X.env whole = (do let v ← whole; standAt e.pos; holding [v] (truthy v)) := by intro _; rfl) : TPT X B e (ttB te) :=
  ⟨PT.imp (pt_val h.pe he) fun σ H Q h => test_imp σ H Q h⟩
/-! ### and, or, not, if else -/
variable {tA tB' : TTT} {rest : List Expr}
def ttAnd (t u : TTT) : TTT := fun τ P => t τ fun c τ1 => if c = true then u τ1 P else P false τ1
def ttOr (t u : TTT) : TTT := fun τ P => t τ fun c τ1 => if c = true then P true τ1 else u τ1 P
def ttNot (t : TTT) : TTT := fun τ P => t τ fun c τ1 => P (!c) τ1
theorem TPW.pt {e : Expr} {t : TTT} (h : TPW X B e t) : TPT X B e t := ⟨h.pw.pt⟩
theorem tpw_and1 (ha : TPT X B a tA) : TPW X B (.BoolOp .And [a] pos) tA := ⟨pw_and1 ha.pt⟩
theorem tpw_or1 (ha : TPT X B a tA) : TPW X B (.BoolOp .Or [a] pos) tA := ⟨pw_or1 ha.pt⟩
theorem tpw_and (ha : TPT X B a tA) (hb : TPW X B (.BoolOp .And (b :: rest) pos) tB') : TPW X B (.BoolOp .And (a :: b :: rest) pos) (ttAnd tA tB') := by
  refine ⟨PW.imp (pw_and ha.pt hb.pw) fun σ H Q h => ?_⟩
  obtain ⟨F, τ, P, I, ht, hq⟩ := h
  refine ⟨F, τ, _, I, ht, fun c τ1 F1 H1 h1 I1 s1 => ?_⟩
  cases c with
  | true =>
    rw [if_pos rfl] at h1 ⊢
    exact ⟨F1, τ1, _, I1, h1, fun c τ2 F2 H2 h2 I2 s2 => hq _ _ _ _ h2 I2 (s1.trans s2)⟩
  | false =>
    rw [if_neg Bool.false_ne_true] at h1 ⊢
    exact hq _ _ _ _ h1 I1 s1
theorem tpw_or (ha : TPT X B a tA) (hb : TPW X B (.BoolOp .Or (b :: rest) pos) tB') : TPW X B (.BoolOp .Or (a :: b :: rest) pos) (ttOr tA tB') := by
  refine ⟨PW.imp (pw_or ha.pt hb.pw) fun σ H Q h => ?_⟩
  obtain ⟨F, τ, P, I, ht, hq⟩ := h
  refine ⟨F, τ, _, I, ht, fun c τ1 F1 H1 h1 I1 s1 => ?_⟩
  cases c with
  | false =>
    rw [if_neg Bool.false_ne_true] at h1 ⊢
    exact ⟨F1, τ1, _, I1, h1, fun c τ2 F2 H2 h2 I2 s2 => hq _ _ _ _ h2 I2 (s1.trans s2)⟩
  | true =>
    rw [if_pos rfl] at h1 ⊢
    exact hq _ _ _ _ h1 I1 s1
theorem tpt_not (ha : TPT X B a tA) : TPT X B (.UnaryOp .Not a pos) (ttNot tA) := by
  refine ⟨PT.imp (pt_not ha.pt) fun σ H Q h => ?_⟩
  obtain ⟨F, τ, P, I, ht, hq⟩ := h
  exact ⟨F, τ, _, I, ht, fun c τ1 F1 H1 h1 I1 s1 => hq _ _ _ _ h1 I1 s1⟩
def ttIf (t : TTT) (ta tb : TTE) : TTE := fun τ P => t τ fun c τ1 => if c = true then ta τ1 P else tb τ1 P
/-- as values -/
def ttAndV (ta tb : TTE) : TTE := fun τ P => ta τ fun r τ1 => match r.t τ1 with
  | .bl b => if b = true then tb τ1 P else P (.val false (.bl false)) τ1
  | _ => False
def ttOrV (ta tb : TTE) : TTE := fun τ P => ta τ fun r τ1 => match r.t τ1 with
  | .bl b => if b = true then P (.val false (.bl true)) τ1 else tb τ1 P
  | _ => False
def ttNotV (ta : TTE) : TTE := fun τ P => ta τ fun r τ1 => match r.t τ1 with
  | .bl b => P (.val false (.bl (!b))) τ1
  | _ => False
theorem tpe_one {op} {t : TTE} (h : TPE X B a t) : TPE X B (.BoolOp op [a] pos) t := ⟨pe_one h.pe⟩
theorem bl_cases {te : TTE} {σ : St} {H : Hp} {F : Hp} {τ : TSt} {Pb : Bool → TSt → Prop} {Q : VK} (I : Inn X.K B F H σ τ) (ht : te τ fun r τ1 => match r.t τ1 with | .bl b => Pb b τ1 | _ => False)
    (k : ∀ b τ1 F1 H1, Pb b τ1 → Inn X.K B F1 H1 σ τ1 → Stp F H σ τ F1 H1 τ1 → Q (.bl b) H1) : lift X.K B te σ H Q := by
  refine lift.go I ht fun r τ1 F1 H1 v h1 I1 s1 r1 f1 => ?_
  have rd := r1.rd I1.wf
  cases e : r.t τ1 with
  | bl b =>
    rw [e] at h1 rd
    rw [rd.bl]
    exact k _ _ _ _ h1 I1 s1
  | _ => rw [e] at h1; exact h1.elim
theorem tpe_and (ha : TPE X B a ta) (hb : TPE X B (.BoolOp .And (b :: rest) pos) tb) : TPE X B (.BoolOp .And (a :: b :: rest) pos) (ttAndV ta tb) := by
  refine ⟨PE.imp (pe_and ha.pe hb.pe) fun σ H Q h => ?_⟩
  obtain ⟨F, τ, P, I, ht, hq⟩ := h
  refine bl_cases (Pb := fun b τ1 => if b = true then tb τ1 P else P (.val false (.bl false)) τ1) I ht fun c τ1 F1 H1 h1 I1 s1 => ⟨c, rfl, ?_⟩
  cases c with
  | true =>
    rw [if_pos rfl] at h1 ⊢
    exact lift.go I1 h1 fun r τ2 F2 H2 v h2 I2 s2 r2 f2 => hq _ _ _ _ _ h2 I2 (s1.trans s2) r2 (Fresh.step s1 f2)
  | false =>
    rw [if_neg Bool.false_ne_true] at h1 ⊢
    exact hq _ _ _ _ _ h1 I1 s1 rfl trivial
theorem tpe_or (ha : TPE X B a ta) (hb : TPE X B (.BoolOp .Or (b :: rest) pos) tb) : TPE X B (.BoolOp .Or (a :: b :: rest) pos) (ttOrV ta tb) := by
  refine ⟨PE.imp (pe_or ha.pe hb.pe) fun σ H Q h => ?_⟩
  obtain ⟨F, τ, P, I, ht, hq⟩ := h
  refine bl_cases (Pb := fun b τ1 => if b = true then P (.val false (.bl true)) τ1 else tb τ1 P) I ht fun c τ1 F1 H1 h1 I1 s1 => ⟨c, rfl, ?_⟩
  cases c with
  | false =>
    rw [if_neg Bool.false_ne_true] at h1 ⊢
    exact lift.go I1 h1 fun r τ2 F2 H2 v h2 I2 s2 r2 f2 => hq _ _ _ _ _ h2 I2 (s1.trans s2) r2 (Fresh.step s1 f2)
  | true =>
    rw [if_pos rfl] at h1 ⊢
    exact hq _ _ _ _ _ h1 I1 s1 rfl trivial
theorem tpe_not (ha : TPE X B a ta) : TPE X B (.UnaryOp .Not a pos) (ttNotV ta) := by
  refine ⟨PE.imp (pe_not ha.pe) fun σ H Q h => ?_⟩
  obtain ⟨F, τ, P, I, ht, hq⟩ := h
  exact bl_cases (Pb := fun b τ1 => P (.val false (.bl (!b))) τ1) I ht fun c τ1 F1 H1 h1 I1 s1 => ⟨c, rfl, hq _ _ _ _ _ h1 I1 s1 rfl trivial⟩
/-- a < b < c -/
def ttChain (g g' : G2) (ta tb tc : TTE) : TTE := fun τ P => ta τ fun ra τ1 => tb τ1 fun rb τ2 => g (ra.t τ2) (rb.t τ2) fun _ t => match t with
  | .bl true => tc τ2 fun rc τ3 => rb.t τ3 = rb.t τ2 ∧ g' (rb.t τ3) (rc.t τ3) fun k t => P (.val k t) τ3
  | .bl false => P (.val false (.bl false)) τ2
  | _ => False
theorem tpe_chain {op op' : CmpOp} {g g' : G2} (ho : OpT X (compareOp op) g) (ho' : OpT X (compareOp op') g') (ha : TPE X B a ta) (hb : TPE X B b tb) (hc : TPE X B c tc) (hm : lastMarks [op, op'] [b, c] = false := by with_unfolding_all rfl) :
    TPE X B (.Compare a [op, op'] [b, c] pos) (ttChain g g' ta tb tc) := by
  obtain ⟨r, hr, hg⟩ := ho
  obtain ⟨r', hr', hg'⟩ := ho'
  refine ⟨PE.imp (pe_chain hr hr' ha.pe hb.pe hc.pe hm) fun σ H Q h => ?_⟩
  obtain ⟨F, τ, P, I, ht, hq⟩ := h
  refine lift.go I ht fun ra τ1 F1 H1 x h1 I1 s1 r1 f1 => ?_
  refine lift.go I1 h1 fun rb τ2 F2 H2 y h2 I2 s2 r2 f2 => ?_
  refine hg F2 H2 x y _ _ _ _ I2.wf.sub ((r1.step s2).rd I2.wf) (r2.rd I2.wf) h2 fun k t v F' H' gk gr rg => ?_
  have I3 := I2.step (gr.wf I2.wf) gr.step
  cases t with
  | bl b =>
    have ev : v = .bl b := by
      cases k with
      | false => exact rg
      | true =>
        obtain ⟨_, _, _, _, z⟩ := rg
        exact z.elim
    subst ev
    refine ⟨b, rfl, ?_⟩
    cases b with
    | true =>
      rw [if_pos rfl]
      refine lift.go I3 gk fun rc τ3 F3 H3 z h3 I4 s3 r3 f3 => ?_
      obtain ⟨_, h3⟩ := h3
      refine hg' F3 H3 y z _ _ _ Q I4.wf.sub ((r2.step (gr.step.trans s3)).rd I4.wf) (r3.rd I4.wf) h3 fun k t v F' H' gk gr' rg => ?_
      obtain ⟨rr, fr⟩ := RG.rr I4.wf gr' rg
      exact hq _ _ _ _ _ gk (I4.step (gr'.wf I4.wf) gr'.step) ((((s1.trans s2).trans gr.step).trans s3).trans gr'.step) rr (Fresh.step (((s1.trans s2).trans gr.step).trans s3) fr)
    | false =>
      rw [if_neg Bool.false_ne_true]
      exact hq _ _ _ _ _ gk I3 ((s1.trans s2).trans gr.step) rfl trivial
  | _ => exact gk.elim
end
end TL

namespace TL
open PySem L2

structure TEnds where
  nx : TSt → Prop
  rt : R → TSt → Prop
  bk : TSt → Prop := fun _ => False
  ct : TSt → Prop := fun _ => False
abbrev TTS := TEnds → TSt → Prop
/-- between two points of a body -/
structure SS (F : Hp) (σ : St) (τ : TSt) (F' : Hp) (σ' : St) (τ' : TSt) : Prop where
  sub : Same F F'
  lock : ∀ (i : Nat) (k : Kd) (t : T), τ[i]? = some (some ⟨k, true, t⟩) → τ'[i]? = some (some ⟨k, true, t⟩) ∧ σ'[i]? = σ[i]?
theorem SS.refl {F : Hp} {σ : St} {τ : TSt} : SS F σ τ F σ τ := ⟨fun _ _ h => h, fun _ _ _ h => ⟨h, rfl⟩⟩
theorem SS.trans {F F1 F2 : Hp} {σ σ1 σ2 : St} {τ τ1 τ2 : TSt} (a : SS F σ τ F1 σ1 τ1) (b : SS F1 σ1 τ1 F2 σ2 τ2) : SS F σ τ F2 σ2 τ2 := ⟨a.sub.trans b.sub, fun i k t h => by
  obtain ⟨h1, e1⟩ := a.lock i k t h
  obtain ⟨h2, e2⟩ := b.lock i k t h1
  exact ⟨h2, e2.trans e1⟩⟩
theorem Stp.ss {F H F1 H1 : Hp} {σ : St} {τ τ1 : TSt} (s : Stp F H σ τ F1 H1 τ1) : SS F σ τ F1 σ τ1 := ⟨s.sub, fun i k t h => ⟨s.lock i k t h, rfl⟩⟩
structure EndsOk (K : PySem.W.Frag) (B : Bs) (F0 : Hp) (σ0 : St) (τ0 : TSt) (TD : TEnds) (D : Ends) : Prop where
  nx : ∀ F H σ τ, Inn K B F H σ τ → SS F0 σ0 τ0 F σ τ → TD.nx τ → D.nx σ H
  bk : ∀ F H σ τ, Inn K B F H σ τ → SS F0 σ0 τ0 F σ τ → TD.bk τ → D.bk σ H
  ct : ∀ F H σ τ, Inn K B F H σ τ → SS F0 σ0 τ0 F σ τ → TD.ct τ → D.ct σ H
  rt : ∀ F H σ τ r v, Inn K B F H σ τ → RR K F H σ τ v r → Fresh B.H v r → TD.rt r τ → D.rt v H
theorem EndsOk.step {K : PySem.W.Frag} {B : Bs} {F0 F1 : Hp} {σ0 σ1 : St} {τ0 τ1 : TSt} {TD : TEnds} {D : Ends} (e : EndsOk K B F0 σ0 τ0 TD D) (s : SS F0 σ0 τ0 F1 σ1 τ1) : EndsOk K B F1 σ1 τ1 TD D :=
  ⟨fun F H σ τ I q => e.nx F H σ τ I (s.trans q), fun F H σ τ I q => e.bk F H σ τ I (s.trans q), fun F H σ τ I q => e.ct F H σ τ I (s.trans q), e.rt⟩
def liftS (K : PySem.W.Frag) (B : Bs) (t : TTS) : TS := fun D σ H => ∃ F τ TD, Inn K B F H σ τ ∧ t TD τ ∧ EndsOk K B F σ τ TD D
structure TPS (X : Cx) (B : Bs) (st : Stmt) (t : TTS) : Prop where
  ps : PS X st (liftS X.K B t)
structure TPSs (X : Cx) (B : Bs) (st : List Stmt) (t : TTS) : Prop where
  pss : PSs X st (liftS X.K B t)

theorem Inn.freshB {K : PySem.W.Frag} {B : Bs} {F H : Hp} {σ : St} {τ : TSt} {v : V} (I : Inn K B F H σ τ) : ∀ {r : R}, Fresh H v r → Fresh B.H v r
  | .val false _, _ => trivial
  | .var _, _ => trivial
  | .val true _, ⟨p, e, n⟩ => ⟨p, e, by
    cases q : B.H p with
    | none => rfl
    | some o => exact absurd n (I.dom p (by rw [q]; simp))⟩

/-! ### storing -/
def canS : Option (Option Sl) → Bool
  | some none => true
  | some (some ⟨_, false, _⟩) => true
  | _ => false
def setS (τ : TSt) (i : Nat) (s : Sl) (P : TSt → Prop) : Prop := canS τ[i]? = true ∧ P (τ.set i (some s))
def stR (r : R) (τ : TSt) (i : Nat) (P : TSt → Prop) : Prop := match r with
  | .val true t => setS τ i ⟨.own, false, t⟩ P
  | r => frzR r τ fun t τ1 => setS τ1 i ⟨.frz, false, t⟩ P
theorem setS.inv {τ : TSt} {i : Nat} {s : Sl} {P : TSt → Prop} (h : setS τ i s P) : P (τ.set i (some s)) ∧ i < τ.length ∧ ∀ k t, τ[i]? ≠ some (some ⟨k, true, t⟩) := by
  obtain ⟨c, h⟩ := h
  refine ⟨h, ?_, fun k t z => by rw [z] at c; cases c⟩
  cases e : τ[i]? with
  | none => rw [e] at c; cases c
  | some x => exact (List.getElem?_eq_some_iff.mp e).1
section
variable {K : PySem.W.Frag} {B : Bs} {F H : Hp} {σ : St} {τ : TSt} {v : V}
theorem store_ss {i : Nat} {s : Sl} {x : Option V} (nl : ∀ k t, τ[i]? ≠ some (some ⟨k, true, t⟩)) : SS F σ τ F (σ.set i x) (τ.set i (some s)) := ⟨fun _ _ h => h, fun j k t h => by
  have hj : j ≠ i := fun z => by subst z; exact nl k t h
  rw [List.getElem?_set_ne (Ne.symm hj), List.getElem?_set_ne (Ne.symm hj)]
  exact ⟨h, rfl⟩⟩
theorem set_get {α : Type} {l : List α} {i j : Nat} {x y : α} (h : (l.set i x)[j]? = some y) : (j = i ∧ y = x ∧ i < l.length) ∨ (j ≠ i ∧ l[j]? = some y) := by
  by_cases hj : j = i
  · subst hj
    by_cases hl : j < l.length
    · rw [List.getElem?_set_self hl] at h
      exact .inl ⟨rfl, (Option.some.inj h).symm, hl⟩
    · rw [List.getElem?_eq_none (by simpa using hl)] at h
      cases h
  · rw [List.getElem?_set_ne (Ne.symm hj)] at h
    exact .inr ⟨hj, h⟩
theorem store_frz (I : Inn K B F H σ τ) {i : Nat} {t : T} (hi : i < τ.length) (r : Rep K F t v) : Inn K B F H (σ.set i (some v)) (τ.set i (some ⟨.frz, false, t⟩)) := by
  have own' : ∀ (j : Nat) (k : Kd) (a : Addr), Owns (σ.set i (some v)) (τ.set i (some ⟨.frz, false, t⟩)) j k a → j ≠ i ∧ Owns σ τ j k a := fun j k a ⟨l, u, h1, h2, h3⟩ => by
    rcases set_get h1 with ⟨_, z, _⟩ | ⟨hj, z⟩
    · cases z; exact absurd rfl h2
    · rw [List.getElem?_set_ne (Ne.symm hj)] at h3
      exact ⟨hj, l, u, z, h2, h3⟩
  have hiσ : i < σ.length := by rw [← I.wf.len]; exact hi
  refine ⟨⟨I.wf.sub, by rw [List.length_set, List.length_set]; exact I.wf.len, fun j l u h => ?_, fun j k l u h hk => ?_, fun a b k l x h1 h2 => I.wf.sep a b k l x (own' _ _ _ h1).2 (own' _ _ _ h2).2⟩, I.sub, I.new, I.fr, I.dom, fun j a h => I.ow j a (own' _ _ _ h).2, fun j m a h => I.ar j m a (own' _ _ _ h).2⟩
  · rcases set_get h with ⟨hj, z, _⟩ | ⟨hj, z⟩
    · cases z; subst hj
      exact ⟨v, List.getElem?_set_self hiσ, r⟩
    · rw [List.getElem?_set_ne (Ne.symm hj)]
      exact I.wf.frz j l u z
  · rcases set_get h with ⟨hj, z, _⟩ | ⟨hj, z⟩
    · cases z; exact absurd rfl hk
    · rw [List.getElem?_set_ne (Ne.symm hj)]
      exact I.wf.own j k l u z hk
theorem store_own (I : Inn K B F H σ τ) {i : Nat} {t : T} (hi : i < τ.length) (r : RR K F H σ τ v (.val true t)) (f : Fresh B.H v (.val true t)) : Inn K B F H (σ.set i (some v)) (τ.set i (some ⟨.own, false, t⟩)) := by
  obtain ⟨p, rfl, n, o, no⟩ := r
  obtain ⟨p', e, nb⟩ := f
  cases e
  have hiσ : i < σ.length := by rw [← I.wf.len]; exact hi
  have own' : ∀ (j : Nat) (k : Kd) (a : Addr), Owns (σ.set i (some (.ref p))) (τ.set i (some ⟨.own, false, t⟩)) j k a → (j = i ∧ k = .own ∧ a = p) ∨ (j ≠ i ∧ Owns σ τ j k a) := fun j k a ⟨l, u, h1, h2, h3⟩ => by
    rcases set_get h1 with ⟨hj, z, _⟩ | ⟨hj, z⟩
    · cases z; subst hj
      rw [List.getElem?_set_self hiσ] at h3
      cases h3
      exact .inl ⟨rfl, rfl, rfl⟩
    · rw [List.getElem?_set_ne (Ne.symm hj)] at h3
      exact .inr ⟨hj, l, u, z, h2, h3⟩
  refine ⟨⟨I.wf.sub, by rw [List.length_set, List.length_set]; exact I.wf.len, fun j l u h => ?_, fun j k l u h hk => ?_, fun a b k l x h1 h2 => ?_⟩, I.sub, I.new, I.fr, I.dom, fun j a h => ?_, fun j m a h => ?_⟩
  · rcases set_get h with ⟨hj, z, _⟩ | ⟨hj, z⟩
    · cases z
    · rw [List.getElem?_set_ne (Ne.symm hj)]
      exact I.wf.frz j l u z
  · rcases set_get h with ⟨hj, z, _⟩ | ⟨hj, z⟩
    · cases z; subst hj
      exact ⟨p, List.getElem?_set_self hiσ, n, o⟩
    · rw [List.getElem?_set_ne (Ne.symm hj)]
      exact I.wf.own j k l u z hk
  · rcases own' _ _ _ h1 with ⟨ha, _, e⟩ | ⟨_, q1⟩
    · rcases own' _ _ _ h2 with ⟨hb, _, _⟩ | ⟨_, q2⟩
      · rw [ha, hb]
      · rw [e] at q2; exact absurd q2 (no _ _)
    · rcases own' _ _ _ h2 with ⟨hb, _, e⟩ | ⟨_, q2⟩
      · rw [e] at q1; exact absurd q1 (no _ _)
      · exact I.wf.sep a b k l x q1 q2
  · rcases own' _ _ _ h with ⟨_, _, e⟩ | ⟨_, q⟩
    · rw [e]; exact nb
    · exact I.ow j a q
  · rcases own' _ _ _ h with ⟨_, e, _⟩ | ⟨_, q⟩
    · cases e
    · exact I.ar j m a q
/-- a result goes to slot i -/
theorem stR.ok {F0 H0 : Hp} {τ0 : TSt} {r : R} {i : Nat} {P : TSt → Prop} (I0 : Inn K B F0 H0 σ τ0) (I : Inn K B F H σ τ) (s : Stp F0 H0 σ τ0 F H τ) (rr : RR K F H σ τ v r) (f : Fresh H0 v r) (h : stR r τ i P) :
    ∃ F' τ', P τ' ∧ Inn K B F' H (σ.set i (some v)) τ' ∧ SS F0 σ τ0 F' (σ.set i (some v)) τ' := by
  have frz : ∀ h : frzR r τ fun t τ1 => setS τ1 i ⟨.frz, false, t⟩ P, ∃ F' τ', P τ' ∧ Inn K B F' H (σ.set i (some v)) τ' ∧ SS F0 σ τ0 F' (σ.set i (some v)) τ' := fun h => by
    obtain ⟨t, τ1, F1, h1, I1, s1, rep, _⟩ := freeze I0 I s rr f h
    obtain ⟨hp, hi, nl⟩ := h1.inv
    exact ⟨F1, _, hp, store_frz I1 hi rep, s1.ss.trans (store_ss nl)⟩
  cases r with
  | var j => exact frz h
  | val k t =>
    cases k with
    | false => exact frz h
    | true =>
      obtain ⟨hp, hi, nl⟩ := setS.inv h
      exact ⟨F, _, hp, store_own I hi rr (I0.freshB f), s.ss.trans (store_ss nl)⟩
end

/-! ### blocks, simple statements -/
section
variable {X : Cx} {B : Bs} {st : Stmt} {rest : List Stmt} {t u : TTS} {e : Expr} {te : TTE} {pos : Pos}
def ttNext : TTS := fun D τ => D.nx τ
def ttSeq (t u : TTS) : TTS := fun D τ => t { D with nx := u D } τ
theorem tpss_nil : TPSs X B [] ttNext := ⟨PSs.imp pss_nil fun D σ H h => by
  obtain ⟨F, τ, TD, I, h, ok⟩ := h
  exact ok.nx F H σ τ I SS.refl h⟩
theorem tpss_cons (h1 : TPS X B st t) (h2 : TPSs X B rest u) : TPSs X B (st :: rest) (ttSeq t u) := ⟨PSs.imp (pss_cons h1.ps h2.pss) fun D σ H h => by
  obtain ⟨F, τ, TD, I, h, ok⟩ := h
  exact ⟨F, τ, _, I, h, fun F1 H1 σ1 τ1 I1 s1 q => ⟨F1, τ1, TD, I1, q, ok.step s1⟩, ok.bk, ok.ct, ok.rt⟩⟩
theorem tpss_one (h1 : TPS X B st t) : TPSs X B [st] t := ⟨pss_one h1.ps⟩
def ttBreak : TTS := fun D τ => D.bk τ
def ttCont : TTS := fun D τ => D.ct τ
theorem tps_pass : TPS X B (.Pass pos) ttNext := ⟨PS.imp ps_pass fun D σ H h => by
  obtain ⟨F, τ, TD, I, h, ok⟩ := h
  exact ok.nx F H σ τ I SS.refl h⟩
theorem tps_break : TPS X B (.Break pos) ttBreak := ⟨PS.imp ps_break fun D σ H h => by
  obtain ⟨F, τ, TD, I, h, ok⟩ := h
  exact ok.bk F H σ τ I SS.refl h⟩
theorem tps_continue : TPS X B (.Continue pos) ttCont := ⟨PS.imp ps_continue fun D σ H h => by
  obtain ⟨F, τ, TD, I, h, ok⟩ := h
  exact ok.ct F H σ τ I SS.refl h⟩
def ttDrop (te : TTE) : TTS := fun D τ => te τ fun _ τ1 => D.nx τ1
theorem tps_expr (he : TPE X B e te) (hs : swapsWith e none pos.line X.env = pure false := by rfl) : TPS X B (.Expr e pos) (ttDrop te) := ⟨PS.imp (ps_expr he.pe hs) fun D σ H h => by
  obtain ⟨F, τ, TD, I, h, ok⟩ := h
  exact lift.go I h fun r τ1 F1 H1 v h1 I1 s1 r1 f1 => ok.nx F1 H1 σ τ1 I1 s1.ss h1⟩
def ttRet (te : TTE) : TTS := fun D τ => te τ fun r τ1 => D.rt r τ1
theorem tps_ret (he : TPE X B e te) : TPS X B (.Return (some e) pos) (ttRet te) := ⟨PS.imp (ps_ret he.pe) fun D σ H h => by
  obtain ⟨F, τ, TD, I, h, ok⟩ := h
  exact lift.go I h fun r τ1 F1 H1 v h1 I1 s1 r1 f1 => ok.rt F1 H1 σ τ1 r v I1 r1 (I.freshB f1) h1⟩
def ttRetN : TTS := fun D τ => D.rt (.val false .non) τ
theorem tps_retN : TPS X B (.Return none pos) ttRetN := ⟨PS.imp ps_retN fun D σ H h => by
  obtain ⟨F, τ, TD, I, h, ok⟩ := h
  exact ok.rt F H σ τ (.val false .non) .non I (show Rep X.K F .non .non from rfl) trivial h⟩
def ttIfS (c : TTT) (t u : TTS) : TTS := fun D τ => c τ fun b τ1 => if b = true then t D τ1 else u D τ1
theorem tps_if {c : Expr} {a b : List Stmt} {tc : TTT} (hc : TPT X B c tc) (ha : TPSs X B a t) (hb : TPSs X B b u) : TPS X B (.If c a b pos) (ttIfS tc t u) := ⟨PS.imp (ps_if hc.pt ha.pss hb.pss) fun D σ H h => by
  obtain ⟨F, τ, TD, I, h, ok⟩ := h
  refine ⟨F, τ, _, I, h, fun d τ1 F1 H1 h1 I1 s1 => ?_⟩
  cases d with
  | true => rw [if_pos rfl] at h1 ⊢; exact ⟨F1, τ1, TD, I1, h1, ok.step s1.ss⟩
  | false => rw [if_neg Bool.false_ne_true] at h1 ⊢; exact ⟨F1, τ1, TD, I1, h1, ok.step s1.ss⟩⟩
def ttNever : TTS := fun _ _ => False
theorem tps_never : TPS X B st ttNever := ⟨PS.imp ps_never fun D σ H h => by
  obtain ⟨F, τ, TD, I, h, ok⟩ := h
  exact h⟩
def ttSet (i : Nat) (te : TTE) : TTS := fun D τ => te τ fun r τ1 => stR r τ1 i D.nx
theorem tps_set {i : Nat} {x : Str} {pos' : Pos} (hN : X.N.Nodup) (hi : X.N[i]? = some x) (hx : Loc X.env.scope x) (he : TPE X B e te) (hs : swapsWith e (some (.Name x pos')) pos.line X.env = pure false := by rfl) (hf : X.fn x = true ∨ X.env.scope.names.lookup x = some .local := by first | exact .inl rfl | exact .inr rfl | assumption) :
    TPS X B (.Assign [.Name x pos'] e pos) (ttSet i te) := ⟨PS.imp (ps_set hN hi hx he.pe hs hf) fun D σ H h => by
  obtain ⟨F, τ, TD, I, h, ok⟩ := h
  refine lift.go I h fun r τ1 F1 H1 v h1 I1 s1 r1 f1 => ?_
  obtain ⟨F2, τ2, h2, I2, s2⟩ := stR.ok I I1 s1 r1 f1 h1
  exact ok.nx F2 H1 _ τ2 I2 s2 h2⟩

/-! ### targets -/
abbrev TTG := T → TSt → (TSt → Prop) → Prop
abbrev TTGs := List T → TSt → (TSt → Prop) → Prop
def liftG (K : PySem.W.Frag) (B : Bs) (is : List Nat) (g : TTG) : TG := fun v σ H Q => ∃ F τ t P, Inn K B F H σ τ ∧ Rep K F t v ∧ g t τ P ∧
  ∀ σ' τ', Inn K B F H σ' τ' → SS F σ τ F σ' τ' → (σ'.length = σ.length ∧ ∀ (j : Nat), j ∉ is → σ'[j]? = σ[j]? ∧ τ'[j]? = τ[j]?) → (∀ (j : Nat), j ∈ is → ∀ s : Sl, τ'[j]? = some (some s) → s.k = .frz) → P τ' → Q σ' H
def liftGs (K : PySem.W.Frag) (B : Bs) (is : List Nat) (g : TTGs) : TGs := fun vs σ H Q => ∃ F τ ts P, Inn K B F H σ τ ∧ Reps K F ts vs ∧ g ts τ P ∧
  ∀ σ' τ', Inn K B F H σ' τ' → SS F σ τ F σ' τ' → (σ'.length = σ.length ∧ ∀ (j : Nat), j ∉ is → σ'[j]? = σ[j]? ∧ τ'[j]? = τ[j]?) → (∀ (j : Nat), j ∈ is → ∀ s : Sl, τ'[j]? = some (some s) → s.k = .frz) → P τ' → Q σ' H
structure TPG (X : Cx) (B : Bs) (is : List Nat) (e : Expr) (g : TTG) : Prop where
  pg : PG X e (liftG X.K B is g)
structure TPGs (X : Cx) (B : Bs) (is : List Nat) (e : List Expr) (g : TTGs) : Prop where
  pgs : PGs X e (liftGs X.K B is g)
theorem PG.imp {e : Expr} {t u : TG} (h : PG X e t) (i : ∀ v σ H Q, u v σ H Q → t v σ H Q) : PG X e u := ⟨fun pins s σ H v w Q I r q => h.run pins s σ H v w Q I r (i v σ H Q q)⟩
theorem PGs.imp {e : List Expr} {t u : TGs} (h : PGs X e t) (i : ∀ v σ H Q, u v σ H Q → t v σ H Q) : PGs X e u := ⟨fun pins s σ H v w Q I r q => h.run pins s σ H v w Q I r (i v σ H Q q)⟩
def tgN (i : Nat) : TTG := fun t τ P => setS τ i ⟨.frz, false, t⟩ P
theorem tpg_n {i : Nat} {x : Str} (hN : X.N.Nodup) (hi : X.N[i]? = some x) (hx : Loc X.env.scope x) (hf : X.fn x = true ∨ X.env.scope.names.lookup x = some .local := by first | exact .inl rfl | exact .inr rfl | assumption) : TPG X B [i] (.Name x pos) (tgN i) :=
  ⟨PG.imp (pg_name hN hi hx hf) fun v σ H Q h => by
  obtain ⟨F, τ, t, P, I, r, h, q⟩ := h
  obtain ⟨hp, hi', nl⟩ := setS.inv h
  refine q _ _ (store_frz I hi' r) (store_ss nl) ⟨List.length_set .., fun j hj => ?_⟩ (fun j hj s e => ?_) hp
  · have hj : i ≠ j := fun z => hj (by simp [z])
    exact ⟨List.getElem?_set_ne hj, List.getElem?_set_ne hj⟩
  · rcases set_get e with ⟨_, z, _⟩ | ⟨z, _⟩
    · cases z; rfl
    · exact absurd (by simpa using hj) z⟩
def tgsNil : TTGs := fun ts τ P => match ts with
  | [] => P τ
  | _ => False
def tgsCons (g : TTG) (gs : TTGs) : TTGs := fun ts τ P => match ts with
  | t :: r => g t τ fun τ1 => gs r τ1 P
  | _ => False
theorem tpgs_nil : TPGs X B [] [] tgsNil := ⟨PGs.imp pgs_nil fun vs σ H Q h => by
  obtain ⟨F, τ, ts, P, I, r, h, q⟩ := h
  cases ts with
  | nil => exact ⟨r, q σ τ I SS.refl ⟨rfl, fun _ _ => ⟨rfl, rfl⟩⟩ (fun _ z => nomatch z) h⟩
  | cons _ _ => exact h.elim⟩
theorem tpgs_cons {e : Expr} {es : List Expr} {g : TTG} {gs : TTGs} {is js : List Nat} (h1 : TPG X B is e g) (h2 : TPGs X B js es gs) (hs : (assignEach (e :: es) X.env).map (·.2) = assign e X.env :: (assignEach es X.env).map (·.2) := by rfl) : TPGs X B (is ++ js) (e :: es) (tgsCons g gs) :=
  ⟨PGs.imp (pgs_cons h1.pg h2.pgs hs) fun vs σ H Q h => by
  obtain ⟨F, τ, ts, P, I, r, h, q⟩ := h
  cases ts with
  | nil => exact h.elim
  | cons t ts =>
    obtain ⟨v, vr, rfl, r1, r2⟩ := r
    refine ⟨v, vr, rfl, F, τ, t, _, I, r1, h, fun σ1 τ1 I1 s1 n1 f1 h1 => ?_⟩
    refine ⟨F, τ1, ts, _, I1, r2, h1, fun σ2 τ2 I2 s2 n2 f2 h2 => q σ2 τ2 I2 (s1.trans s2) ⟨n2.1.trans n1.1, fun j hj => ?_⟩ (fun j hj s e => ?_) h2⟩
    · rw [List.mem_append, not_or] at hj
      exact ⟨(n2.2 j hj.2).1.trans (n1.2 j hj.1).1, (n2.2 j hj.2).2.trans (n1.2 j hj.1).2⟩
    · by_cases hj2 : j ∈ js
      · exact f2 j hj2 s e
      · rw [(n2.2 j hj2).2] at e
        exact f1 j ((List.mem_append.mp hj).resolve_right hj2) s e⟩
def tgTup (n : Nat) (gs : TTGs) : TTG := fun t τ P => match t with
  | .tup ts => ts.length = n ∧ gs ts τ P
  | _ => False
theorem tpg_tup {es : List Expr} {k : Nat} {gs : TTGs} {n : Nat} {is : List Nat} (hc : X.calm = true) (h : TPGs X B is es gs) (hn : (assignEach es X.env).length = n := by rfl) (hst : (assignEach es X.env).findIdx? (·.1) = none := by rfl) :
    TPG X B is (.Tuple es k pos) (tgTup n gs) := ⟨PG.imp (pg_tup hc h.pgs hn hst) fun v σ H Q h => by
  obtain ⟨F, τ, t, P, I, r, h, q⟩ := h
  cases t with
  | tup ts =>
    obtain ⟨a, vs, rfl, sq, z, rs⟩ := r
    exact ⟨a, vs, rfl, SqT.mono I.wf.sub sq, by rw [← rs.len]; exact h.1, F, τ, ts, P, I, rs, h.2, q⟩
  | _ => exact h.elim⟩
def ttAsg (te : TTE) (g : TTG) : TTS := fun D τ => te τ fun r τ1 => frzR r τ1 fun t τ2 => g t τ2 D.nx
theorem tps_asg {tg : Expr} {g : TTG} {is : List Nat} (he : TPE X B e te) (hg : TPG X B is tg g) (hs : swapsWithSole [tg] e pos.line X.env = pure false := by rfl) (hw : swappedStores [tg] e X.env = pure none := by rfl)
    (h1 : (assignEach [tg] X.env).map (·.2) = [assign tg X.env] := by rfl) : TPS X B (.Assign [tg] e pos) (ttAsg te g) := ⟨PS.imp (ps_asg he.pe hg.pg hs hw h1) fun D σ H h => by
  obtain ⟨F, τ, TD, I, h, ok⟩ := h
  refine lift.go I h fun r τ1 F1 H1 v h1 I1 s1 r1 f1 => ?_
  obtain ⟨t, τ2, F2, h2, I2, s2, rep, _⟩ := freeze I I1 s1 r1 f1 h1
  exact ⟨F2, τ2, t, _, I2, rep, h2, fun σ' τ' I' s' _ _ q => ok.nx F2 H1 σ' τ' I' (s2.ss.trans s') q⟩⟩

/-! ### while -/
def ttWhile (c : TTT) (tb : TTS) : TTS := fun D τ => ∃ W : Nat → TSt → Prop, (∃ m, W m τ) ∧ ∀ m τ, W m τ → c τ fun b τ1 =>
  if b = true then tb { D with nx := fun τ' => ∃ m', m' < m ∧ W m' τ', ct := fun τ' => ∃ m', m' < m ∧ W m' τ', bk := D.nx } τ1 else D.nx τ1
theorem tps_while {c : Expr} {body : List Stmt} {tc : TTT} {tb : TTS} (hp : PassesOwn (model X.prog X.w) X.A X.env X.xe) (hc : TPT X B c tc) (hb : TPSs X B body tb) : TPS X B (.While c body [] pos) (ttWhile tc tb) :=
  ⟨PS.imp (ps_while hp hc.pt hb.pss) fun D σ H h => by
  obtain ⟨F, τ, TD, I, ⟨W, ⟨m0, w0⟩, turn⟩, ok⟩ := h
  refine ⟨fun m σ1 H1 => ∃ F1 τ1, Inn X.K B F1 H1 σ1 τ1 ∧ SS F σ τ F1 σ1 τ1 ∧ W m τ1, ⟨m0, F, τ, I, SS.refl, w0⟩, ?_⟩
  rintro m σ1 H1 ⟨F1, τ1, I1, s1, w1⟩
  refine ⟨F1, τ1, _, I1, turn m τ1 w1, fun b τ2 F2 H2 h2 I2 s2 => ?_⟩
  cases b with
  | false =>
    rw [if_neg Bool.false_ne_true] at h2 ⊢
    exact ok.nx F2 H2 σ1 τ2 I2 (s1.trans s2.ss) h2
  | true =>
    rw [if_pos rfl] at h2 ⊢
    refine ⟨fun σ' H' => ∃ m', m' < m ∧ ∃ F1 τ1, Inn X.K B F1 H' σ' τ1 ∧ SS F σ τ F1 σ' τ1 ∧ W m' τ1, fun σ' H' ⟨m', hm, F3, τ3, I3, s3, w3⟩ => ⟨m', hm, F3, τ3, I3, s3, w3⟩, F2, τ2, _, I2, h2, ?_⟩
    have s12 := s1.trans s2.ss
    exact ⟨fun F3 H3 σ3 τ3 I3 s3 ⟨m', hm, w3⟩ => ⟨m', hm, F3, τ3, I3, s12.trans s3, w3⟩, fun F3 H3 σ3 τ3 I3 s3 h3 => ok.nx F3 H3 σ3 τ3 I3 (s12.trans s3) h3, fun F3 H3 σ3 τ3 I3 s3 ⟨m', hm, w3⟩ => ⟨m', hm, F3, τ3, I3, s12.trans s3, w3⟩, ok.rt⟩⟩

/-! ### what is walked -/
/-- the slot that is locked through a loop -/
abbrev Lk := Option Nat
def lckT (l : Bool) (i : Nat) (τ : TSt) : TSt := match τ[i]? with
  | some (some s) => τ.set i (some ⟨s.k, l, s.t⟩)
  | _ => τ
def lck (u : Lk) (τ : TSt) : TSt := match u with
  | none => τ
  | some i => lckT true i τ
/-- the flag as it was in τ1 -/
def unl (u : Lk) (τ1 τ2 : TSt) : TSt := match u with
  | none => τ2
  | some i => match τ1[i]? with
    | some (some s) => lckT s.l i τ2
    | _ => τ2
theorem lckT_get {l : Bool} {i j : Nat} {τ : TSt} {k : Kd} {b : Bool} {t : T} (h : (lckT l i τ)[j]? = some (some ⟨k, b, t⟩)) : ∃ b', τ[j]? = some (some ⟨k, b', t⟩) ∧ (j = i → b = l) ∧ (j ≠ i → b = b') := by
  unfold lckT at h
  split at h
  · rename_i s e
    rcases set_get h with ⟨hj, z, _⟩ | ⟨hj, z⟩
    · cases z; subst hj
      exact ⟨s.l, e, fun _ => rfl, fun n => absurd rfl n⟩
    · exact ⟨b, z, fun n => absurd n hj, fun _ => rfl⟩
  · rename_i ne
    refine ⟨b, h, fun e => ?_, fun _ => rfl⟩
    subst e
    exact absurd h (ne _)
theorem lckT_of {l : Bool} {i j : Nat} {τ : TSt} {k : Kd} {b : Bool} {t : T} (h : τ[j]? = some (some ⟨k, b, t⟩)) : (lckT l i τ)[j]? = some (some ⟨k, if j = i then l else b, t⟩) := by
  unfold lckT
  by_cases hj : j = i
  · subst hj
    rw [h, if_pos rfl]
    exact List.getElem?_set_self (List.getElem?_eq_some_iff.mp h).1
  · rw [if_neg hj]
    split
    · rw [List.getElem?_set_ne (Ne.symm hj)]; exact h
    · exact h
theorem lckT_len {l : Bool} {i : Nat} {τ : TSt} : (lckT l i τ).length = τ.length := by
  unfold lckT
  split
  · rw [List.length_set]
  · rfl
theorem lckT_owns {l : Bool} {i j : Nat} {σ : St} {τ : TSt} {k : Kd} {a : Addr} : Owns σ (lckT l i τ) j k a ↔ Owns σ τ j k a := by
  constructor
  · rintro ⟨b, t, h1, h2, h3⟩
    obtain ⟨b', h, _⟩ := lckT_get h1
    exact ⟨b', t, h, h2, h3⟩
  · rintro ⟨b, t, h1, h2, h3⟩
    exact ⟨_, t, lckT_of h1, h2, h3⟩
theorem lckT_wf {K : PySem.W.Frag} {F H : Hp} {σ : St} {τ : TSt} {l : Bool} {i : Nat} (w : WF K F H σ τ) : WF K F H σ (lckT l i τ) :=
  ⟨w.sub, lckT_len.trans w.len, fun j b t h => let ⟨b', h', _⟩ := lckT_get h; w.frz j b' t h', fun j k b t h hk => let ⟨b', h', _⟩ := lckT_get h; w.own j k b' t h' hk, fun i j k m a h1 h2 => w.sep i j k m a (lckT_owns.mp h1) (lckT_owns.mp h2)⟩
theorem lckT_inn {K : PySem.W.Frag} {B : Bs} {F H : Hp} {σ : St} {τ : TSt} {l : Bool} {i : Nat} (I : Inn K B F H σ τ) : Inn K B F H σ (lckT l i τ) :=
  ⟨lckT_wf I.wf, I.sub, I.new, I.fr, I.dom, fun i a h => I.ow i a (lckT_owns.mp h), fun i j a h => I.ar i j a (lckT_owns.mp h)⟩
theorem lck_inn {K : PySem.W.Frag} {B : Bs} {F H : Hp} {σ : St} {τ : TSt} {u : Lk} (I : Inn K B F H σ τ) : Inn K B F H σ (lck u τ) := by
  cases u with
  | none => exact I
  | some i => exact lckT_inn I
theorem unl_inn {K : PySem.W.Frag} {B : Bs} {F H : Hp} {σ : St} {τ1 τ : TSt} {u : Lk} (I : Inn K B F H σ τ) : Inn K B F H σ (unl u τ1 τ) := by
  cases u with
  | none => exact I
  | some i =>
    unfold unl
    simp only
    split
    · exact lckT_inn I
    · exact I
theorem lck_owns {j : Nat} {σ : St} {τ : TSt} {k : Kd} {a : Addr} {u : Lk} : Owns σ (lck u τ) j k a ↔ Owns σ τ j k a := by
  cases u with
  | none => exact Iff.rfl
  | some i => exact lckT_owns
theorem unl_owns {j : Nat} {σ : St} {τ1 τ : TSt} {k : Kd} {a : Addr} {u : Lk} : Owns σ (unl u τ1 τ) j k a ↔ Owns σ τ j k a := by
  cases u with
  | none => exact Iff.rfl
  | some i =>
    unfold unl
    simp only
    split
    · exact lckT_owns
    · exact Iff.rfl
theorem unl_ss {F F2 : Hp} {σ σ2 : St} {τ1 τ2 : TSt} {u : Lk} (s : SS F σ (lck u τ1) F2 σ2 τ2) : SS F σ τ1 F2 σ2 (unl u τ1 τ2) := by
  cases u with
  | none => exact s
  | some i =>
    refine ⟨s.sub, fun j k t h => ?_⟩
    have h' : (lck (some i) τ1)[j]? = some (some ⟨k, true, t⟩) := by
      have q := lckT_of (l := true) (i := i) h
      rw [ite_self] at q
      exact q
    obtain ⟨h2, e2⟩ := s.lock j k t h'
    refine ⟨?_, e2⟩
    unfold unl
    simp only
    split
    · rename_i s' es
      have q := lckT_of (l := s'.l) (i := i) h2
      rw [q]
      by_cases hj : j = i
      · subst hj
        rw [h] at es
        cases es
        simp
      · rw [if_neg hj]
    · exact h2
theorem unl_stp {F H F2 H2 : Hp} {σ : St} {τ1 τ2 : TSt} {u : Lk} (s : Stp F H σ (lck u τ1) F2 H2 τ2) : Stp F H σ τ1 F2 H2 (unl u τ1 τ2) where
  sub := s.sub
  new := fun a h => by
    rcases s.new a h with z | z | ⟨i, z⟩
    · exact .inl z
    · exact .inr (.inl z)
    · exact .inr (.inr ⟨i, lck_owns.mp z⟩)
  fr := fun a o h n => s.fr a o h fun i k q => n i k (lck_owns.mp q)
  dom := s.dom
  own := fun i k a h => lck_owns.mp (s.own i k a (unl_owns.mp h))
  slot := fun i x h => by
    have l1 : ∃ s', (lck u τ1)[i]? = some (some s') := by
      cases u with
      | none => exact ⟨x, h⟩
      | some j => exact ⟨_, lckT_of (k := x.k) (b := x.l) (t := x.t) h⟩
    obtain ⟨s', h'⟩ := l1
    obtain ⟨s2, h2⟩ := s.slot i s' h'
    cases u with
    | none => exact ⟨s2, h2⟩
    | some j =>
      unfold unl
      simp only
      split
      · exact ⟨_, lckT_of (k := s2.k) (b := s2.l) (t := s2.t) h2⟩
      · exact ⟨s2, h2⟩
  lock := fun i k t h => ((unl_ss s.ss).lock i k t h).1
abbrev TTI := TSt → (List T → Lk → TSt → Prop) → Prop
/-- the source stands through the loop, and yields these -/
structure SrcOk (K : PySem.W.Frag) (J : It) (ts : List T) (S : Hp → St → TSt → Prop) : Prop where
  keep : ∀ F σ τ F' σ' τ', S F σ τ → SS F σ τ F' σ' τ' → S F' σ' τ'
  go : ∀ i F H σ τ, S F σ τ → WF K F H σ τ → i < ts.length → J.go i H
  stop : ∀ F H σ τ, S F σ τ → WF K F H σ τ → J.stop ts.length H
  yld : ∀ i t F H σ τ x H', S F σ τ → WF K F H σ τ → ts[i]? = some t → J.yld i H x H' → ∃ F', Grow F H F' H' ∧ Rep K F' t x
def liftI (K : PySem.W.Frag) (B : Bs) (ti : TTI) : TI := fun σ H R => ∃ F τ P, Inn K B F H σ τ ∧ ti τ P ∧
  ∀ ts u τ1 F1 H1 J S, P ts u τ1 → Inn K B F1 H1 σ τ1 → Stp F H σ τ F1 H1 τ1 → SrcOk K J ts S → S F1 σ (lck u τ1) → R J H1
structure TPI (X : Cx) (B : Bs) (tg e : Expr) (ti : TTI) : Prop where
  pi : PI X tg e (liftI X.K B ti)
theorem PI.imp {tg e : Expr} {t u : TI} (h : PI X tg e t) (i : ∀ σ H R, u σ H R → t σ H R) : PI X tg e u := ⟨fun pins s σ H R I q => h.run pins s σ H R I (i σ H R q)⟩

/-! ### for -/
def ttFor (ti : TTI) (g : TTG) (tb : TTS) : TTS := fun D τ => ti τ fun ts u τ1 => ∃ Pv : Nat → TSt → Prop, Pv 0 (lck u τ1) ∧
  (∀ i t τ2, ts[i]? = some t → Pv i τ2 → g t τ2 fun τ3 => tb { D with nx := Pv (i + 1), ct := Pv (i + 1), bk := fun τ4 => D.nx (unl u τ1 τ4) } τ3) ∧ ∀ τ2, Pv ts.length τ2 → D.nx (unl u τ1 τ2)
theorem tps_for {tg iter : Expr} {body : List Stmt} {ti : TTI} {g : TTG} {tb : TTS} {is : List Nat} (hp : PassesOwn (model X.prog X.w) X.A X.env X.xe) (hc : X.calm = true) (hi : TPI X B tg iter ti) (hg : TPG X B is tg g) (hb : TPSs X B body tb)
    (hs : ∀ x, foldedSetIterable iter X.env x = pure x := by intro _; rfl) : TPS X B (.For tg iter body [] pos) (ttFor ti g tb) := ⟨PS.imp (ps_for hp hc hi.pi hg.pg hb.pss hs) fun D σ H h => by
  obtain ⟨F, τ, TD, I, h, ok⟩ := h
  refine ⟨F, τ, _, I, h, fun ts u τ1 F1 H1 J S ⟨Pv, p0, turn, fin⟩ I1 s01 so s0 => ?_⟩
  refine ⟨fun i m σ2 H2 => m = ts.length - i ∧ i ≤ ts.length ∧ ∃ F2 τ2, Inn X.K B F2 H2 σ2 τ2 ∧ SS F1 σ (lck u τ1) F2 σ2 τ2 ∧ Pv i τ2, ⟨ts.length, by simp, Nat.zero_le _, F1, _, lck_inn I1, SS.refl, p0⟩, ?_⟩
  rintro i m σ2 H2 ⟨rfl, hi, F2, τ2, I2, s2, p2⟩
  have src := so.keep _ _ _ _ _ _ s0 s2
  by_cases hlt : i < ts.length
  · refine .inr ⟨so.go i F2 H2 σ2 τ2 src I2.wf hlt, fun σ3 H3 => ∃ F3 τ3, Inn X.K B F3 H3 σ3 τ3 ∧ SS F1 σ (lck u τ1) F3 σ3 τ3 ∧ Pv (i + 1) τ3, fun σ3 H3 ⟨F3, τ3, I3, s3, p3⟩ => ⟨ts.length - (i + 1), by omega, rfl, hlt, F3, τ3, I3, s3, p3⟩, fun x H3 y => ?_⟩
    have ht : ts[i]? = some ts[i] := List.getElem?_eq_getElem hlt
    obtain ⟨F3, gr, rep⟩ := so.yld i ts[i] F2 H2 σ2 τ2 x H3 src I2.wf ht y
    have I3 := I2.step (gr.wf I2.wf) gr.step
    have s3 : SS F1 σ (lck u τ1) F3 σ2 τ2 := s2.trans (gr.step (σ := σ2) (τ := τ2)).ss
    refine ⟨F3, τ2, ts[i], _, I3, rep, turn i _ τ2 ht p2, fun σ4 τ4 I4 s4 _ _ h4 => ?_⟩
    refine ⟨F3, τ4, _, I4, h4, ?_⟩
    have s14 := s3.trans s4
    exact ⟨fun F5 H5 σ5 τ5 I5 s5 p5 => ⟨F5, τ5, I5, s14.trans s5, p5⟩, fun F5 H5 σ5 τ5 I5 s5 h5 => ok.nx F5 H5 σ5 _ (unl_inn I5) (s01.ss.trans (unl_ss (s14.trans s5))) h5,
      fun F5 H5 σ5 τ5 I5 s5 p5 => ⟨F5, τ5, I5, s14.trans s5, p5⟩, ok.rt⟩
  · have e : i = ts.length := by omega
    subst e
    exact .inl ⟨so.stop F2 H2 σ2 τ2 src I2.wf, ok.nx F2 H2 σ2 _ (unl_inn I2) (s01.ss.trans (unl_ss s2)) (fin τ2 p2)⟩⟩
end
end TL

namespace TL
open PySem L2
section
variable {X : Cx} {B : Bs} {tg : Expr}
/-! ### a list, a tuple or a text that is walked -/
def iSeq3 (K : PySem.W.Frag) (te : TE) : TI := fun σ H R => te σ H fun x H1 => (∃ a xs, x = .ref a ∧ SqL K H1 a xs ∧ R (Itl K a) H1) ∨ (∃ a xs, x = .ref a ∧ SqT K H1 a xs ∧ R (Itt K a) H1) ∨ ∃ z, x = .str z ∧ R (Its z) H1
theorem pi_seq3 {l : Expr} {tl : TE} (hl : PE X l tl) : PI X tg l (iSeq3 X.K tl) := by
  refine ⟨fun pins s σ H R I h => ?_⟩
  refine thn (hl.run pins s σ H _ I h) fun v s1 ⟨x, H1, I1, r1, q1⟩ => ?_
  have sub : ∀ (te : TE), PE X l te → True := fun _ _ => trivial
  rcases q1 with ⟨a, xs, rfl, hq, q⟩ | ⟨a, xs, rfl, hq, q⟩ | ⟨z, rfl, q⟩
  · cases r1
    obtain ⟨its, rv, p, hz⟩ := I1.list hq
    refine PySem.wpAny_pyIter_list p.isList ?_
    refine ⟨s1.heap.objs.size, [s1.heap.objs.size], _, _, H1, rfl, I1.kept (t' := s1.toks) fun b o e => Heap.get?_push_of_some _ e, turn_list a _, ⟨_, Heap.get?_push_size _ rfl, rfl, rfl⟩, fun b hb => ?_, q⟩
    have e : b = s1.heap.objs.size := by simpa using hb
    subst e
    exact I1.fpOk (Nat.le_refl _) (I1.hok.fresh (Nat.le_refl _))
  · cases r1
    obtain ⟨its, rv, p, hz⟩ := I1.tuple hq
    refine PySem.wpAny_pyIter_tuple (show s1.heap.IsTuple a its.toArray from p) ?_
    refine ⟨s1.heap.objs.size, [s1.heap.objs.size], _, _, H1, rfl, I1.kept (t' := s1.toks) fun b o e => Heap.get?_push_of_some _ e, turn_tuple a _, ⟨_, Heap.get?_push_size _ rfl, rfl, rfl⟩, fun b hb => ?_, q⟩
    have e : b = s1.heap.objs.size := by simpa using hb
    subst e
    exact I1.fpOk (Nat.le_refl _) (I1.hok.fresh (Nat.le_refl _))
  · obtain ⟨t, rfl⟩ := r1
    cases ha : z.cps.all (· < 128)
    · exact PySem.wpAny_pyIter_wide ha (pi_one (tk := s1.toks) I1 _ (turn_str _ z t "str_iterator" (.inr rfl)) ⟨_, Heap.get?_push_size _ rfl, rfl, rfl⟩ q)
    · exact PySem.wpAny_pyIter_ascii ha (pi_one (tk := s1.toks) I1 _ (turn_str _ z t "str_ascii_iterator" (.inl rfl)) ⟨_, Heap.get?_push_size _ rfl, rfl, rfl⟩ q)
def signs (z : Str) : List T := z.cps.toList.map fun c => T.str ⟨#[c]⟩
def seqI (t : T) (P : List T → Prop) : Prop := match t with
  | .lst ts => P ts
  | .tup ts => P ts
  | .scr ns => P (ns.map T.int)
  | .str z => P (signs z)
  | _ => False
/-! ### a value that is there through a loop -/
abbrev TTX := TSt → (T → Lk → TSt → Prop) → Prop
structure SrcV (K : PySem.W.Frag) (v : V) (t : T) (S : Hp → St → TSt → Prop) : Prop where
  keep : ∀ F σ τ F' σ' τ', S F σ τ → SS F σ τ F' σ' τ' → S F' σ' τ'
  rd : ∀ F H σ τ, S F σ τ → WF K F H σ τ → RdT K F H v t
def liftX (K : PySem.W.Frag) (B : Bs) (tx : TTX) : TE := fun σ H Q => ∃ F τ P, Inn K B F H σ τ ∧ tx τ P ∧
  ∀ t u τ1 F1 H1 v S, P t u τ1 → Inn K B F1 H1 σ τ1 → Stp F H σ τ F1 H1 τ1 → SrcV K v t S → S F1 σ (lck u τ1) → Q v H1
structure TPX (X : Cx) (B : Bs) (e : Expr) (tx : TTX) : Prop where
  pe : PE X e (liftX X.K B tx)
def sf (te : TTE) : TTX := fun τ P => te τ fun r τ1 => frzR r τ1 fun t τ2 => P t none τ2
def sl (i : Nat) : TTX := fun τ P => match τ[i]? with
  | some (some s) => P s.t (some i) τ
  | _ => False
theorem tpx_f {e : Expr} {te : TTE} (h : TPE X B e te) : TPX X B e (sf te) := ⟨PE.imp h.pe fun σ H Q q => by
  obtain ⟨F, τ, P, I, ht, hq⟩ := q
  refine lift.go I ht fun r τ1 F1 H1 v h1 I1 s1 r1 f1 => ?_
  obtain ⟨u, τ2, F2, hp, I2, s2, rep, _⟩ := freeze I I1 s1 r1 f1 h1
  exact hq u none τ2 F2 H1 v (fun F _ _ => Rep X.K F u v) hp I2 s2 ⟨fun F σ τ F' σ' τ' r s => Rep.mono s.sub _ _ r, fun F H σ τ r _ => .inl r⟩ rep⟩
theorem tpx_l (i : Nat) {x : Str} {pos : Pos} (hN : X.N[i]? = some x := by rfl) (hv : Vis X.env.scope x := by first | exact Or.inl rfl | exact Or.inr (Or.inl rfl) | exact Or.inr (Or.inr rfl)) (hd : (x == ("__debug__" : Str)) = false := by decide)
    (hcd : (x == ("__classdict__" : Str)) = false := by decide) : TPX X B (.Name x pos) (sl i) := ⟨PE.imp (tpe_v (B := B) i (pos := pos) hN hv hd hcd).pe fun σ H Q q => by
  obtain ⟨F, τ, P, I, ht, hq⟩ := q
  unfold sl at ht
  split at ht
  · rename_i s es
    refine lift.go I (P := fun r τ1 => r = .var i ∧ τ1 = τ) ⟨⟨s, es⟩, rfl, rfl⟩ fun r τ1 F1 H1 v ⟨er, et⟩ I1 s1 r1 f1 => ?_
    subst er et
    obtain ⟨hv, _⟩ := r1
    refine hq s.t (some i) τ1 F1 H1 v (fun F σ τ => σ[i]? = some (some v) ∧ ∃ k, τ[i]? = some (some ⟨k, true, s.t⟩)) ht I1 s1 ⟨fun F σ τ F' σ' τ' ⟨e, k, hk⟩ q => ?_, fun F H σ τ ⟨e, k, hk⟩ w => ?_⟩ ⟨hv, s.k, ?_⟩
    · obtain ⟨h1, h2⟩ := q.lock i k _ hk
      exact ⟨h2.trans e, k, h1⟩
    · have := RR.rd w (r := .var i) (v := v) ⟨e, _, hk⟩
      rwa [show R.t τ (.var i) = s.t by simp [R.t, slT, hk]] at this
    · have q := lckT_of (l := true) (i := i) (k := s.k) (b := s.l) (t := s.t) es
      rw [if_pos rfl] at q
      exact q
  · exact ht.elim⟩
/-- the same value walked -/
theorem SrcV.seq {K : PySem.W.Frag} {F H : Hp} {σ : St} {τ : TSt} {v : V} {t : T} {S : Hp → St → TSt → Prop} {P : List T → Prop} {R : It → Hp → Prop} (s : SrcV K v t S) (h0 : S F σ τ) (w : WF K F H σ τ) (h : seqI t P)
    (k : ∀ ts J, P ts → SrcOk K J ts S → R J H) : (∃ a xs, v = .ref a ∧ SqL K H a xs ∧ R (Itl K a) H) ∨ (∃ a xs, v = .ref a ∧ SqT K H a xs ∧ R (Itt K a) H) ∨ ∃ z, v = .str z ∧ R (Its z) H := by
  have rd0 := s.rd F H σ τ h0 w
  cases t with
  | lst ts =>
    obtain ⟨a, vs, rfl, hl, z, rp⟩ := rd0.lst w.sub
    have go : ∀ F H σ τ, S F σ τ → WF K F H σ τ → ∃ vs, SqL K H a vs ∧ Reps K F ts vs := fun F H σ τ h w => by
      obtain ⟨a', vs, e, hl, z, rp⟩ := (s.rd F H σ τ h w).lst w.sub
      cases e
      exact ⟨vs, SqL.of hl, rp⟩
    refine .inl ⟨a, vs, rfl, SqL.of hl, k ts _ h ⟨s.keep, fun i F H σ τ q w hi => ?_, fun F H σ τ q w => ?_, fun i t F H σ τ x H' q w ht y => ?_⟩⟩
    · obtain ⟨vs, hl, rp⟩ := go F H σ τ q w
      obtain ⟨v, e, _⟩ := rp.get (List.getElem?_eq_getElem hi)
      exact ⟨vs, v, hl, e⟩
    · obtain ⟨vs, hl, rp⟩ := go F H σ τ q w
      exact ⟨vs, hl, by rw [rp.len]; exact Nat.le_refl _⟩
    · obtain ⟨vs, hl, rp⟩ := go F H σ τ q w
      obtain ⟨e, y⟩ := y
      subst e
      obtain ⟨v, e, r⟩ := rp.get ht
      rw [y vs hl] at e
      cases e
      exact ⟨F, Grow.refl w.sub, r⟩
  | tup ts =>
    obtain ⟨a, vs, rfl, hl, z, rp⟩ := rd0.tup
    have go : ∀ F H σ τ, S F σ τ → WF K F H σ τ → ∃ vs, SqT K H a vs ∧ Reps K F ts vs := fun F H σ τ h w => by
      obtain ⟨a', vs, e, hl, z, rp⟩ := (s.rd F H σ τ h w).tup
      cases e
      exact ⟨vs, SqT.mono w.sub hl, rp⟩
    refine .inr (.inl ⟨a, vs, rfl, SqT.mono w.sub hl, k ts _ h ⟨s.keep, fun i F H σ τ q w hi => ?_, fun F H σ τ q w => ?_, fun i t F H σ τ x H' q w ht y => ?_⟩⟩)
    · obtain ⟨vs, hl, rp⟩ := go F H σ τ q w
      obtain ⟨v, e, _⟩ := rp.get (List.getElem?_eq_getElem hi)
      exact ⟨vs, v, hl, e⟩
    · obtain ⟨vs, hl, rp⟩ := go F H σ τ q w
      exact ⟨vs, hl, by rw [rp.len]; exact Nat.le_refl _⟩
    · obtain ⟨vs, hl, rp⟩ := go F H σ τ q w
      obtain ⟨e, y⟩ := y
      subst e
      obtain ⟨v, e, r⟩ := rp.get ht
      rw [y vs hl] at e
      cases e
      exact ⟨F, Grow.refl w.sub, r⟩
  | scr ns =>
    obtain ⟨a, rfl, hl, z⟩ := rd0.scr
    have go : ∀ F H σ τ, S F σ τ → WF K F H σ τ → SqL K H a (ns.map V.int) := fun F H σ τ h w => by
      obtain ⟨a', e, hl, z⟩ := (s.rd F H σ τ h w).scr
      cases e
      exact w.sub.seq hl
    refine .inl ⟨a, _, rfl, w.sub.seq hl, k (ns.map T.int) _ h ⟨s.keep, fun i F H σ τ q w hi => ?_, fun F H σ τ q w => ?_, fun i t F H σ τ x H' q w ht y => ?_⟩⟩
    · rw [List.length_map] at hi
      exact ⟨_, .int ns[i], go F H σ τ q w, by rw [List.getElem?_map, List.getElem?_eq_getElem hi]; rfl⟩
    · exact ⟨_, go F H σ τ q w, by rw [List.length_map, List.length_map]; exact Nat.le_refl _⟩
    · obtain ⟨e, y⟩ := y
      subst e
      have y := y _ (go F H' σ τ q w)
      rw [List.getElem?_map] at ht y
      cases e : ns[i]? with
      | none => rw [e] at ht; cases ht
      | some n =>
        rw [e] at ht y
        cases ht
        cases y
        exact ⟨F, Grow.refl w.sub, rfl⟩
  | str z =>
    have e := rd0.str
    subst e
    refine .inr (.inr ⟨z, rfl, k (signs z) _ h ⟨s.keep, fun i F H σ τ q w hi => ?_, fun F H σ τ q w => ?_, fun i t F H σ τ x H' q w ht y => ?_⟩⟩)
    · show i < z.cps.size
      simpa [signs] using hi
    · show z.cps.size ≤ (signs z).length
      simp [signs]
    · obtain ⟨e, c, hc, ex⟩ := y
      subst e ex
      refine ⟨F, Grow.refl w.sub, ?_⟩
      unfold signs at ht
      rw [List.getElem?_map, Array.getElem?_toList, hc] at ht
      cases ht
      exact rfl
  | _ => exact h.elim
/-- for x in e -/
def tiSeq (tx : TTX) : TTI := fun τ P => tx τ fun t u τ1 => seqI t fun ts => P ts u τ1
theorem tpi_seq {e : Expr} {tx : TTX} (h : TPX X B e tx) : TPI X B tg e (tiSeq tx) := ⟨PI.imp (pi_seq3 h.pe) fun σ H R q => by
  obtain ⟨F, τ, P, I, ht, hq⟩ := q
  exact ⟨F, τ, _, I, ht, fun t u τ1 F1 H1 v S h1 I1 s1 sv s0 => sv.seq s0 (lck_inn I1).wf h1 fun ts J hp so => hq ts u τ1 F1 H1 J S hp I1 s1 so s0⟩⟩
/-- range -/
def rngT (lo : Int) (n : Nat) : List T := (List.range n).map fun (k : Nat) => T.int (lo + k)
def tiRng1 (tl : TTL) : TTI := fun τ P => tl τ fun ts τ1 => match ts with
  | [.int j] => (-(2 ^ 62) ≤ j ∧ j < 2 ^ 62) ∧ P (rngT 0 j.toNat) none τ1
  | _ => False
def tiRng2 (tl : TTL) : TTI := fun τ P => tl τ fun ts τ1 => match ts with
  | [.int i, .int j] => (-(2 ^ 62) ≤ i ∧ i < 2 ^ 62 ∧ -(2 ^ 62) ≤ j ∧ j < 2 ^ 62) ∧ P (rngT i (j - i).toNat) none τ1
  | _ => False
theorem rng_ok {K : PySem.W.Frag} {lo : Int} {n : Nat} : SrcOk K (Itr lo n) (rngT lo n) (fun _ _ _ => True) := by
  have e : (rngT lo n).length = n := by simp [rngT]
  refine ⟨fun _ _ _ _ _ _ _ _ => trivial, fun i F H σ τ _ w hi => by rw [e] at hi; exact hi, fun F H σ τ _ w => by rw [e]; exact Nat.le_refl _, fun i t F H σ τ x H' _ w ht y => ?_⟩
  obtain ⟨e1, e2⟩ := y
  subst e1 e2
  refine ⟨F, Grow.refl w.sub, ?_⟩
  have hi : i < n := by
    have := (List.getElem?_eq_some_iff.mp ht).1
    rwa [e] at this
  unfold rngT at ht
  rw [List.getElem?_map, List.getElem?_range hi] at ht
  cases ht
  exact rfl
theorem tpi_rng1 {a : Expr} {tl : TTL} {p pos : Pos} (hg : Gl X "range") (hm : X.mg "range" = none) (ha : TPL X B [a] tl) (hs : starEach [a] X.env = [(false, eval a X.env)] := by rfl) : TPI X B tg (.Call (.Name "range" p) [a] [] pos) (tiRng1 tl) :=
  ⟨PI.imp (pi_range1 hg hm ha.pa hs) fun σ H R q => by
  obtain ⟨F, τ, P, I, ht, hq⟩ := q
  refine ⟨F, τ, _, I, ht, fun ts τ1 F1 H1 vs h1 I1 s1 r1 => ?_⟩
  match ts, h1 with
  | [.int j], ⟨⟨b1, b2⟩, hp⟩ =>
    obtain ⟨v, r, rfl, e1, e2⟩ := r1
    cases e1
    cases e2
    exact ⟨j, rfl, b1, b2, hq _ none τ1 F1 H1 _ _ hp I1 s1 rng_ok trivial⟩⟩
theorem tpi_rng2 {a b : Expr} {tl : TTL} {p pos : Pos} (hg : Gl X "range") (hm : X.mg "range" = none) (ha : TPL X B [a, b] tl) (hs : starEach [a, b] X.env = [(false, eval a X.env), (false, eval b X.env)] := by rfl) (hs2 : starEach [b] X.env = [(false, eval b X.env)] := by rfl) :
    TPI X B tg (.Call (.Name "range" p) [a, b] [] pos) (tiRng2 tl) :=
  ⟨PI.imp (pi_range2 hg hm ha.pa hs hs2) fun σ H R q => by
  obtain ⟨F, τ, P, I, ht, hq⟩ := q
  refine ⟨F, τ, _, I, ht, fun ts τ1 F1 H1 vs h1 I1 s1 r1 => ?_⟩
  match ts, h1 with
  | [.int i, .int j], ⟨hb, hp⟩ =>
    obtain ⟨v, r, rfl, e1, v2, r2, rfl, e2, e3⟩ := r1
    cases e1
    cases e2
    cases e3
    exact ⟨i, j, rfl, hb, hq _ none τ1 F1 H1 _ _ hp I1 s1 rng_ok trivial⟩⟩

/-! ### comprehensions -/
def wipeT (τ : TSt) : List Nat → TSt
  | [] => τ
  | v :: vs => (wipeT τ vs).set v none
/-- the slots vs as they were in τ -/
def backT (τ : TSt) (τ' : TSt) : List Nat → TSt
  | [] => τ'
  | v :: vs => (backT τ τ' vs).set v ((τ[v]?).getD none)
def frzAt (τ : TSt) (v : Nat) : Prop := match τ[v]? with
  | some none => True
  | some (some ⟨.frz, false, _⟩) => True
  | _ => False
structure TPTs (X : Cx) (B : Bs) (es : List Expr) (t : TTT) : Prop where
  pts : PTs X es (liftT X.K B t)
theorem PTs.imp {es : List Expr} {t u : TT} (h : PTs X es t) (i : ∀ σ H Q, u σ H Q → t σ H Q) : PTs X es u := ⟨fun pins s σ H Q I q => h.run pins s σ H Q I (i σ H Q q)⟩
def ttYes : TTT := fun τ P => P true τ
theorem tpts_nil : TPTs X B [] ttYes := ⟨PTs.imp pts_nil fun σ H Q h => by
  obtain ⟨F, τ, P, I, h, q⟩ := h
  exact q true τ F H h I Stp.refl⟩
theorem tpts_one {c : Expr} {t : TTT} (h : TPT X B c t) : TPTs X B [c] t := ⟨pts_one h.pt⟩
def ttLc (ti : TTI) (g : TTG) (tt : TTT) (te : TTE) (vs : List Nat) : TTE := fun τ P => ti τ fun ts u τ1 => (∀ v ∈ vs, frzAt (lck u τ1) v) ∧ ∃ Pv : Nat → List T → TSt → Prop, Pv 0 [] (wipeT (lck u τ1) vs) ∧
  (∀ i t acc τ2, ts[i]? = some t → Pv i acc τ2 → g t τ2 fun τ3 => tt τ3 fun b τ4 =>
    if b = true then te τ4 fun r τ5 => frzR r τ5 fun y τ6 => acc.length < sizeLine ∧ Pv (i + 1) (acc ++ [y]) (wipeT τ6 vs) else Pv (i + 1) acc (wipeT τ4 vs)) ∧
  ∀ acc τ2, Pv ts.length acc τ2 → P (.val true (.lst acc)) (unl u τ1 (backT (lck u τ1) τ2 vs))
end
section
variable {K : PySem.W.Frag} {B : Bs} {F H : Hp} {σ : St} {τ : TSt}
theorem wipeT_len : ∀ vs : List Nat, (wipeT τ vs).length = τ.length
  | [] => rfl
  | v :: vs => by unfold wipeT; rw [List.length_set, wipeT_len vs]
theorem wipeT_get {i : Nat} {s : Sl} : ∀ {vs : List Nat}, (wipeT τ vs)[i]? = some (some s) → τ[i]? = some (some s) ∧ i ∉ vs
  | [], h => ⟨h, by simp⟩
  | v :: vs, h => by
    unfold wipeT at h
    rcases set_get h with ⟨_, z, _⟩ | ⟨hj, z⟩
    · cases z
    · obtain ⟨h1, h2⟩ := wipeT_get z
      exact ⟨h1, by simp [hj, h2]⟩
theorem wipeT_of {i : Nat} : ∀ {vs : List Nat}, i ∉ vs → (wipeT τ vs)[i]? = τ[i]?
  | [], _ => rfl
  | v :: vs, h => by
    simp only [List.mem_cons, not_or] at h
    unfold wipeT
    rw [List.getElem?_set_ne (Ne.symm h.1), wipeT_of h.2]
theorem wipe_of {i : Nat} : ∀ {vs : List Nat}, i ∉ vs → (wipe σ vs)[i]? = σ[i]?
  | [], _ => rfl
  | v :: vs, h => by
    simp only [List.mem_cons, not_or] at h
    unfold wipe
    rw [List.getElem?_set_ne (Ne.symm h.1), wipe_of h.2]
/-- a state whose slots in vs are forgotten -/
theorem wipe_inn {σ' : St} {vs : List Nat} (I : Inn K B F H σ τ) (hl : σ'.length = σ.length) (hs : ∀ j, j ∉ vs → σ'[j]? = σ[j]?) : Inn K B F H σ' (wipeT τ vs) := by
  have own' : ∀ (j : Nat) (k : Kd) (a : Addr), Owns σ' (wipeT τ vs) j k a → Owns σ τ j k a := fun j k a ⟨l, t, h1, h2, h3⟩ => by
    obtain ⟨h, hn⟩ := wipeT_get h1
    exact ⟨l, t, h, h2, by rw [← hs j hn]; exact h3⟩
  refine ⟨⟨I.wf.sub, by rw [wipeT_len, hl]; exact I.wf.len, fun i l t h => ?_, fun i k l t h hk => ?_, fun i j k l a h1 h2 => I.wf.sep i j k l a (own' _ _ _ h1) (own' _ _ _ h2)⟩, I.sub, I.new, I.fr, I.dom, fun i a h => I.ow i a (own' _ _ _ h), fun i j a h => I.ar i j a (own' _ _ _ h)⟩
  · obtain ⟨h, hn⟩ := wipeT_get h
    obtain ⟨v, e, r⟩ := I.wf.frz i l t h
    exact ⟨v, by rw [hs i hn]; exact e, r⟩
  · obtain ⟨h, hn⟩ := wipeT_get h
    obtain ⟨a, e, q⟩ := I.wf.own i k l t h hk
    exact ⟨a, by rw [hs i hn]; exact e, q⟩
theorem wipe_eq {σ σ' : St} : ∀ {vs : List Nat}, σ'.length = σ.length → (∀ j, j ∉ vs → σ'[j]? = σ[j]?) → wipe σ' vs = wipe σ vs := by
  intro vs hl hs
  apply List.ext_getElem?
  intro i
  by_cases hi : i ∈ vs
  · have lem : ∀ (σ : St) (vs : List Nat), i ∈ vs → (wipe σ vs)[i]? = if i < σ.length then some none else none := fun σ vs => by
      induction vs with
      | nil => intro h; cases h
      | cons v vs ih =>
        intro h
        unfold wipe
        by_cases hv : v = i
        · subst hv
          by_cases hl : v < σ.length
          · rw [if_pos hl, List.getElem?_set_self (by rw [wipe_length]; exact hl)]
          · rw [if_neg hl, List.getElem?_eq_none (by rw [List.length_set, wipe_length]; omega)]
        · rw [List.getElem?_set_ne hv]
          rcases List.mem_cons.mp h with z | z
          · exact absurd z.symm hv
          · exact ih z
    rw [lem σ' vs hi, lem σ vs hi, hl]
  · rw [wipe_of hi, wipe_of hi, hs i hi]
theorem backT_len {τ' : TSt} : ∀ vs : List Nat, (backT τ τ' vs).length = τ'.length
  | [] => rfl
  | v :: vs => by unfold backT; rw [List.length_set, backT_len vs]
theorem backT_get {τ' : TSt} {i : Nat} {s : Sl} : ∀ {vs : List Nat}, (backT τ τ' vs)[i]? = some (some s) → (i ∈ vs ∧ τ[i]? = some (some s)) ∨ (i ∉ vs ∧ τ'[i]? = some (some s))
  | [], h => .inr ⟨by simp, h⟩
  | v :: vs, h => by
    unfold backT at h
    rcases set_get h with ⟨hj, z, _⟩ | ⟨hj, z⟩
    · subst hj
      refine .inl ⟨by simp, ?_⟩
      cases e : τ[i]? with
      | none => rw [e] at z; cases z
      | some o => rw [e] at z; exact congrArg some z.symm
    · rcases backT_get z with ⟨h1, h2⟩ | ⟨h1, h2⟩
      · exact .inl ⟨by simp [h1], h2⟩
      · exact .inr ⟨by simp [hj, h1], h2⟩
theorem backT_of {τ' : TSt} {i : Nat} : ∀ {vs : List Nat}, i ∉ vs → (backT τ τ' vs)[i]? = τ'[i]?
  | [], _ => rfl
  | v :: vs, h => by
    simp only [List.mem_cons, not_or] at h
    unfold backT
    rw [List.getElem?_set_ne (Ne.symm h.1), backT_of h.2]
theorem backT_in {τ' : TSt} {i : Nat} {s : Sl} (hl : τ'.length = τ.length) : ∀ {vs : List Nat}, i ∈ vs → τ[i]? = some (some s) → (backT τ τ' vs)[i]? = some (some s)
  | v :: vs, h, e => by
    unfold backT
    by_cases hv : v = i
    · subst hv
      rw [List.getElem?_set_self (by rw [backT_len, hl]; exact (List.getElem?_eq_some_iff.mp e).1), e]
      rfl
    · rw [List.getElem?_set_ne hv]
      rcases List.mem_cons.mp h with z | z
      · exact absurd z.symm hv
      · exact backT_in hl z e
/-- behind the block: what was there is there again -/
theorem back_ok {F' H' : Hp} {τ' : TSt} {σw : St} {vs : List Nat} (I : Inn K B F H σ τ) (fz : ∀ v ∈ vs, frzAt τ v) (hl : σw.length = σ.length) (hs : ∀ j, j ∉ vs → σw[j]? = σ[j]?) (I' : Inn K B F' H' σw τ') (s : Stp F H σw (wipeT τ vs) F' H' τ') (hw : ∀ v ∈ vs, ∀ s, τ'[v]? ≠ some (some s)) :
    Inn K B F' H' σ (backT τ τ' vs) ∧ Stp F H σ τ F' H' (backT τ τ' vs) := by
  have fz' : ∀ i ∈ vs, ∀ s, τ[i]? = some (some s) → s.k = .frz ∧ s.l = false := fun i hi s h => by
    have q := fz i hi
    unfold frzAt at q
    obtain ⟨k, l, t⟩ := s
    rw [h] at q
    split at q
    · rename_i e; cases e
    · rename_i e; cases e; exact ⟨rfl, rfl⟩
    · exact q.elim
  have own' : ∀ (j : Nat) (k : Kd) (a : Addr), Owns σ (backT τ τ' vs) j k a → j ∉ vs ∧ Owns σw τ' j k a := fun j k a ⟨l, t, h1, h2, h3⟩ => by
    rcases backT_get h1 with ⟨hj, h⟩ | ⟨hj, h⟩
    · exact absurd (fz' j hj _ h).1 h2
    · exact ⟨hj, l, t, h, h2, by rw [hs j hj]; exact h3⟩
  have ownw : ∀ (j : Nat) (k : Kd) (a : Addr), Owns σw (wipeT τ vs) j k a → Owns σ τ j k a := fun j k a ⟨l, t, h1, h2, h3⟩ => by
    obtain ⟨h, hn⟩ := wipeT_get h1
    exact ⟨l, t, h, h2, by rw [← hs j hn]; exact h3⟩
  have hlen : τ'.length = τ.length := by rw [I'.wf.len, hl, I.wf.len]
  have w : WF K F' H' σ (backT τ τ' vs) := by
    refine ⟨I'.wf.sub, by rw [backT_len, hlen]; exact I.wf.len, fun i l t h => ?_, fun i k l t h hk => ?_, fun i j k l a h1 h2 => I'.wf.sep i j k l a (own' _ _ _ h1).2 (own' _ _ _ h2).2⟩
    · rcases backT_get h with ⟨hj, h⟩ | ⟨hj, h⟩
      · obtain ⟨v, e, r⟩ := I.wf.frz i l t h
        exact ⟨v, e, Rep.mono s.sub _ _ r⟩
      · obtain ⟨v, e, r⟩ := I'.wf.frz i l t h
        exact ⟨v, by rw [← hs i hj]; exact e, r⟩
    · rcases backT_get h with ⟨hj, h⟩ | ⟨hj, h⟩
      · exact absurd (fz' i hj _ h).1 hk
      · obtain ⟨a, e, q⟩ := I'.wf.own i k l t h hk
        exact ⟨a, by rw [← hs i hj]; exact e, q⟩
  have st : Stp F H σ τ F' H' (backT τ τ' vs) := by
    refine ⟨s.sub, fun a h => ?_, fun a o h n => s.fr a o h fun i k q => n i k (ownw i k a q), s.dom, fun i k a h => ownw i k a (s.own i k a (own' i k a h).2), fun i x h => ?_, fun i k t h => ?_⟩
    · rcases s.new a h with z | z | ⟨i, z⟩
      · exact .inl z
      · exact .inr (.inl z)
      · exact .inr (.inr ⟨i, ownw i _ a z⟩)
    · by_cases hi : i ∈ vs
      · exact ⟨x, backT_in hlen hi h⟩
      · obtain ⟨s', e⟩ := s.slot i x (by rw [wipeT_of hi]; exact h)
        exact ⟨s', by rw [backT_of hi]; exact e⟩
    · by_cases hi : i ∈ vs
      · exact absurd (fz' i hi _ h).2 (by simp)
      · have e := s.lock i k t (by rw [wipeT_of hi]; exact h)
        rw [backT_of hi]
        exact e
  exact ⟨I.step w st, st⟩
end
section
variable {X : Cx} {B : Bs}
/-- the list at D goes on -/
theorem grow_D {K : PySem.W.Frag} {F H : Hp} {σ : St} {τ : TSt} {D : Addr} {o : HO} (I : Inn K B F H σ τ) (nF : F D = none) (no : ∀ i k, ¬ Owns σ τ i k D) (nB : B.H D = none) (hd : H D ≠ none) : Inn K B F (upd H D o) σ τ := by
  refine ⟨⟨fun a u e => ?_, I.wf.len, I.wf.frz, fun i k l t h hk => ?_, I.wf.sep⟩, I.sub, I.new, fun a u e n => ?_, fun a h => ?_, I.ow, I.ar⟩
  · have ha : a ≠ D := fun z => by subst z; rw [nF] at e; cases e
    rw [upd_ne ha]
    exact I.wf.sub a u e
  · obtain ⟨a, e, n, q⟩ := I.wf.own i k l t h hk
    have ha : a ≠ D := fun z => no i k ⟨l, t, h, hk, by rw [← z]; exact e⟩
    exact ⟨a, e, n, q.mono (fun _ _ h => h) (upd_ne ha)⟩
  · have ha : a ≠ D := fun z => by subst z; rw [nB] at e; cases e
    rw [upd_ne ha]
    exact I.fr a u e n
  · by_cases ha : a = D
    · subst ha; rw [upd_same]; simp
    · rw [upd_ne ha]; exact I.dom a h
theorem lc_imp {ti : TTI} {g : TTG} {tt : TTT} {te : TTE} {vs is : List Nat} (hv : ∀ v ∈ is, v ∈ vs) (σ : St) (H : Hp) (Q : VK) (h : lift X.K B (ttLc ti g tt te vs) σ H Q) : tLc (liftI X.K B ti) (liftG X.K B is g) (liftT X.K B tt) (lift X.K B te) vs σ H Q := by
  obtain ⟨F, τ, P, I, h, hq⟩ := h
  refine ⟨F, τ, _, I, h, fun ts u τ1 F1 H1 J S h1 I1 s1 so s0 D nD => ?_⟩
  obtain ⟨fz, Pv, p0, turn, fin⟩ := h1
  have IL : Inn X.K B F1 H1 σ (lck u τ1) := lck_inn I1
  have nB : B.H D = none := by
    cases q : B.H D with
    | none => rfl
    | some o => exact absurd nD (I1.dom D (by rw [q]; simp))
  have fzk : ∀ v ∈ vs, ∀ s, (lck u τ1)[v]? = some (some s) → s.k = .frz ∧ s.l = false := fun i hi s h => by
    have q := fz i hi
    unfold frzAt at q
    obtain ⟨k, l, t⟩ := s
    rw [h] at q
    split at q
    · rename_i e; cases e
    · rename_i e; cases e; exact ⟨rfl, rfl⟩
    · exact q.elim
  have Iw : Inn X.K B F1 H1 (wipe σ vs) (wipeT (lck u τ1) vs) := wipe_inn IL (wipe_length σ vs) fun j hj => wipe_of hj
  have ssw : SS F1 σ (lck u τ1) F1 (wipe σ vs) (wipeT (lck u τ1) vs) := ⟨fun _ _ h => h, fun i k t h => by
    have hi : i ∉ vs := fun z => by have := (fzk i z _ h).2; cases this
    rw [wipeT_of hi, wipe_of hi]
    exact ⟨h, rfl⟩⟩
  have nFD1 : F1 D = none := I1.wf.sub.free nD
  have noD1 : ∀ i k, ¬ Owns (wipe σ vs) (wipeT (lck u τ1) vs) i k D := fun i k ⟨l, t, h1, h2, h3⟩ => by
    obtain ⟨a, e, _, o⟩ := Iw.wf.own i k l t h1 h2
    rw [h3] at e
    cases e
    obtain ⟨ob, ho⟩ := o.ex
    rw [nD] at ho
    cases ho
  have g0 : Grow F1 H1 F1 (upd H1 D (.lst [])) := Grow.own I1.wf.sub nD
  refine ⟨fun i m H2 => m = ts.length - i ∧ i ≤ ts.length ∧ ∃ F2 τ2 acc av, Inn X.K B F2 H2 (wipe σ vs) τ2 ∧ Stp F1 H1 (wipe σ vs) (wipeT (lck u τ1) vs) F2 H2 τ2 ∧ (∀ v ∈ vs, ∀ s, τ2[v]? ≠ some (some s)) ∧ F2 D = none ∧ H2 D = some (.lst av) ∧ av.length ≤ sizeLine ∧ Reps X.K F2 acc av ∧ Pv i acc τ2,
    ⟨ts.length, by simp, Nat.zero_le _, F1, _, [], [], Iw.step (g0.wf Iw.wf) g0.step, g0.step, fun v hv s e => (wipeT_get e).2 hv, nFD1, upd_same, Nat.zero_le _, rfl, p0⟩, ?_⟩
  rintro i m H2 ⟨rfl, hi, F2, τ2, acc, av, I2, s2, hw, nF, hD, hz, hr, p2⟩
  have src := so.keep _ _ _ _ _ _ s0 (ssw.trans s2.ss)
  have noD : ∀ i k, ¬ Owns (wipe σ vs) τ2 i k D := fun i k q => noD1 i k (s2.own i k D q)
  by_cases hlt : i < ts.length
  · refine .inr ⟨so.go i F2 H2 _ τ2 src I2.wf hlt, fun H3 => ∃ F2 τ2 acc av, Inn X.K B F2 H3 (wipe σ vs) τ2 ∧ Stp F1 H1 (wipe σ vs) (wipeT (lck u τ1) vs) F2 H3 τ2 ∧ (∀ v ∈ vs, ∀ s, τ2[v]? ≠ some (some s)) ∧ F2 D = none ∧ H3 D = some (.lst av) ∧ av.length ≤ sizeLine ∧ Reps X.K F2 acc av ∧ Pv (i + 1) acc τ2,
      fun H3 ⟨F2, τ2, acc, av, q⟩ => ⟨ts.length - (i + 1), by omega, rfl, hlt, F2, τ2, acc, av, q⟩, fun x H3 y => ?_⟩
    have ht : ts[i]? = some ts[i] := List.getElem?_eq_getElem hlt
    obtain ⟨F3, gr, rep⟩ := so.yld i ts[i] F2 H2 _ τ2 x H3 src I2.wf ht y
    have I3 := I2.step (gr.wf I2.wf) gr.step
    have s3 := s2.trans gr.step
    have nF3 : F3 D = none := by
      cases q : F3 D with
      | none => rfl
      | some o =>
        rcases gr.new D (by rw [q]; simp) with z | z
        · exact absurd nF z
        · rw [hD] at z; cases z
    have hD3 := gr.hp D _ hD
    refine ⟨F3, τ2, ts[i], _, I3, rep, turn i _ acc τ2 ht p2, fun σ4 τ4 I4 s4 n4 f4 h4 => ?_⟩
    have o4 : ∀ i k a, Owns σ4 τ4 i k a → Owns (wipe σ vs) τ2 i k a := fun i k a ⟨l, t, h1, h2, h3⟩ => by
      by_cases hi : i ∈ is
      · exact absurd (f4 i hi _ h1) h2
      · obtain ⟨e1, e2⟩ := n4.2 i hi
        exact ⟨l, t, by rw [← e2]; exact h1, h2, by rw [← e1]; exact h3⟩
    have e4 : ∀ j, j ∉ vs → σ4[j]? = σ[j]? := fun j hj => by
      rw [(n4.2 j fun z => hj (hv j z)).1, wipe_of hj]
    have l4 : σ4.length = σ.length := by rw [n4.1, wipe_length]
    have no4 : ∀ i k, ¬ Owns σ4 τ4 i k D := fun i k q => noD i k (o4 i k D q)
    -- from a state of the turn to the wiped one
    have wiped : ∀ {F6 H6 τ6}, Inn X.K B F6 H6 σ4 τ6 → Stp F3 H3 σ4 τ4 F6 H6 τ6 → Inn X.K B F6 H6 (wipe σ vs) (wipeT τ6 vs) ∧ Stp F1 H1 (wipe σ vs) (wipeT (lck u τ1) vs) F6 H6 (wipeT τ6 vs) ∧ F6 D = none ∧ H6 D = some (.lst av) ∧ Same F2 F6 ∧ ∀ i k, ¬ Owns (wipe σ vs) (wipeT τ6 vs) i k D := fun {F6 H6 τ6} I6 s6 => by
      have I6w : Inn X.K B F6 H6 (wipe σ vs) (wipeT τ6 vs) := wipe_inn I6 (by rw [wipe_length, l4]) fun j hj => by rw [wipe_of hj, e4 j hj]
      have nF6 : F6 D = none := by
        cases q : F6 D with
        | none => rfl
        | some o =>
          rcases s6.new D (by rw [q]; simp) with z | z | ⟨i, z⟩
          · exact absurd nF3 z
          · rw [hD3] at z; cases z
          · exact absurd z (no4 i _)
      have ow6 : ∀ i k a, Owns (wipe σ vs) (wipeT τ6 vs) i k a → Owns (wipe σ vs) τ2 i k a := fun i k a ⟨l, t, h1, h2, h3⟩ => by
        obtain ⟨h, hn⟩ := wipeT_get h1
        exact o4 i k a (s6.own i k a ⟨l, t, h, h2, by rw [e4 i hn, ← wipe_of hn]; exact h3⟩)
      refine ⟨I6w, s3.trans ⟨s6.sub, fun a h => ?_, fun a o h n => s6.fr a o h fun i k q => n i k (o4 i k a q), s6.dom, ow6, fun i x h => ?_, fun i k t h => ?_⟩, nF6, s6.fr D _ hD3 no4, gr.sub.trans s6.sub, fun i k q => noD i k (ow6 i k D q)⟩
      · rcases s6.new a h with z | z | ⟨i, z⟩
        · exact .inl z
        · exact .inr (.inl z)
        · exact .inr (.inr ⟨i, o4 i _ a z⟩)
      · have hi : i ∉ vs := fun z => hw i z x h
        obtain ⟨s', e⟩ := s6.slot i x (by rw [(n4.2 i fun z => hi (hv i z)).2]; exact h)
        exact ⟨s', by rw [wipeT_of hi]; exact e⟩
      · have hi : i ∉ vs := fun z => hw i z _ h
        rw [wipeT_of hi]
        exact s6.lock i k t (by rw [(n4.2 i fun z => hi (hv i z)).2]; exact h)
    refine ⟨wipe_eq l4 e4, F3, τ4, _, I4, h4, fun b τ5 F5 H5 h5 I5 s5 => ?_⟩
    cases b with
    | false =>
      rw [if_neg Bool.false_ne_true] at h5 ⊢
      obtain ⟨a1, a2, a3, a4, a5, _⟩ := wiped I5 s5
      exact ⟨F5, _, acc, av, a1, a2, fun v hv s e => (wipeT_get e).2 hv, a3, a4, hz, Reps.mono a5 _ _ hr, h5⟩
    | true =>
      rw [if_pos rfl] at h5 ⊢
      refine lift.go I5 h5 fun r τ6 F6 H6 v h6 I6 s6 r6 f6 => ?_
      obtain ⟨t, τ7, F7, ⟨hl7, p7⟩, I7, s7, rep7, _⟩ := freeze I5 I6 s6 r6 f6 h6
      obtain ⟨a1, a2, a3, a4, a5, a6⟩ := wiped I7 (s5.trans s7)
      have hav : acc.length = av.length := hr.len
      refine ⟨av, a4, by rw [← hav]; exact hl7, F7, _, acc ++ [t], av ++ [v], grow_D a1 a3 a6 nB (by rw [a4]; simp), ?_, fun v hv s e => (wipeT_get e).2 hv, a3, upd_same, ?_, Reps.append (Reps.mono a5 _ _ hr) ⟨v, [], rfl, rep7, rfl⟩, p7⟩
      · refine ⟨a2.sub, a2.new, fun a o h n => ?_, fun a h => ?_, a2.own, a2.slot, a2.lock⟩
        · have ha : a ≠ D := fun z => by subst z; rw [nD] at h; cases h
          rw [upd_ne ha]
          exact a2.fr a o h n
        · by_cases ha : a = D
          · subst ha; rw [upd_same]; simp
          · rw [upd_ne ha]; exact a2.dom a h
      · rw [List.length_append, List.length_singleton]
        omega
  · have e : i = ts.length := by omega
    subst e
    refine .inl ⟨so.stop F2 H2 _ τ2 src I2.wf, ?_⟩
    obtain ⟨b1, b2⟩ := back_ok IL fz (wipe_length σ vs) (fun j hj => wipe_of hj) I2 s2 hw
    have nob : ∀ i k, ¬ Owns σ (backT (lck u τ1) τ2 vs) i k D := fun i k q => by
      obtain ⟨a, e, _, o⟩ := b1.wf.own i k q.choose q.choose_spec.choose q.choose_spec.choose_spec.1 q.choose_spec.choose_spec.2.1
      rw [q.choose_spec.choose_spec.2.2] at e
      cases e
      have q1 := lck_owns.mp (b2.own i k D q)
      obtain ⟨l, t, h1, h2, h3⟩ := q1
      obtain ⟨a, e, _, o⟩ := I1.wf.own i k l t h1 h2
      rw [h3] at e
      cases e
      obtain ⟨ob, ho⟩ := o.ex
      rw [nD] at ho
      cases ho
    have b2' := unl_stp b2
    refine hq _ _ F2 H2 (.ref D) (fin acc τ2 p2) (unl_inn b1) (s1.trans b2') ⟨D, rfl, nF, ⟨av, hD, hz, hr⟩, fun i k q => nob i k (unl_owns.mp q)⟩ ⟨D, rfl, ?_⟩
    cases q : H D with
    | none => rfl
    | some o => exact absurd nD (s1.dom D (by rw [q]; simp))
theorem tpe_lc {elt tg iter : Expr} {ifs : List Expr} {scope : Scope} {own : List (Str × Nat)} {pos : Pos} {ti : TTI} {g : TTG} {tt : TTT} {te : TTE} {is : List Nat} (hc : X.calm = true) (hN : X.N.Nodup) (hi : TPI X B tg iter ti) (ok : BlkOk X.N X.env.scope scope own) (hv : ∀ v ∈ is, v ∈ own.map (·.2))
    (hg : ∀ (s : Shared) (H : Hp) (C : Addr) (cl : List (Str × Addr)) (fp : List Addr), TPG (X.blk s H scope (compEnvC scope cl C X.env) fp) B is tg g) (ht : ∀ (s : Shared) (H : Hp) (C : Addr) (cl : List (Str × Addr)) (fp : List Addr), TPTs (X.blk s H scope (compEnvC scope cl C X.env) fp) B ifs tt)
    (he : ∀ (s : Shared) (H : Hp) (C : Addr) (cl : List (Str × Addr)) (fp : List Addr), TPE (X.blk s H scope (compEnvC scope cl C X.env) fp) B elt te) (hs : ∀ x, foldedSetIterable iter X.env x = pure x := by intro _; rfl) :
    TPE X B (.ListComp elt [⟨tg, iter, ifs, 0⟩] scope pos) (ttLc ti g tt te (own.map (·.2))) :=
  ⟨PE.imp (pe_lc hc hN hi.pi ok (fun s H C cl fp => (hg s H C cl fp).pg) (fun s H C cl fp => (ht s H C cl fp).pts) (fun s H C cl fp => (he s H C cl fp).pe) hs) (lc_imp hv)⟩
theorem tps_setLc {i : Nat} {y : Str} {py : Pos} {elt tg iter : Expr} {ifs : List Expr} {scope : Scope} {own : List (Str × Nat)} {pos spos : Pos} {ti : TTI} {g : TTG} {tt : TTT} {te : TTE} {is : List Nat} (hc : X.calm = true) (hN : X.N.Nodup) (hy : X.N[i]? = some y) (hyl : X.env.scope.names.lookup y = some .local)
    (hsw : swapsWith (.ListComp elt [⟨tg, iter, ifs, 0⟩] scope pos) (some (.Name y py)) spos.line X.env = pure true) (hi : TPI X B tg iter ti) (ok : BlkOk X.N X.env.scope scope own) (hv : ∀ v ∈ is, v ∈ own.map (·.2))
    (hg : ∀ (s : Shared) (H : Hp) (C : Addr) (cl : List (Str × Addr)) (fp : List Addr), TPG (X.blk s H scope (compEnvC scope cl C X.env) fp) B is tg g) (ht : ∀ (s : Shared) (H : Hp) (C : Addr) (cl : List (Str × Addr)) (fp : List Addr), TPTs (X.blk s H scope (compEnvC scope cl C X.env) fp) B ifs tt)
    (he : ∀ (s : Shared) (H : Hp) (C : Addr) (cl : List (Str × Addr)) (fp : List Addr), TPE (X.blk s H scope (compEnvC scope cl C X.env) fp) B elt te) (hs : ∀ x, foldedSetIterable iter X.env x = pure x := by intro _; rfl) :
    TPS X B (.Assign [.Name y py] (.ListComp elt [⟨tg, iter, ifs, 0⟩] scope pos) spos) (ttSet i (ttLc ti g tt te (own.map (·.2)))) :=
  ⟨PS.imp (ps_setLc hc hN hy hyl hsw hi.pi ok (fun s H C cl fp => (hg s H C cl fp).pg) (fun s H C cl fp => (ht s H C cl fp).pts) (fun s H C cl fp => (he s H C cl fp).pe) hs) fun D σ H h => by
  obtain ⟨F, τ, TD, I, h, ok'⟩ := h
  refine lc_imp hv σ H _ (lift.go I h fun r τ1 F1 H1 v h1 I1 s1 r1 f1 => ?_)
  obtain ⟨F2, τ2, h2, I2, s2⟩ := stR.ok I I1 s1 r1 f1 h1
  exact ok'.nx F2 H1 _ τ2 I2 s2 h2⟩
end
end TL

namespace TL
open PySem L2

/-! ### arguments of a def's call: frozen values, or names as they are -/
section
variable {X : Cx} {B : Bs}
def taNil : TTA := fun τ P => P [] τ
def taF (te : TTE) (ta : TTA) : TTA := fun τ P => te τ fun r τ1 => frzR r τ1 fun t τ2 => ta τ2 fun rs τ3 => P (.val false t :: rs) τ3
def taV (i : Nat) (ta : TTA) : TTA := fun τ P => (∃ s, τ[i]? = some (some s)) ∧ ta τ fun rs τ3 => P (.var i :: rs) τ3
theorem tpa_nil : TPA X B [] taNil := ⟨PA.imp pa_nil fun σ H Q h => by
  obtain ⟨F, τ, P, I, ht, hq⟩ := h
  exact hq _ _ _ _ _ ht I Stp.refl .nil⟩
theorem tpa_f {e : Expr} {es : List Expr} {te : TTE} {ta : TTA} (ha : TPE X B e te) (hr : TPA X B es ta) (hs : starEach (e :: es) X.env = (false, eval e X.env) :: starEach es X.env := by rfl) : TPA X B (e :: es) (taF te ta) := ⟨PA.imp (pa_cons ha.pe hr.pa hs) fun σ H Q h => by
  obtain ⟨F, τ, P, I, ht, hq⟩ := h
  refine lift.go I ht fun r τ1 F1 H1 v h1 I1 s1 r1 f1 => ?_
  obtain ⟨u, τ2, F2, hp, I2, s2, rep, _⟩ := freeze I I1 s1 r1 f1 h1
  refine ⟨F2, τ2, _, I2, hp, fun rs τ3 F3 H3 vs h3 I3 s3 r3 => ?_⟩
  exact hq _ _ _ _ _ h3 I3 (s2.trans s3) (.cons (r := .val false u) (Rep.mono s3.sub _ _ rep) (fun t z => by cases z) r3)⟩
theorem tpa_v (i : Nat) {x : Str} {pos : Pos} {es : List Expr} {ta : TTA} (hr : TPA X B es ta) (hN : X.N[i]? = some x := by rfl) (hv : Vis X.env.scope x := by first | exact Or.inl rfl | exact Or.inr (Or.inl rfl) | exact Or.inr (Or.inr rfl)) (hd : (x == ("__debug__" : Str)) = false := by decide)
    (hcd : (x == ("__classdict__" : Str)) = false := by decide) (hs : starEach (.Name x pos :: es) X.env = (false, eval (.Name x pos) X.env) :: starEach es X.env := by rfl) : TPA X B (.Name x pos :: es) (taV i ta) := ⟨PA.imp (pa_cons (tpe_v (B := B) i (pos := pos) hN hv hd hcd).pe hr.pa hs) fun σ H Q h => by
  obtain ⟨F, τ, P, I, ⟨hs, ht⟩, hq⟩ := h
  refine lift.go I (P := fun r τ1 => r = .var i ∧ τ1 = τ) ⟨hs, rfl, rfl⟩ fun r τ1 F1 H1 v ⟨er, et⟩ I1 s1 r1 f1 => ?_
  subst er et
  refine ⟨F1, τ1, _, I1, ht, fun rs τ3 F3 H3 vs h3 I3 s3 r3 => ?_⟩
  exact hq _ _ _ _ _ h3 I3 (s1.trans s3) (.cons (r := .var i) (RR.step s3 r1) (fun t z => by cases z) r3)⟩
end

/-! ### what a def promises -/
/-- from the arguments: what is wanted of the result and of what the arguments are then; of what is raised -/
abbrev TSp := List Sl → (R → List T → Prop) → (String → List T → Prop) → Prop
def argA (as : List Sl) (vs : List V) : List (Option Addr) := List.zipWith (fun (s : Sl) (v : V) => match s.k, v with
  | .arg _, .ref a => some a
  | _, _ => none) as vs
structure AOk (K : PySem.W.Frag) (F H : Hp) (vs : List V) (as : List Sl) : Prop where
  sub : Same F H
  len : vs.length = as.length
  lk : ∀ (j : Nat) (s : Sl), as[j]? = some s → s.l = false
  fz : ∀ (j : Nat) (s : Sl) (v : V), as[j]? = some s → vs[j]? = some v → s.k = .frz → Rep K F s.t v
  ow : ∀ (j : Nat) (s : Sl) (v : V), as[j]? = some s → vs[j]? = some v → s.k ≠ .frz → s.k = .arg j ∧ ∃ a, v = .ref a ∧ F a = none ∧ OwnAt K F H a s.t
  sep : ∀ (i j : Nat) (a : Addr), (argA as vs)[i]? = some (some a) → (argA as vs)[j]? = some (some a) → i = j
/-- behind the call -/
structure COk (K : PySem.W.Frag) (F H : Hp) (args : List (Option Addr)) (F' H' : Hp) (ts : List T) : Prop where
  sub : Same F F'
  in_ : Same F' H'
  new : ∀ a, F' a ≠ none → F a ≠ none ∨ H a = none
  fr : ∀ a o, H a = some o → some a ∉ args → H' a = some o
  dom : ∀ a, H a ≠ none → H' a ≠ none
  ar : ∀ (j : Nat) (a : Addr), args[j]? = some (some a) → ∃ t, ts[j]? = some t ∧ F' a = none ∧ OwnAt K F' H' a t
def RC (K : PySem.W.Frag) (H F' H' : Hp) (v : V) : R → Prop
  | .val k t => RG K H F' H' v k t
  | .var _ => False
def liftSp (K : PySem.W.Frag) (cls : String → Addr) (S : TSp) : Sp := fun vs H Q E => ∃ F as PR PX, AOk K F H vs as ∧ S as PR PX ∧
  (∀ r ts F' H' v, PR r ts → COk K F H (argA as vs) F' H' ts → RC K H F' H' v r → Q v H') ∧
  (∀ c ts F' H', PX c ts → COk K F H (argA as vs) F' H' ts → E (.ref (cls c)) none H')

/-! ### a call -/
def mkA (τ : TSt) : Nat → List R → List Sl
  | _, [] => []
  | j, .val _ t :: rs => ⟨.frz, false, t⟩ :: mkA τ (j + 1) rs
  | j, .var i :: rs => (match τ[i]? with
    | some (some ⟨.frz, _, t⟩) => ⟨.frz, false, t⟩
    | some (some ⟨_, _, t⟩) => ⟨.arg j, false, t⟩
    | _ => ⟨.frz, false, .non⟩) :: mkA τ (j + 1) rs
def putB : List R → List T → TSt → (TSt → Prop) → Prop
  | .val _ _ :: rs, _ :: ts, τ, P => putB rs ts τ P
  | .var i :: rs, t :: ts, τ, P => (match τ[i]? with
    | some (some ⟨.frz, _, _⟩) => putB rs ts τ P
    | some (some ⟨k, false, _⟩) => putB rs ts (τ.set i (some ⟨k, false, t⟩)) P
    | some (some ⟨_, true, u⟩) => u = t ∧ putB rs ts τ P
    | _ => False)
  | [], _, τ, P => P τ
  | _ :: _, [], _, _ => False
/-- no name is handed in twice where it is owned -/
def varsOk : List R → Bool
  | [] => true
  | .val _ _ :: rs => varsOk rs
  | .var i :: rs => (rs.all fun r => match r with | .var j => !(i == j) | _ => true) && varsOk rs
abbrev callS (S : TSp) : TSp := S
def ttCall (S : TSp) (XT : String → TSt → Prop) (ta : TTA) : TTE := fun τ P => ta τ fun rs τ1 => varsOk rs = true ∧ callS S (mkA τ1 0 rs) (fun r ts => ts.length = rs.length ∧ putB rs ts τ1 fun τ2 => P r τ2) (fun c ts => ts.length = rs.length ∧ putB rs ts τ1 fun τ2 => XT c τ2)

section
variable {K : PySem.W.Frag} {B : Bs} {F H F' H' : Hp} {σ : St} {τ : TSt}
theorem varsOk_ne : ∀ {rs : List R} {i j m : Nat}, varsOk rs = true → rs[i]? = some (.var m) → rs[j]? = some (.var m) → i = j
  | .val _ _ :: rs, 0, j, m, h, h1, h2 => by cases h1
  | .val _ _ :: rs, i + 1, 0, m, h, h1, h2 => by cases h2
  | .val _ _ :: rs, i + 1, j + 1, m, h, h1, h2 => congrArg (· + 1) (varsOk_ne (rs := rs) h (by simpa using h1) (by simpa using h2))
  | .var n :: rs, 0, 0, m, h, h1, h2 => rfl
  | .var n :: rs, 0, j + 1, m, h, h1, h2 => by
    cases h1
    have h := (Bool.and_eq_true_iff.mp h).1
    have := List.all_eq_true.mp h (.var n) (List.mem_of_getElem? (by simpa using h2))
    simp at this
  | .var n :: rs, i + 1, 0, m, h, h1, h2 => by
    cases h2
    have h := (Bool.and_eq_true_iff.mp h).1
    have := List.all_eq_true.mp h (.var n) (List.mem_of_getElem? (by simpa using h1))
    simp at this
  | .var n :: rs, i + 1, j + 1, m, h, h1, h2 => congrArg (· + 1) (varsOk_ne (rs := rs) (Bool.and_eq_true_iff.mp h).2 (by simpa using h1) (by simpa using h2))
  | [], i, j, m, h, h1, h2 => by simp at h1
theorem RRs.len {vs : List V} : ∀ {rs : List R}, RRs K F H σ τ vs rs → vs.length = rs.length := fun h => by
  induction h with
  | nil => rfl
  | cons _ _ _ ih => rw [List.length_cons, List.length_cons, ih]
theorem RRs.get {vs : List V} {rs : List R} {i : Nat} {r : R} (h : RRs K F H σ τ vs rs) (e : rs[i]? = some r) : ∃ v, vs[i]? = some v ∧ RR K F H σ τ v r ∧ ∀ t, r ≠ .val true t := by
  induction h generalizing i with
  | nil => simp at e
  | cons h1 h2 _ ih =>
    cases i with
    | zero => simp at e; subst e; exact ⟨_, rfl, h1, h2⟩
    | succ i => simpa using ih (by simpa using e)
theorem mkA_len (τ : TSt) : ∀ (j : Nat) (rs : List R), (mkA τ j rs).length = rs.length
  | _, [] => rfl
  | j, .val _ _ :: rs => by simp [mkA, mkA_len τ (j + 1) rs]
  | j, .var _ :: rs => by simp [mkA, mkA_len τ (j + 1) rs]
theorem mkA_get {τ : TSt} : ∀ {rs : List R} {b i : Nat} {s : Sl}, (mkA τ b rs)[i]? = some s → (∃ k t, rs[i]? = some (.val k t) ∧ s = ⟨.frz, false, t⟩) ∨ ∃ m, rs[i]? = some (.var m) ∧ (((∃ l t, τ[m]? = some (some ⟨.frz, l, t⟩) ∧ s = ⟨.frz, false, t⟩) ∨ ∃ k l t, τ[m]? = some (some ⟨k, l, t⟩) ∧ k ≠ .frz ∧ s = ⟨.arg (b + i), false, t⟩) ∨ ∀ x, τ[m]? ≠ some (some x))
  | [], _, _, _, h => by simp [mkA] at h
  | .val k t :: rs, b, 0, s, h => by
    simp [mkA] at h
    exact .inl ⟨k, t, rfl, h.symm⟩
  | .val k t :: rs, b, i + 1, s, h => by
    have h' : (mkA τ (b + 1) rs)[i]? = some s := by simpa [mkA] using h
    have := mkA_get h'
    rw [show b + 1 + i = b + (i + 1) by omega] at this
    simpa using this
  | .var m :: rs, b, 0, s, h => by
    refine .inr ⟨m, rfl, ?_⟩
    simp only [mkA, List.getElem?_cons_zero, Option.some.injEq] at h
    split at h
    · rename_i l t e
      exact .inl (.inl ⟨l, t, e, h.symm⟩)
    · rename_i k l t ne e
      exact .inl (.inr ⟨k, l, t, e, ne, h.symm⟩)
    · rename_i n1 n2
      exact .inr fun ⟨k, l, t⟩ e => n2 k l t e
  | .var m :: rs, b, i + 1, s, h => by
    have h' : (mkA τ (b + 1) rs)[i]? = some s := by simpa [mkA] using h
    have := mkA_get h'
    rw [show b + 1 + i = b + (i + 1) by omega] at this
    simpa using this
theorem argA_get {as : List Sl} {vs : List V} {i : Nat} {a : Addr} (h : (argA as vs)[i]? = some (some a)) : ∃ s, as[i]? = some s ∧ s.k ≠ .frz ∧ vs[i]? = some (.ref a) := by
  unfold argA at h
  rw [List.getElem?_zipWith] at h
  cases e1 : as[i]? with
  | none => rw [e1] at h; simp at h
  | some s =>
    cases e2 : vs[i]? with
    | none => rw [e1, e2] at h; simp at h
    | some v =>
      rw [e1, e2] at h
      simp only [Option.some.injEq] at h
      split at h
      · rename_i j b ek
        cases h
        exact ⟨s, rfl, by rw [ek]; simp, rfl⟩
      · cases h
theorem argA_of {as : List Sl} {vs : List V} {i j : Nat} {a : Addr} {s : Sl} (h : as[i]? = some s) (hk : s.k = .arg j) (hv : vs[i]? = some (.ref a)) : (argA as vs)[i]? = some (some a) := by
  unfold argA
  rw [List.getElem?_zipWith, h, hv]
  simp only [hk]
/-- the arguments as the callee wants them -/
theorem call_args {vs : List V} {rs : List R} (w : WF K F H σ τ) (r : RRs K F H σ τ vs rs) (ok : varsOk rs = true) : AOk K F H vs (mkA τ 0 rs) ∧ ∀ (i : Nat) (a : Addr), (argA (mkA τ 0 rs) vs)[i]? = some (some a) → ∃ m k, rs[i]? = some (.var m) ∧ Owns σ τ m k a := by
  have key : ∀ (i : Nat) (a : Addr), (argA (mkA τ 0 rs) vs)[i]? = some (some a) → ∃ m k, rs[i]? = some (.var m) ∧ Owns σ τ m k a := fun i a h => by
    obtain ⟨s, hs, hk, hv⟩ := argA_get h
    rcases mkA_get hs with ⟨k, t, e, rfl⟩ | ⟨m, e, (⟨l, t, e2, rfl⟩ | ⟨k, l, t, e2, hk2, rfl⟩) | hn⟩
    · exact absurd rfl hk
    · exact absurd rfl hk
    · obtain ⟨v, hv', ⟨h1, _⟩, _⟩ := r.get e
      rw [hv] at hv'
      cases hv'
      exact ⟨m, k, e, l, t, e2, hk2, h1⟩
    · obtain ⟨v, hv', ⟨_, x, h1⟩, _⟩ := r.get e
      exact absurd h1 (hn x)
  refine ⟨⟨w.sub, by rw [mkA_len]; exact r.len, fun j s hs => ?_, fun j s v hs hv hk => ?_, fun j s v hs hv hk => ?_, fun i j a h1 h2 => ?_⟩, key⟩
  · rcases mkA_get hs with ⟨k, t, e, rfl⟩ | ⟨m, e, (⟨l, t, e2, rfl⟩ | ⟨k, l, t, e2, hk2, rfl⟩) | hn⟩
    · rfl
    · rfl
    · rfl
    · obtain ⟨v, hv', ⟨_, x, h1⟩, _⟩ := r.get e
      exact absurd h1 (hn x)
  · rcases mkA_get hs with ⟨k, t, e, rfl⟩ | ⟨m, e, (⟨l, t, e2, rfl⟩ | ⟨k, l, t, e2, hk2, rfl⟩) | hn⟩
    · obtain ⟨v', hv', h1, nt⟩ := r.get e
      rw [hv] at hv'
      cases hv'
      cases k with
      | false => exact h1
      | true => exact absurd rfl (nt t)
    · obtain ⟨v', hv', ⟨h1, _⟩, _⟩ := r.get e
      rw [hv] at hv'
      cases hv'
      obtain ⟨v', e3, rp⟩ := w.frz m l t e2
      rw [h1] at e3
      cases e3
      exact rp
    · cases hk
    · obtain ⟨v, hv', ⟨_, x, h1⟩, _⟩ := r.get e
      exact absurd h1 (hn x)
  · rcases mkA_get hs with ⟨k, t, e, rfl⟩ | ⟨m, e, (⟨l, t, e2, rfl⟩ | ⟨k, l, t, e2, hk2, rfl⟩) | hn⟩
    · exact absurd rfl hk
    · exact absurd rfl hk
    · obtain ⟨v', hv', ⟨h1, _⟩, _⟩ := r.get e
      rw [hv] at hv'
      cases hv'
      obtain ⟨a, e3, n, o⟩ := w.own m k l t e2 hk2
      rw [h1] at e3
      cases e3
      exact ⟨by simp, a, rfl, n, o⟩
    · obtain ⟨v, hv', ⟨_, x, h1⟩, _⟩ := r.get e
      exact absurd h1 (hn x)
  · obtain ⟨m, k, e1, o1⟩ := key i a h1
    obtain ⟨m', k', e2, o2⟩ := key j a h2
    have em := w.sep m m' k k' a o1 o2
    subst em
    exact varsOk_ne ok e1 e2
/-- what stands in the slots behind a call -/
structure PutOk (rs : List R) (ts : List T) (τ τ' : TSt) : Prop where
  len : τ'.length = τ.length
  old : ∀ (m : Nat) (s : Sl), τ'[m]? = some (some s) → ∃ u, τ[m]? = some (some ⟨s.k, s.l, u⟩) ∧ ((s.k ≠ .frz ∧ ∃ i : Nat, rs[i]? = some (.var m) ∧ ts[i]? = some s.t) ∨ (u = s.t ∧ (s.k = .frz ∨ ∀ i : Nat, rs[i]? ≠ some (.var m))))
  has : ∀ (m : Nat) (s : Sl), τ[m]? = some (some s) → ∃ u, τ'[m]? = some (some ⟨s.k, s.l, u⟩) ∧ (s.l = true → u = s.t)
theorem putB_ok : ∀ {rs : List R} {ts : List T} {τ : TSt} {P : TSt → Prop}, varsOk rs = true → putB rs ts τ P → ∃ τ', P τ' ∧ PutOk rs ts τ τ'
  | [], ts, τ, P, _, h => ⟨τ, h, rfl, fun m s e => ⟨s.t, e, .inr ⟨rfl, .inr fun i z => by simp at z⟩⟩, fun m s e => ⟨s.t, e, fun _ => rfl⟩⟩
  | .val _ _ :: rs, [], τ, P, ok, h => h.elim
  | .var _ :: rs, [], τ, P, ok, h => h.elim
  | .val k u :: rs, t :: ts, τ, P, ok, h => by
    obtain ⟨τ', hp, q⟩ := putB_ok (rs := rs) ok h
    refine ⟨τ', hp, q.len, fun m s e => ?_, q.has⟩
    obtain ⟨u', e1, c⟩ := q.old m s e
    refine ⟨u', e1, c.imp (fun ⟨hk, i, h1, h2⟩ => ⟨hk, i + 1, by simpa using h1, by simpa using h2⟩) fun ⟨h1, h2⟩ => ⟨h1, h2.imp id fun h2 i => ?_⟩⟩
    cases i with
    | zero => intro z; cases z
    | succ i => simpa using h2 i
  | .var n :: rs, t :: ts, τ, P, ok, h => by
    have ok' := (Bool.and_eq_true_iff.mp ok).2
    have nn : ∀ i : Nat, rs[i]? ≠ some (.var n) := fun i z => by
      have := varsOk_ne (rs := .var n :: rs) (i := 0) (j := i + 1) (m := n) ok rfl (by simpa using z)
      cases this
    unfold putB at h
    split at h
    · rename_i l u e
      obtain ⟨τ', hp, q⟩ := putB_ok (rs := rs) ok' h
      refine ⟨τ', hp, q.len, fun m s e1 => ?_, q.has⟩
      obtain ⟨u', e2, c⟩ := q.old m s e1
      refine ⟨u', e2, c.imp (fun ⟨hk, i, h1, h2⟩ => ⟨hk, i + 1, by simpa using h1, by simpa using h2⟩) fun ⟨h1, h2⟩ => ⟨h1, ?_⟩⟩
      by_cases hm : m = n
      · subst hm
        obtain ⟨k1, l1, t1⟩ := s
        rw [e] at e2
        cases e2
        exact .inl rfl
      · refine h2.imp id fun h2 i => ?_
        cases i with
        | zero => intro z; cases z; exact hm rfl
        | succ i => simpa using h2 i
    · rename_i k u ne e
      obtain ⟨τ', hp, q⟩ := putB_ok (rs := rs) ok' h
      have hl : n < τ.length := (List.getElem?_eq_some_iff.mp e).1
      have hkf : k ≠ .frz := ne
      refine ⟨τ', hp, by rw [q.len, List.length_set], fun m s e1 => ?_, fun m s e1 => ?_⟩
      · obtain ⟨u', e2, c⟩ := q.old m s e1
        rcases set_get e2 with ⟨hm, z, _⟩ | ⟨hm, z⟩
        · subst hm
          obtain ⟨k1, l1, t1⟩ := s
          cases z
          refine ⟨u, e, .inl ⟨hkf, 0, rfl, ?_⟩⟩
          rcases c with ⟨_, i, h1, _⟩ | ⟨h1, _⟩
          · exact absurd h1 (nn i)
          · rw [h1]; rfl
        · refine ⟨u', z, c.imp (fun ⟨hk, i, h1, h2⟩ => ⟨hk, i + 1, by simpa using h1, by simpa using h2⟩) fun ⟨h1, h2⟩ => ⟨h1, h2.imp id fun h2 i => ?_⟩⟩
          cases i with
          | zero => intro z; cases z; exact hm rfl
          | succ i => simpa using h2 i
      · by_cases hm : m = n
        · subst hm
          obtain ⟨k1, l1, t1⟩ := s
          rw [e] at e1
          cases e1
          obtain ⟨u', e2, _⟩ := q.has m ⟨k, false, t⟩ (List.getElem?_set_self hl)
          exact ⟨u', e2, fun z => by cases z⟩
        · exact q.has m s (by rw [List.getElem?_set_ne (Ne.symm hm)]; exact e1)
    · rename_i k u ne e
      have hkf : k ≠ .frz := ne
      obtain ⟨hu, h⟩ := h
      subst hu
      obtain ⟨τ', hp, q⟩ := putB_ok (rs := rs) ok' h
      refine ⟨τ', hp, q.len, fun m s e1 => ?_, q.has⟩
      obtain ⟨u', e2, c⟩ := q.old m s e1
      by_cases hm : m = n
      · subst hm
        obtain ⟨k1, l1, t1⟩ := s
        rw [e] at e2
        cases e2
        refine ⟨u, e, .inl ⟨hkf, 0, rfl, ?_⟩⟩
        rcases c with ⟨_, i, h1, _⟩ | ⟨h1, _⟩
        · exact absurd h1 (nn i)
        · rw [h1]; rfl
      · refine ⟨u', e2, c.imp (fun ⟨hk, i, h1, h2⟩ => ⟨hk, i + 1, by simpa using h1, by simpa using h2⟩) fun ⟨h1, h2⟩ => ⟨h1, h2.imp id fun h2 i => ?_⟩⟩
        cases i with
        | zero => intro z; cases z; exact hm rfl
        | succ i => simpa using h2 i
    · exact h.elim
/-- the state behind a call -/
theorem call_back {vs : List V} {rs : List R} {ts : List T} {τ' : TSt} (w : WF K F H σ τ) (r : RRs K F H σ τ vs rs) (ok : varsOk rs = true) (c : COk K F H (argA (mkA τ 0 rs) vs) F' H' ts) (p : PutOk rs ts τ τ') : WF K F' H' σ τ' ∧ Stp F H σ τ F' H' τ' := by
  obtain ⟨ao, key⟩ := call_args w r ok
  have own' : ∀ i k a, Owns σ τ' i k a → Owns σ τ i k a := fun i k a ⟨l, t, h1, h2, h3⟩ => by
    obtain ⟨u, e, _⟩ := p.old i _ h1
    exact ⟨l, u, e, h2, h3⟩
  refine ⟨⟨c.in_, by rw [p.len]; exact w.len, fun i l t h => ?_, fun i k l t h hk => ?_, fun i j k l a h1 h2 => w.sep i j k l a (own' _ _ _ h1) (own' _ _ _ h2)⟩, ⟨c.sub, fun a h => (c.new a h).imp id .inl, fun a o h n => c.fr a o h fun hm => ?_, c.dom, own', fun i s h => let ⟨u, e, _⟩ := p.has i s h; ⟨_, e⟩, fun i k t h => ?_⟩⟩
  · obtain ⟨u, e, q⟩ := p.old i _ h
    rcases q with ⟨hk, _⟩ | ⟨hu, _⟩
    · exact absurd rfl hk
    · subst hu
      obtain ⟨v, e2, rp⟩ := w.frz i l _ e
      exact ⟨v, e2, Rep.mono c.sub _ _ rp⟩
  · obtain ⟨u, e, q⟩ := p.old i _ h
    obtain ⟨a, ea, nF, o⟩ := w.own i k l u e hk
    refine ⟨a, ea, ?_⟩
    have oi : Owns σ τ i k a := ⟨l, u, e, hk, ea⟩
    rcases q with ⟨_, j, h1, h2⟩ | ⟨hu, hn⟩
    · -- handed in
      obtain ⟨v, hv, ⟨h3, _⟩, _⟩ := r.get h1
      have ev : v = .ref a := by rw [ea] at h3; cases h3; rfl
      subst ev
      have hs : ∃ s, (mkA τ 0 rs)[j]? = some s := by
        have : j < (mkA τ 0 rs).length := by rw [mkA_len]; exact (List.getElem?_eq_some_iff.mp h1).1
        exact ⟨_, List.getElem?_eq_getElem this⟩
      obtain ⟨s, hs⟩ := hs
      have hj : (argA (mkA τ 0 rs) vs)[j]? = some (some a) := by
        rcases mkA_get hs with ⟨k', t', e', rfl⟩ | ⟨m, e', (⟨l', t', e2, rfl⟩ | ⟨k', l', t', e2, hk2, rfl⟩) | hn⟩
        · rw [h1] at e'; cases e'
        · rw [h1] at e'
          cases e'
          rw [e] at e2
          cases e2
          exact absurd rfl hk
        · exact argA_of hs rfl hv
        · rw [h1] at e'
          cases e'
          exact absurd e (hn _)
      obtain ⟨t', e4, n4, o4⟩ := c.ar j a hj
      rw [h2] at e4
      cases e4
      exact ⟨n4, o4⟩
    · subst hu
      have hna : some a ∉ argA (mkA τ 0 rs) vs := fun hm => by
        obtain ⟨j, hj⟩ := List.mem_iff_getElem?.mp hm
        obtain ⟨m, k', e1, o1⟩ := key j a hj
        have := w.sep i m k k' a oi o1
        subst this
        rcases hn with hn | hn
        · exact hk hn
        · exact hn j e1
      obtain ⟨ob, ho⟩ := o.ex
      refine ⟨?_, o.mono c.sub ((c.fr a ob ho hna).trans ho.symm)⟩
      cases q : F' a with
      | none => rfl
      | some x =>
        rcases c.new a (by rw [q]; simp) with z | z
        · exact absurd nF z
        · rw [ho] at z; cases z
  · obtain ⟨j, hj⟩ := List.mem_iff_getElem?.mp hm
    obtain ⟨m, k', e1, o1⟩ := key j a hj
    exact n m k' o1
  · obtain ⟨u, e, q⟩ := p.has i _ h
    rw [q rfl] at e
    exact e
end

section
variable {X : Cx} {B : Bs} {CX : CXT} {k : Nat} {f : Addr} {fd : FuncData} {ps : List Str} {cls : String → Addr} {S : TSp} {XT : String → TSt → Prop} {ta : TTA} {E : XK} {x : Str} {p pos : Pos} {e : Expr} {es : List Expr}
theorem call_imp (hE : ∀ c F H σ τ, Inn X.K B F H σ τ → XT c τ → E (.ref (cls c)) none H) (σ : St) (H : Hp) (Q : VK) (h : lift X.K B (ttCall S XT ta) σ H Q) : tCall (liftSp X.K cls S) [] E (liftA X.K B ta) σ H Q := by
  obtain ⟨F, τ, P, I, h, hq⟩ := h
  refine ⟨F, τ, _, I, h, fun rs τ1 F1 H1 vs ⟨ok, h1⟩ I1 s1 r1 => ?_⟩
  obtain ⟨ao, key⟩ := call_args I1.wf r1 ok
  rw [List.append_nil]
  refine ⟨F1, mkA τ1 0 rs, _, _, ao, h1, fun r ts F' H' v ⟨hl, hp⟩ c rc => ?_, fun cn ts F' H' ⟨hl, hp⟩ c => ?_⟩
  · obtain ⟨τ2, hp2, po⟩ := putB_ok ok hp
    obtain ⟨w, st⟩ := call_back I1.wf r1 ok c po
    have I2 := I1.step w st
    cases r with
    | var i => exact rc.elim
    | val kk t =>
      refine hq _ _ F' H' v hp2 I2 (s1.trans st) ?_ ?_
      · cases kk with
        | false => exact rc
        | true =>
          obtain ⟨q, ev, n, nF, o⟩ := rc
          refine ⟨q, ev, nF, o, fun i k' z => ?_⟩
          obtain ⟨l, t', h1, h2, h3⟩ := st.own i k' q z
          obtain ⟨a, e4, _, o4⟩ := I1.wf.own i k' l t' h1 h2
          rw [h3] at e4
          cases e4
          obtain ⟨ob, ho⟩ := o4.ex
          rw [n] at ho
          cases ho
      · cases kk with
        | false => trivial
        | true =>
          obtain ⟨q, ev, n, nF, o⟩ := rc
          refine ⟨q, ev, ?_⟩
          cases z : H q with
          | none => rfl
          | some ob => exact absurd n (s1.dom q (by rw [z]; simp))
  · obtain ⟨τ2, hp2, po⟩ := putB_ok ok hp
    obtain ⟨w, st⟩ := call_back I1.wf r1 ok c po
    exact hE cn F' H' σ τ2 (I1.step w st) hp2
theorem tpe_call (F : FnOk X.prog X.w X.K X.mg X.base CX k f fd ps (liftSp X.K cls S)) (hr : Room k X.A) (hg : Gl X x) (hm : X.mg x = some (.ref f)) (hk : PySem.W.keepIn X.K (.ref f) = true) (hb : Binds X.K fd ps []) (hx : Passes CX X E)
    (hE : ∀ c F H σ τ, Inn X.K B F H σ τ → XT c τ → E (.ref (cls c)) none H) (ha : TPA X B (e :: es) ta) (hdb : (x == ("__debug__" : Str)) = false := by decide) (he : starEach (e :: es) X.env = (false, eval e X.env) :: starEach es X.env := by rfl) (hpl : (backTo pos (starEach es X.env)).any (·.1) = false := by rfl) :
    TPE X B (.Call (.Name x p) (e :: es) [] pos) (ttCall S XT ta) := ⟨PE.imp (pe_call F hr hg hm hk hb (dvs := []) .nil hx ha.pa hdb he hpl) (call_imp hE)⟩
end

/-! ### a def -/
/-- what the arguments are at the end -/
def keptN (τ : TSt) : Nat → List Sl → Prop
  | _, [] => True
  | j, s :: as => (match s.k with
    | .frz => True
    | _ => match τ[j]? with
      | some (some ⟨.arg m, _, _⟩) => m = j
      | _ => False) ∧ keptN τ (j + 1) as
def keptA (as : List Sl) (τ : TSt) : Prop := keptN τ 0 as
def outN (τ : TSt) : Nat → List Sl → List T
  | _, [] => []
  | j, _ :: as => slT τ j :: outN τ (j + 1) as
def outA (as : List Sl) (τ : TSt) : List T := outN τ 0 as
theorem keptN_get {τ : TSt} : ∀ {as : List Sl} {b j : Nat} {s : Sl}, keptN τ b as → as[j]? = some s → s.k ≠ .frz → ∃ t l, τ[b + j]? = some (some ⟨.arg (b + j), l, t⟩)
  | [], _, _, _, _, h, _ => by simp at h
  | x :: as, b, 0, s, h, e, hk => by
    simp at e
    subst e
    have h1 := h.1
    split at h1
    · rename_i e; exact absurd e hk
    · split at h1
      · rename_i m l t e
        subst h1
        exact ⟨t, l, e⟩
      · exact h1.elim
  | x :: as, b, j + 1, s, h, e, hk => by
    have := keptN_get (b := b + 1) (j := j) h.2 (by simpa using e) hk
    rwa [show b + 1 + j = b + (j + 1) by omega] at this
theorem outN_get {τ : TSt} : ∀ {as : List Sl} {b j : Nat}, j < as.length → (outN τ b as)[j]? = some (slT τ (b + j))
  | [], _, _, h => by simp at h
  | x :: as, b, 0, _ => rfl
  | x :: as, b, j + 1, h => by
    have := outN_get (τ := τ) (as := as) (b := b + 1) (j := j) (by simpa using h)
    rw [show b + 1 + j = b + (j + 1) by omega] at this
    simpa [outN] using this
def retR (r : R) (τ : TSt) (P : R → TSt → Prop) : Prop := match r with
  | .val k t => P (.val k t) τ
  | .var i => match τ[i]? with
    | some (some ⟨.frz, _, t⟩) => P (.val false t) τ
    | some (some ⟨.own, _, t⟩) => P (.val true t) τ
    | _ => False
def endsT (as : List Sl) (PR : R → List T → Prop) : TEnds where
  nx := fun τ => keptA as τ ∧ PR (.val false .non) (outA as τ)
  rt := fun r τ => retR r τ fun r' τ' => keptA as τ' ∧ PR r' (outA as τ')
def xtT (as : List Sl) (PX : String → List T → Prop) : String → TSt → Prop := fun c τ => keptA as τ ∧ PX c (outA as τ)
def startT (n : Nat) (as : List Sl) : TSt := as.map some ++ List.replicate (n - as.length) none
section
variable {K : PySem.W.Frag} {F H : Hp} {vs : List V} {as : List Sl}
theorem start_in {N : List Str} {ps : List Str} (ao : AOk K F H vs as) (hl : vs.length ≤ N.length) : Inn K ⟨F, H, argA as vs⟩ F H (L2.start N vs) (startT N.length as) := by
  have g : ∀ (i : Nat) (s : Sl), (startT N.length as)[i]? = some (some s) → as[i]? = some s := fun i s h => by
    unfold startT at h
    by_cases hi : i < as.length
    · rw [List.getElem?_append_left (by rw [List.length_map]; exact hi), List.getElem?_map] at h
      cases e : as[i]? with
      | none => rw [e] at h; cases h
      | some x => rw [e] at h; cases h; rfl
    · rw [List.getElem?_append_right (by rw [List.length_map]; omega), List.getElem?_replicate] at h
      split at h <;> cases h
  have gv : ∀ (i : Nat) (v : V), vs[i]? = some v → (L2.start N vs)[i]? = some (some v) := fun i v h => by
    unfold L2.start
    have hi : i < vs.length := (List.getElem?_eq_some_iff.mp h).1
    rw [List.getElem?_append_left (by rw [List.length_map]; exact hi), List.getElem?_map, h]
    rfl
  have hv : ∀ (i : Nat) (s : Sl), as[i]? = some s → ∃ v, vs[i]? = some v := fun i s h => by
    have hi : i < as.length := (List.getElem?_eq_some_iff.mp h).1
    exact ⟨_, List.getElem?_eq_getElem (by rw [ao.len]; exact hi)⟩
  have owns : ∀ i k a, Owns (L2.start N vs) (startT N.length as) i k a → k = .arg i ∧ (argA as vs)[i]? = some (some a) := fun i k a ⟨l, t, h1, h2, h3⟩ => by
    have hs := g i _ h1
    obtain ⟨v, ev⟩ := hv i _ hs
    rw [gv i v ev] at h3
    cases h3
    obtain ⟨hk, _⟩ := ao.ow i _ _ hs ev h2
    exact ⟨hk, argA_of hs hk ev⟩
  refine ⟨⟨ao.sub, ?_, fun i l t h => ?_, fun i k l t h hk => ?_, fun i j k l a h1 h2 => ao.sep i j a (owns _ _ _ h1).2 (owns _ _ _ h2).2⟩, fun _ _ h => h, fun _ h => .inl h, fun _ _ h _ => h, fun _ h => h, fun i a h => ?_, fun i j a h => ?_⟩
  · unfold startT L2.start
    simp [ao.len]
  · have hs := g i _ h
    obtain ⟨v, ev⟩ := hv i _ hs
    exact ⟨v, gv i v ev, ao.fz i _ v hs ev rfl⟩
  · have hs := g i _ h
    obtain ⟨v, ev⟩ := hv i _ hs
    obtain ⟨_, a, rfl, n, o⟩ := ao.ow i _ v hs ev hk
    exact ⟨a, gv i _ ev, n, o⟩
  · obtain ⟨e, _⟩ := owns _ _ _ h
    cases e
  · obtain ⟨e, h'⟩ := owns _ _ _ h
    cases e
    exact h'
theorem end_ok {F' H' : Hp} {σ : St} {τ : TSt} (ao : AOk K F H vs as) (I : Inn K ⟨F, H, argA as vs⟩ F' H' σ τ) (kp : keptA as τ) : COk K F H (argA as vs) F' H' (outA as τ) := by
  refine ⟨I.sub, I.wf.sub, I.new, I.fr, I.dom, fun j a h => ?_⟩
  obtain ⟨s, hs, hk, hv⟩ := argA_get h
  obtain ⟨t, l, ht⟩ := keptN_get kp hs hk
  rw [Nat.zero_add] at ht
  obtain ⟨a', e, n, o⟩ := I.wf.own j (.arg j) l t ht (by simp)
  have := I.ar j j a' ⟨l, t, ht, by simp, e⟩
  have e2 : a' = a := by
    have h' : (argA as vs)[j]? = some (some a') := this
    rw [h] at h'
    cases h'
    rfl
  subst e2
  have hj : j < as.length := (List.getElem?_eq_some_iff.mp hs).1
  refine ⟨slT τ j, ?_, n, ?_⟩
  · have := outN_get (τ := τ) (b := 0) hj
    rwa [Nat.zero_add] at this
  · rw [show slT τ j = t by simp [slT, ht]]
    exact o
theorem ret_ok {F' H' : Hp} {σ : St} {τ : TSt} {v : V} {r : R} {B : Bs} (I : Inn K B F' H' σ τ) (rr : RR K F' H' σ τ v r) (f : Fresh B.H v r) {P : R → TSt → Prop} (h : retR r τ P) : ∃ r', P r' τ ∧ RC K B.H F' H' v r' := by
  cases r with
  | val k t =>
    refine ⟨_, h, ?_⟩
    cases k with
    | false => exact rr
    | true =>
      obtain ⟨p, rfl, n, o, _⟩ := rr
      obtain ⟨p', e, nb⟩ := f
      cases e
      exact ⟨p, rfl, nb, n, o⟩
  | var i =>
    unfold retR at h
    obtain ⟨hv, s, hs⟩ := rr
    simp only at h
    split at h
    · rename_i l t e
      obtain ⟨v', e2, rp⟩ := I.wf.frz i l t e
      rw [hv] at e2
      cases e2
      exact ⟨_, h, rp⟩
    · rename_i l t e
      obtain ⟨a, e2, n, o⟩ := I.wf.own i .own l t e (by simp)
      rw [hv] at e2
      cases e2
      exact ⟨_, h, a, rfl, I.ow i a ⟨l, t, e, by simp, hv⟩, n, o⟩
    · exact h.elim
end
section
variable {P : Program} {w : World} {K : PySem.W.Frag} {mg : Str → Option Value} {base : Heap} {cls : String → Addr}
/-- the ends of a body, from what is wanted of its call -/
theorem ends_ok {N : List Str} {F H : Hp} {vs : List V} {as : List Sl} {Q : VK} {PR : R → List T → Prop} (ao : AOk K F H vs as) (hq : ∀ r ts F' H' v, PR r ts → COk K F H (argA as vs) F' H' ts → RC K H F' H' v r → Q v H') :
    EndsOk K ⟨F, H, argA as vs⟩ F (L2.start N vs) (startT N.length as) (endsT as PR) { nx := fun _ H' => Q .non H', rt := Q } :=
  ⟨fun F' H' σ τ I _ ⟨kp, h⟩ => hq _ _ F' H' .non h (end_ok ao I kp) rfl, fun _ _ _ _ _ _ h => h, fun _ _ _ _ _ _ h => h, fun F' H' σ τ r v I rr f h => by
    obtain ⟨r', ⟨kp, h⟩, rc⟩ := ret_ok (P := fun r' τ' => keptA as τ' ∧ PR r' (outA as τ')) I rr f h
    exact hq _ _ F' H' v h (end_ok ao I kp) rc⟩
/-- a def that raises nothing -/
theorem def0 {x qual : Str} {st : Stmt} {f : Addr} {fd : FuncData} {N ps : List Str} {k : Nat} {S : TSp} (Fn : Fun K x qual st f fd) (Sc : FnScope N ps (defScope st)) (hl : ∀ as PR PX, S as PR PX → as.length = ps.length) {t : TTS}
    (hb : ∀ (cdv : Value) (A : Around) (outer : List Env) (s : Shared) (H : Hp) (E : XK) (B : Bs), Room k (A.deeper (PyProof.Rows.envOfC qual (defScope st) s.heap.objs.size f cdv)) → TPSs (cxOf CX0 P w K mg base N qual (defScope st) f cdv A outer s H E).nox B (defBody st) t)
    (ht : ∀ as PR PX, S as PR PX → t (endsT as PR) (startT N.length as)) : FnOk P w K mg base CX0 (k + 1) f fd ps (liftSp K cls S) := by
  have hpl : ps.length ≤ N.length := by have := congrArg List.length Sc.pre; rw [List.length_take] at this; omega
  refine Fn.ok Sc (fun vs H Q E h => ?_) (fun cdv A outer s H vs Q E hr h => ?_)
  · obtain ⟨F, as, PR, PX, ao, hs, _⟩ := h
    rw [ao.len]
    exact hl as PR PX hs
  · obtain ⟨F, as, PR, PX, ao, hs, hq, _⟩ := h
    refine ⟨_, (hb cdv A outer s H E ⟨F, H, argA as vs⟩ hr).pss, F, startT N.length as, endsT as PR, start_in (ps := ps) ao (by rw [ao.len, hl as PR PX hs]; exact hpl), ht as PR PX hs, ends_ok ao hq⟩
/-- a def that may raise -/
theorem defX {x qual : Str} {st : Stmt} {f : Addr} {fd : FuncData} {N ps : List Str} {k : Nat} {S : TSp} (Fn : Fun K x qual st f fd) (Sc : FnScope N ps (defScope st)) (hl : ∀ as PR PX, S as PR PX → as.length = ps.length) {t : (String → TSt → Prop) → TTS}
    (hb : ∀ (cdv : Value) (A : Around) (outer : List Env) (s : Shared) (H : Hp) (E : XK) (B : Bs) (XT : String → TSt → Prop), Room k (A.deeper (PyProof.Rows.envOfC qual (defScope st) s.heap.objs.size f cdv)) → (∀ c F H σ τ, Inn K B F H σ τ → XT c τ → E (.ref (cls c)) none H) → TPSs (cxOf (L2.CX P w) P w K mg base N qual (defScope st) f cdv A outer s H E) B (defBody st) (t XT))
    (ht : ∀ as PR PX, S as PR PX → t (xtT as PX) (endsT as PR) (startT N.length as)) : FnOk P w K mg base (L2.CX P w) (k + 1) f fd ps (liftSp K cls S) := by
  have hpl : ps.length ≤ N.length := by have := congrArg List.length Sc.pre; rw [List.length_take] at this; omega
  refine Fn.okX Sc (fun vs H Q E h => ?_) (fun cdv A outer s H vs Q E hr h => ?_)
  · obtain ⟨F, as, PR, PX, ao, hs, _⟩ := h
    rw [ao.len]
    exact hl as PR PX hs
  · obtain ⟨F, as, PR, PX, ao, hs, hq, hx⟩ := h
    refine ⟨_, (hb cdv A outer s H E ⟨F, H, argA as vs⟩ (xtT as PX) hr fun c F' H' σ τ I ⟨kp, h⟩ => hx c _ F' H' h (end_ok ao I kp)).pss, F, startT N.length as, endsT as PR, start_in (ps := ps) ao (by rw [ao.len, hl as PR PX hs]; exact hpl), ht as PR PX hs, ends_ok ao hq⟩
end
end TL

namespace TL
open PySem L2

/-! ### + - * // % ** << -/
def addT : G2 := fun a b k => match a, b with
  | .int i, .int j => k false (.int (i + j))
  | .str x, .str y => x.length + y.length ≤ sizeLine ∧ k false (.str (x ++ y))
  | .lst xs, .lst ys => xs.length + ys.length ≤ sizeLine ∧ k true (.lst (xs ++ ys))
  | .tup xs, .tup ys => xs.length + ys.length ≤ sizeLine ∧ k false (.tup (xs ++ ys))
  | _, _ => False
def intT (C : Int → Int → Prop) (g : Int → Int → Int) : G2 := fun a b k => match a, b with
  | .int i, .int j => C i j ∧ k false (.int (g i j))
  | _, _ => False
def cmpT (g : Int → Int → Bool) : G2 := fun a b k => match a, b with
  | .int i, .int j => k false (.bl (g i j))
  | _, _ => False
def MulOk (i j : Int) : Prop := (-(2 ^ 64) < i ∧ i < 2 ^ 64) ∨ (-(2 ^ 64) < j ∧ j < 2 ^ 64) ∨ CMulX i j
def subT : G2 := intT (fun _ _ => True) fun i j => i - j
def mulT : G2 := fun a b k => match a, b with
  | .int i, .int j => MulOk i j ∧ k false (.int (i * j))
  | .lst xs, .int j => (-(2 ^ 63) ≤ j ∧ j < 2 ^ 63 ∧ xs.length * j.toNat ≤ sizeLine) ∧ k true (.lst (List.replicate j.toNat xs).flatten)
  | _, _ => False
def fdivT : G2 := intT (fun _ j => 0 < j ∧ j.natAbs.log2 < 9000) fun i j => i / j
def modT : G2 := intT (fun _ j => 0 < j) fun i j => i % j
def powT : G2 := intT (fun i j => 0 ≤ j ∧ j ≤ 1000000 ∧ i.natAbs < 2 ^ 64) fun i j => i ^ j.toNat
def shlT : G2 := intT (fun i j => 0 ≤ j ∧ j ≤ 1000000 ∧ i.natAbs < 2 ^ 64) fun i j => i * 2 ^ j.toNat
def ltT : G2 := cmpT fun i j => decide (i < j)
def leT : G2 := cmpT fun i j => decide (i ≤ j)
def gtT : G2 := cmpT fun i j => decide (j < i)
def geT : G2 := cmpT fun i j => decide (j ≤ i)
section
variable {X : Cx}
theorem opt_int {f : Value → Value → Sem Value} {C : Int → Int → Prop} {g : Int → Int → Int} (h : OpR X f (rI C fun i j => .int (g i j))) : OpT X f (intT C g) := by
  refine ⟨_, h, fun F H x y tx ty G Q s rx ry hg k => ?_⟩
  unfold intT at hg
  split at hg
  · exact ⟨_, _, rx.int, ry.int, hg.1, k false _ _ F H hg.2 (Grow.refl s) rfl⟩
  · exact hg.elim
theorem opt_cmp {f : Value → Value → Sem Value} {g : Int → Int → Bool} (h : OpR X f (rI0 fun i j => .bl (g i j))) : OpT X f (cmpT g) := by
  refine ⟨_, h, fun F H x y tx ty G Q s rx ry hg k => ?_⟩
  unfold cmpT at hg
  split at hg
  · exact ⟨_, _, rx.int, ry.int, k false _ _ F H hg (Grow.refl s) rfl⟩
  · exact hg.elim
theorem OpR.imp {f : Value → Value → Sem Value} {r r' : R2} (h : OpR X f r) (i : ∀ x y H Q, r' x y H Q → r x y H Q) : OpR X f r' := fun pins s σ H x y v u Q I rx ry q => h pins s σ H x y v u Q I rx ry (i x y H Q q)
theorem o_sub : OpT X (binaryOp .Sub) subT := opt_int (OpR.imp op_sub fun _ _ _ _ ⟨i, j, e, e', _, q⟩ => ⟨i, j, e, e', q⟩)
theorem o_fdiv : OpT X (binaryOp .FloorDiv) fdivT := opt_int op_fdivW
theorem o_mod : OpT X (binaryOp .Mod) modT := opt_int op_mod
theorem o_pow : OpT X (binaryOp .Pow) powT := opt_int op_pow
theorem o_shl : OpT X (binaryOp .LShift) shlT := opt_int op_shl
theorem o_lt : OpT X (compareOp .Lt) ltT := opt_cmp op_lt
theorem o_le : OpT X (compareOp .LtE) leT := opt_cmp op_le
theorem o_gt : OpT X (compareOp .Gt) gtT := opt_cmp op_gt
theorem o_ge : OpT X (compareOp .GtE) geT := opt_cmp op_ge
theorem o_mul : OpT X (binaryOp .Mult) mulT := by
  refine ⟨_, (op_mul (X := X)).or (op_mulX.or op_rep), fun F H x y tx ty G Q s rx ry hg k => ?_⟩
  unfold mulT at hg
  split at hg
  · obtain ⟨hc, hg⟩ := hg
    have e := k false _ _ F H hg (Grow.refl s) rfl
    rcases hc with hc | hc | hc
    · exact .inl ⟨_, _, rx.int, ry.int, .inl hc, e⟩
    · exact .inl ⟨_, _, rx.int, ry.int, .inr hc, e⟩
    · exact .inr (.inl ⟨_, _, rx.int, ry.int, hc, e⟩)
  · rename_i xs j
    obtain ⟨⟨h1, h2, h3⟩, hg⟩ := hg
    obtain ⟨a, vs, rfl, hl, z, r⟩ := rx.lst s
    refine .inr (.inr ⟨a, j, vs, rfl, ry.int, hl, h1, h2, by rw [← r.len]; exact h3, fun p np => ?_⟩)
    have rr : ∀ n, Reps X.K F (List.replicate n xs).flatten (List.replicate n vs).flatten := fun n => by
      induction n with
      | zero => exact rfl
      | succ n ih => rw [List.replicate_succ, List.replicate_succ, List.flatten_cons, List.flatten_cons]; exact Reps.append r ih
    refine k true _ _ F _ hg (Grow.own s np) ⟨p, rfl, np, s.free np, _, upd_same, ?_, rr _⟩
    rw [List.length_flatten, List.map_replicate, List.sum_replicate_nat, ← r.len, Nat.mul_comm]
    exact h3
  · exact hg.elim
theorem o_add : OpT X (binaryOp .Add) addT := by
  refine ⟨_, (op_add (X := X)).or (op_add_str.or (op_cat.or op_catA)), fun F H x y tx ty G Q s rx ry hg k => ?_⟩
  unfold addT at hg
  split at hg
  · exact .inl ⟨_, _, rx.int, ry.int, k false _ _ F H hg (Grow.refl s) rfl⟩
  · exact .inr (.inl ⟨_, _, rx.str, ry.str, hg.1, k false _ _ F H hg.2 (Grow.refl s) rfl⟩)
  · obtain ⟨a, xs, rfl, hl, z, r⟩ := rx.lst s
    obtain ⟨b, ys, rfl, hl2, z2, r2⟩ := ry.lst s
    have e : xs.length + ys.length ≤ sizeLine := by rw [← r.len, ← r2.len]; exact hg.1
    refine .inr (.inr (.inl ⟨a, b, xs, ys, rfl, rfl, hl, hl2, e, fun p np => ?_⟩))
    exact k true _ _ F _ hg.2 (Grow.own s np) ⟨p, rfl, np, s.free np, _, upd_same, by rw [List.length_append]; exact e, Reps.append r r2⟩
  · obtain ⟨a, xs, rfl, hl, z, r⟩ := rx.tup
    obtain ⟨b, ys, rfl, hl2, z2, r2⟩ := ry.tup
    have e : xs.length + ys.length ≤ sizeLine := by rw [← r.len, ← r2.len]; exact hg.1
    refine .inr (.inr (.inr ⟨a, b, xs, ys, rfl, rfl, SqT.mono s hl, SqT.mono s hl2, e, fun e0 => ?_, fun _ e1 => ?_, fun _ _ p np => ?_⟩))
    · exact k false _ _ F H hg.2 (Grow.refl s) ⟨b, xs ++ ys, rfl, by rw [e0]; exact hl2, by rw [List.length_append]; exact e, Reps.append r r2⟩
    · exact k false _ _ F H hg.2 (Grow.refl s) ⟨a, xs ++ ys, rfl, by rw [e1, List.append_nil]; exact hl, by rw [List.length_append]; exact e, Reps.append r r2⟩
    · exact k false _ _ _ _ hg.2 (Grow.frz s np) ⟨p, xs ++ ys, rfl, .inl (.inl upd_same), by rw [List.length_append]; exact e, Reps.mono (same_upd (s.free np)) _ _ (Reps.append r r2)⟩
  · exact hg.elim
end

/-! ### == and != -/
mutual
def T.D : T → PyData
  | .non => .none
  | .bl b => .bool b
  | .int i => .int i
  | .str x => .str x
  | .tup ts => .tuple (T.Ds ts)
  | .lst ts => .list (T.Ds ts)
  | _ => .none
def T.Ds : List T → List PyData
  | [] => []
  | t :: ts => T.D t :: T.Ds ts
end
mutual
def T.plain : T → Bool
  | .non => true
  | .bl _ => true
  | .int _ => true
  | .str _ => true
  | .tup ts => T.plains ts
  | .lst ts => T.plains ts
  | _ => false
def T.plains : List T → Bool
  | [] => true
  | t :: ts => T.plain t && T.plains ts
end
section
variable {K : PySem.W.Frag} {F H : Hp}
mutual
theorem Rep.dp (s : Same F H) : ∀ (t : T) (v : V), t.plain = true → Rep K F t v → Dp K H v t.D
  | .non, _, _, h => by rw [show _ = V.non from h]; exact .non
  | .bl b, _, _, h => by rw [show _ = V.bl b from h]; exact .bl b
  | .int i, _, _, h => by rw [show _ = V.int i from h]; exact .int i
  | .str x, _, _, h => by rw [show _ = V.str x from h]; exact .str x
  | .tup ts, _, p, ⟨a, vs, e, q, z, r⟩ => by rw [e]; exact .tup (SqT.mono s q) (Reps.dp s ts vs p r)
  | .lst ts, _, p, ⟨a, vs, e, q, z, r⟩ => by rw [e]; exact .lst (SqL.of (s _ _ q)) (Reps.dp s ts vs p r)
  | .dct _ _, _, p, _ => by cases p
  | .scr _, _, p, _ => by cases p
  | .oth _, _, p, _ => by cases p
theorem Reps.dp (s : Same F H) : ∀ (ts : List T) (vs : List V), T.plains ts = true → Reps K F ts vs → DpAll K H vs (T.Ds ts)
  | [], _, _, h => by rw [show _ = [] from h]; exact .nil
  | t :: ts, _, p, ⟨v, r, e, h1, h2⟩ => by
    rw [e]
    have p' : (T.plain t && T.plains ts) = true := p
    have p2 := Bool.and_eq_true_iff.mp p'
    exact .cons (Rep.dp s t v p2.1 h1) (Reps.dp s ts r p2.2 h2)
end
theorem RdT.dp {t : T} {v : V} (s : Same F H) (p : t.plain = true) (h : RdT K F H v t) : Dp K H v t.D := by
  rcases h with h | ⟨a, e, n, o⟩
  · exact Rep.dp s t v p h
  · cases t with
    | lst ts =>
      obtain ⟨vs, hl, z, r⟩ := o
      subst e
      exact .lst (SqL.of hl) (Reps.dp s ts vs p r)
    | dct _ _ => cases p
    | bdt _ _ => cases p
    | _ => exact o.elim
end
def eqOk (t : T) : Bool := t.plain && SeqAt.shaped t.D
def T.eqv (a b : T) : Bool := PyData.eqv a.D b.D
def eqT : G2 := fun a b k => (eqOk a && eqOk b) = true ∧ k false (.bl (T.eqv a b))
def neT : G2 := fun a b k => (eqOk a && eqOk b) = true ∧ k false (.bl (!T.eqv a b))
section
variable {X : Cx}
theorem o_eq (hu : X.A.units + 64 < cLine) : OpT X (compareOp .Eq) eqT := by
  refine ⟨_, op_eqD hu, fun F H x y tx ty G Q s rx ry ⟨ok, hg⟩ k => ?_⟩
  obtain ⟨h1, h2⟩ := Bool.and_eq_true_iff.mp ok
  obtain ⟨a1, a2⟩ := Bool.and_eq_true_iff.mp h1
  obtain ⟨b1, b2⟩ := Bool.and_eq_true_iff.mp h2
  exact ⟨_, _, rx.dp s a1, ry.dp s b1, a2, b2, k false _ _ F H hg (Grow.refl s) rfl⟩
theorem o_ne (hu : X.A.units + 64 < cLine) : OpT X (compareOp .NotEq) neT := by
  refine ⟨_, op_neD hu, fun F H x y tx ty G Q s rx ry ⟨ok, hg⟩ k => ?_⟩
  obtain ⟨h1, h2⟩ := Bool.and_eq_true_iff.mp ok
  obtain ⟨a1, a2⟩ := Bool.and_eq_true_iff.mp h1
  obtain ⟨b1, b2⟩ := Bool.and_eq_true_iff.mp h2
  exact ⟨_, _, rx.dp s a1, ry.dp s b1, a2, b2, k false _ _ F H hg (Grow.refl s) rfl⟩
end

/-! ### is, is not -/
def isT (neg : Bool) : G2 := fun a b k => match a, b with
  | .bl i, .bl j => k false (.bl (neg != decide (i = j)))
  | .non, .non => k false (.bl (!neg))
  | .int _, .non => k false (.bl neg)
  | .bl _, .non => k false (.bl neg)
  | .str _, .non => k false (.bl neg)
  | .tup _, .non => k false (.bl neg)
  | .lst _, .non => k false (.bl neg)
  | _, _ => False
def nonB : T → Bool
  | .int _ => true
  | .bl _ => true
  | .str _ => true
  | .tup _ => true
  | .lst _ => true
  | _ => false
theorem RdT.nonN {K : PySem.W.Frag} {F H : Hp} {v : V} {t : T} (s : Same F H) (h : RdT K F H v t) (ne : nonB t = true) : v ≠ .non := by
  cases t with
  | int i => rw [h.int]; intro z; cases z
  | bl i => rw [h.bl]; intro z; cases z
  | str i => rw [h.str]; intro z; cases z
  | tup i => obtain ⟨a, _, e, _⟩ := h.tup; rw [e]; intro z; cases z
  | lst i => obtain ⟨a, _, e, _⟩ := h.lst s; rw [e]; intro z; cases z
  | _ => cases ne
theorem isT_cases {neg : Bool} {a b : T} {k : Bool → T → Prop} (h : isT neg a b k) : (∃ i j, a = .bl i ∧ b = .bl j ∧ k false (.bl (neg != decide (i = j)))) ∨ (a = .non ∧ b = .non ∧ k false (.bl (!neg))) ∨ (nonB a = true ∧ b = .non ∧ k false (.bl neg)) := by
  cases a <;> cases b <;> first | exact (False.elim h) | exact .inl ⟨_, _, rfl, rfl, h⟩ | exact .inr (.inl ⟨rfl, rfl, h⟩) | exact .inr (.inr ⟨rfl, rfl, h⟩)
section
variable {X : Cx}
theorem o_is : OpT X (compareOp .Is) (isT false) := by
  refine ⟨_, (op_isN (X := X)).or op_is_bl, fun F H x y tx ty G Q s rx ry hg k => ?_⟩
  rcases isT_cases hg with ⟨i, j, rfl, rfl, g⟩ | ⟨rfl, rfl, g⟩ | ⟨ne, rfl, g⟩
  · rw [Bool.false_bne] at g
    exact .inr ⟨_, _, rx.bl, ry.bl, k false _ _ F H g (Grow.refl s) rfl⟩
  · refine .inl ⟨ry.non, ?_⟩
    rw [rx.non]
    exact k false _ _ F H g (Grow.refl s) rfl
  · refine .inl ⟨ry.non, ?_⟩
    rw [decide_eq_false (rx.nonN s ne)]
    exact k false _ _ F H g (Grow.refl s) rfl
theorem o_isnot : OpT X (compareOp .IsNot) (isT true) := by
  refine ⟨_, (op_notN (X := X)).or op_isnot_bl, fun F H x y tx ty G Q s rx ry hg k => ?_⟩
  rcases isT_cases hg with ⟨i, j, rfl, rfl, g⟩ | ⟨rfl, rfl, g⟩ | ⟨ne, rfl, g⟩
  · rw [Bool.true_bne] at g
    exact .inr ⟨_, _, rx.bl, ry.bl, k false _ _ F H g (Grow.refl s) rfl⟩
  · refine .inl ⟨ry.non, ?_⟩
    rw [rx.non]
    exact k false _ _ F H g (Grow.refl s) rfl
  · refine .inl ⟨ry.non, ?_⟩
    rw [decide_eq_false (rx.nonN s ne)]
    exact k false _ _ F H g (Grow.refl s) rfl
end

/-! ### in, not in -/
def kMem (k : Key) (ks : List Key) : Bool := ks.any fun k' => decide (k' = k)
theorem kMem_iff {k : Key} {ks : List Key} : kMem k ks = true ↔ k ∈ ks := by
  unfold kMem
  rw [List.any_eq_true]
  constructor
  · rintro ⟨x, h, e⟩
    rw [← of_decide_eq_true e]
    exact h
  · exact fun h => ⟨k, h, decide_eq_true rfl⟩
def keyT : T → Option Key
  | .int i => some (.inl i)
  | .str x => some (.inr x)
  | _ => none
def inT (neg : Bool) : G2 := fun a b k => match b with
  | .lst ts => (eqOk a && eqOk b) = true ∧ k false (.bl (neg != ts.any fun t => T.eqv t a))
  | .tup ts => (eqOk a && eqOk b) = true ∧ k false (.bl (neg != ts.any fun t => T.eqv t a))
  | .dct ks _ => match keyT a with
    | some key => k false (.bl (neg != kMem key ks))
    | none => False
  | .str z => match a with
    | .str ⟨c⟩ => match c.toList with
      | [n] => k false (.bl (neg != decide (n ∈ z.cps.toList)))
      | _ => False
    | _ => False
  | _ => False
theorem any_D (a : T) : ∀ ts : List T, (T.Ds ts).any (fun z => PyData.eqv z a.D) = ts.any fun t => T.eqv t a
  | [] => rfl
  | t :: ts => by
    show (PyData.eqv t.D a.D || (T.Ds ts).any _) = (T.eqv t a || ts.any _)
    rw [any_D a ts]
    rfl
section
variable {X : Cx}
def rInT (K : PySem.W.Frag) (neg : Bool) : R2 := fun x y H Q => ∃ d ds, Dp K H x d ∧ Dp K H y (.tuple ds) ∧ SeqAt.shaped d = true ∧ SeqAt.shaped (.tuple ds) = true ∧ Q (.bl (neg != ds.any fun z => PyData.eqv z d)) H
theorem op_inT (hu : X.A.units + 65 < cLine) : OpR X (compareOp .In) (rInT X.K false) := by
  intro pins s σ H x y v u Q I rx ry h
  obtain ⟨d, ds, hd, he, sd, se, q⟩ := h
  obtain ⟨as, r1⟩ := Dp.reads I d x v hd rx
  obtain ⟨bs, r2⟩ := Dp.reads I (.tuple ds) y u he ry
  rw [Bool.false_bne] at q
  exact SeqAt.in_tuple_reads r2 r1 (SeqAt.canLay_of_shaped se) (SeqAt.canLay_of_shaped sd) (PyProof.Rows.room_in_shaped sd hu) ⟨.bl _, H, I, rfl, q⟩
theorem op_notInT (hu : X.A.units + 65 < cLine) : OpR X (compareOp .NotIn) (rInT X.K true) := by
  intro pins s σ H x y v u Q I rx ry h
  obtain ⟨d, ds, hd, he, sd, se, q⟩ := h
  obtain ⟨as, r1⟩ := Dp.reads I d x v hd rx
  obtain ⟨bs, r2⟩ := Dp.reads I (.tuple ds) y u he ry
  rw [Bool.true_bne] at q
  exact SeqAt.notIn_tuple_reads r2 r1 (SeqAt.canLay_of_shaped se) (SeqAt.canLay_of_shaped sd) (PyProof.Rows.room_in_shaped sd hu) ⟨.bl _, H, I, rfl, q⟩
def rInDk (neg : Bool) : R2 := fun x y H Q => ∃ a kvs k, y = .ref a ∧ Rd H a (.dK kvs) ∧ x = kV k ∧ Q (.bl (neg != (valV kvs k).isSome)) H
theorem op_inDk (hu : X.A.units + 1 < cLine) : OpR X (compareOp .In) (rInDk false) := by
  intro pins s σ H x y v u Q I rx ry h
  obtain ⟨a, kvs, k, rfl, hr, rfl, q⟩ := h
  obtain rfl : u = Value.ref a := ry
  rw [Bool.false_bne] at q
  exact d_in hu I (.inl ⟨kvs, k, hr, rfl, rfl⟩) rx fun s3 I3 => ⟨.bl _, H, I3, rfl, q⟩
theorem op_notInDk (hu : X.A.units + 1 < cLine) : OpR X (compareOp .NotIn) (rInDk true) := by
  intro pins s σ H x y v u Q I rx ry h
  obtain ⟨a, kvs, k, rfl, hr, rfl, q⟩ := h
  obtain rfl : u = Value.ref a := ry
  rw [Bool.true_bne] at q
  exact d_notIn hu I (.inl ⟨kvs, k, hr, rfl, rfl⟩) rx fun s3 I3 => ⟨.bl _, H, I3, rfl, q⟩
theorem valV_mem {kvs : List (Key × V)} {k : Key} : (valV kvs k).isSome = kMem k (kvs.map (·.1)) := by
  rw [← valV_any, kMem, List.any_map]
  rfl
theorem keyT_rep {K : PySem.W.Frag} {F H : Hp} {v : V} {t : T} {k : Key} (h : RdT K F H v t) (e : keyT t = some k) : v = kV k := by
  cases t with
  | int i => cases e; exact h.int
  | str i => cases e; exact h.str
  | _ => cases e
theorem in_gen {f : Value → Value → Sem Value} (neg : Bool) {rL rS : R2} (hL : OpR X f rL) (iL : ∀ x y H Q d ds, Dp X.K H x d → Dp X.K H y (.list ds) → SeqAt.shaped d = true → SeqAt.shaped (.list ds) = true → Q (.bl (neg != ds.any fun z => PyData.eqv z d)) H → rL x y H Q) (hT : OpR X f (rInT X.K neg)) (hD : OpR X f (rInDk neg))
    (hS : OpR X f rS) (iS : ∀ (c : Nat) (z : Str) H (Q : VK), Q (.bl (neg != decide (c ∈ z.cps.toList))) H → rS (.str ⟨#[c]⟩) (.str z) H Q) : OpT X f (inT neg) := by
  refine ⟨_, hL.or (hT.or (hD.or hS)), fun F H x y tx ty G Q s rx ry hg k => ?_⟩
  unfold inT at hg
  split at hg
  · obtain ⟨ok, hg⟩ := hg
    obtain ⟨h1, h2⟩ := Bool.and_eq_true_iff.mp ok
    obtain ⟨a1, a2⟩ := Bool.and_eq_true_iff.mp h1
    obtain ⟨b1, b2⟩ := Bool.and_eq_true_iff.mp h2
    refine .inl (iL x y H Q _ _ (rx.dp s a1) (ry.dp s b1) a2 b2 ?_)
    rw [any_D]
    exact k false _ _ F H hg (Grow.refl s) rfl
  · obtain ⟨ok, hg⟩ := hg
    obtain ⟨h1, h2⟩ := Bool.and_eq_true_iff.mp ok
    obtain ⟨a1, a2⟩ := Bool.and_eq_true_iff.mp h1
    obtain ⟨b1, b2⟩ := Bool.and_eq_true_iff.mp h2
    refine .inr (.inl ⟨_, _, rx.dp s a1, ry.dp s b1, a2, b2, ?_⟩)
    rw [any_D]
    exact k false _ _ F H hg (Grow.refl s) rfl
  · split at hg
    · rename_i key ek
      obtain ⟨a, kvs, rfl, hr, z, hk, r⟩ := ry.dct s
      refine .inr (.inr (.inl ⟨a, kvs, key, rfl, hr, keyT_rep rx ek, ?_⟩))
      rw [valV_mem, hk]
      exact k false _ _ F H hg (Grow.refl s) rfl
    · exact hg.elim
  · split at hg
    · rename_i z _ c
      split at hg
      · rename_i n en
        have ec : c = #[n] := Array.ext' en
        subst ec
        rw [rx.str, ry.str]
        exact .inr (.inr (.inr (iS n z H Q (k false _ _ F H hg (Grow.refl s) rfl))))
      · exact hg.elim
    · exact hg.elim
  · exact hg.elim
theorem o_in (hu : X.A.units + 65 < cLine) : OpT X (compareOp .In) (inT false) :=
  in_gen false (op_inD hu) (fun x y H Q d ds h1 h2 h3 h4 q => ⟨d, ds, h1, h2, h3, h4, by rw [Bool.false_bne] at q; exact q⟩) (op_inT hu) (op_inDk (by omega)) op_in_sign (fun c z H Q q => ⟨c, z, rfl, rfl, by rw [Bool.false_bne] at q; exact q⟩)
theorem o_notin (hu : X.A.units + 65 < cLine) : OpT X (compareOp .NotIn) (inT true) :=
  in_gen true (op_notInD hu) (fun x y H Q d ds h1 h2 h3 h4 q => ⟨d, ds, h1, h2, h3, h4, by rw [Bool.true_bne] at q; exact q⟩) (op_notInT hu) (op_notInDk (by omega)) op_notIn_sign (fun c z H Q q => ⟨c, z, rfl, rfl, by rw [Bool.true_bne] at q; exact q⟩)
end
end TL

namespace TL
open PySem L2

/-! ### a[i] -/
def dGetT (ks : List Key) (ts : List T) (k : Key) : Option T := ((ks.zip ts).find? fun kv => decide (kv.1 = k)).map (·.2)
def dPutK (ks : List Key) (k : Key) : List Key := if kMem k ks = true then ks else ks ++ [k]
def dPutV (ks : List Key) (ts : List T) (k : Key) (v : T) : List T := if kMem k ks = true then List.zipWith (fun k' t => if k' = k then v else t) ks ts else ts ++ [v]
def ixT : T → T → (T → Prop) → Prop := fun a b k => match a, b with
  | .lst ts, .int i => ∃ t, atI ts i = some t ∧ k t
  | .tup ts, .int i => ∃ t, atI ts i = some t ∧ k t
  | .scr ns, .int i => ∃ n, atI ns i = some n ∧ k (.int n)
  | .str z, .int i => z.length ≤ sizeLine ∧ ∃ c, atI z.cps.toList i = some c ∧ k (.str ⟨#[c]⟩)
  | .dct ks ts, b => ∃ key t, keyT b = some key ∧ dGetT ks ts key = some t ∧ k t
  | _, _ => False
section
variable {K : PySem.W.Frag} {F H : Hp}
theorem Reps.at {ts : List T} {vs : List V} {i : Int} {t : T} (h : Reps K F ts vs) (e : atI ts i = some t) : ∃ v, atI vs i = some v ∧ Rep K F t v := by
  unfold atI at e ⊢
  rw [← h.len]
  cases q : ixN ts.length i with
  | none => rw [q] at e; cases e
  | some j =>
    rw [q] at e
    exact h.get (i := j) e
theorem atI_map {α β : Type} (f : α → β) (xs : List α) (i : Int) : atI (xs.map f) i = (atI xs i).map f := by
  unfold atI
  rw [List.length_map]
  cases ixN xs.length i with
  | none => rfl
  | some j => exact List.getElem?_map ..
theorem dGet_rep : ∀ {kvs : List (Key × V)} {ks : List Key} {ts : List T} {k : Key} {t : T}, kvs.map (·.1) = ks → Reps K F ts (kvs.map (·.2)) → dGetT ks ts k = some t → ∃ v, valV kvs k = some v ∧ Rep K F t v
  | [], _, _, _, _, rfl, h, e => by cases e
  | (k', v) :: r, _, [], _, _, rfl, h, e => by cases h
  | (k', v) :: r, _, t' :: ts, k, t, rfl, ⟨v', r', ev, h1, h2⟩, e => by
    cases ev
    by_cases hk : k' = k
    · have et : t' = t := by
        have : dGetT (k' :: r.map (·.1)) (t' :: ts) k = some t' := by simp [dGetT, hk]
        rw [List.map_cons] at e
        rw [this] at e
        exact Option.some.inj e
      subst et
      exact ⟨v, valV_pos (p := (k', v)) hk, h1⟩
    · have e2 : dGetT (r.map (·.1)) ts k = some t := by
        rw [List.map_cons] at e
        simpa [dGetT, List.zip_cons_cons, List.find?_cons, hk] using e
      obtain ⟨w, h3, h4⟩ := dGet_rep rfl h2 e2
      exact ⟨w, by rw [valV_neg (p := (k', v)) hk]; exact h3, h4⟩
theorem putK_ks (kvs : List (Key × V)) (k : Key) (v : V) : (putK kvs k v).map (·.1) = dPutK (kvs.map (·.1)) k := by
  unfold putK dPutK
  have e : (kvs.any fun kv => decide (kv.1 = k)) = kMem k (kvs.map (·.1)) := by rw [kMem, List.any_map]; rfl
  rw [e]
  by_cases h : kMem k (kvs.map (·.1)) = true
  · rw [if_pos h, if_pos h, List.map_map]
    apply List.map_congr_left
    intro a _
    simp only [Function.comp]
    split <;> rfl
  · rw [if_neg h, if_neg h, List.map_append]
    rfl
theorem putK_vs (k : Key) {t : T} {v : V} (ht : Rep K F t v) : ∀ {kvs : List (Key × V)} {ts : List T}, Reps K F ts (kvs.map (·.2)) → Reps K F (dPutV (kvs.map (·.1)) ts k t) ((putK kvs k v).map (·.2)) := by
  intro kvs ts h
  unfold putK dPutV
  have e : (kvs.any fun kv => decide (kv.1 = k)) = kMem k (kvs.map (·.1)) := by rw [kMem, List.any_map]; rfl
  rw [e]
  by_cases hm : kMem k (kvs.map (·.1)) = true
  · rw [if_pos hm, if_pos hm]
    clear hm e
    induction kvs generalizing ts with
    | nil => cases ts <;> first | exact rfl | (cases h)
    | cons p r ih =>
      cases ts with
      | nil => cases h
      | cons t' ts =>
        obtain ⟨v', r', ev, h1, h2⟩ := h
        cases ev
        simp only [List.map_cons, List.zipWith_cons_cons]
        refine ⟨_, _, rfl, ?_, ih h2⟩
        split
        · exact ht
        · exact h1
  · rw [if_neg hm, if_neg hm, List.map_append]
    exact Reps.append h ⟨v, [], rfl, ht, rfl⟩
end
section
variable {X : Cx} {B : Bs} {a b : Expr} {ta tb : TTE} {pos : Pos}
def rIxD : R2 := fun x y H Q => ∃ p kvs k v, x = .ref p ∧ Rd H p (.dK kvs) ∧ y = kV k ∧ valV kvs k = some v ∧ Q v H
theorem ix_dict (hu : X.A.units + 1 < cLine) : IxR X rIxD := by
  intro value slice pins s σ H x y v u Q I rx ry h hs
  obtain ⟨p, kvs, k, w, rfl, hr, rfl, hv, q⟩ := h
  cases rx
  have g : DGet H p (kV k) (some w) := .inl ⟨kvs, k, hr, rfl, hv.symm⟩
  exact PyProof.Rows.tail_any (dict_typeIs I g) PySem.F.slot_dict_getitem.lookup (d_getItem hu I g ry fun w' s3 I3 rw' => ⟨w, H, I3, rw', q⟩) hs
def ttIx (ta tb : TTE) : TTE := fun τ P => ta τ fun ra τ1 => tb τ1 fun rb τ2 => ixT (ra.t τ2) (rb.t τ2) fun t => P (.val false t) τ2
theorem tpe_ix (hu : X.A.units + 64 < cLine) (ha : TPE X B a ta) (hb : TPE X B b tb) (hs : PlainIx b) : TPE X B (.Subscript a b pos) (ttIx ta tb) := by
  refine ⟨PE.imp (pe_ix (ix_seq.or (ix_dict (by omega))) ha.pe hb.pe hs) fun σ H Q h => ?_⟩
  obtain ⟨F, τ, P, I, ht, hq⟩ := h
  refine lift.go I ht fun ra τ1 F1 H1 x h1 I1 s1 r1 f1 => ?_
  refine lift.go I1 h1 fun rb τ2 F2 H2 y h2 I2 s2 r2 f2 => ?_
  have rx := (r1.step s2).rd I2.wf
  have ry := r2.rd I2.wf
  have fin : ∀ t v, Rep X.K F2 t v → P (.val false t) τ2 → Q v H2 := fun t v r p => hq _ _ _ _ _ p I2 (s1.trans s2) r trivial
  generalize ra.t τ2 = tx at h2 rx
  generalize rb.t τ2 = ty at h2 ry
  have dcase : ∀ ks ts, tx = .dct ks ts → (∃ key t, keyT ty = some key ∧ dGetT ks ts key = some t ∧ P (.val false t) τ2) → rIxD x y H2 Q := fun ks ts e ⟨key, t, ek, eg, p⟩ => by
    subst e
    obtain ⟨a, kvs, rfl, hr, z, hk, r⟩ := rx.dct I2.wf.sub
    obtain ⟨v, hv, rp⟩ := dGet_rep hk r eg
    exact ⟨a, kvs, key, v, rfl, hr, keyT_rep ry ek, hv, fin t v rp p⟩
  cases tx with
  | lst ts =>
    cases ty with
    | int i =>
      obtain ⟨t, e, p⟩ := h2
      obtain ⟨a, vs, rfl, hl, z, r⟩ := rx.lst I2.wf.sub
      obtain ⟨v, ev, rp⟩ := r.at e
      exact .inl (.inl ⟨a, vs, i, v, rfl, ry.int, SqL.of hl, ev, fin t v rp p⟩)
    | _ => exact h2.elim
  | tup ts =>
    cases ty with
    | int i =>
      obtain ⟨t, e, p⟩ := h2
      obtain ⟨a, vs, rfl, hl, z, r⟩ := rx.tup
      obtain ⟨v, ev, rp⟩ := r.at e
      exact .inl (.inr (.inl ⟨a, vs, i, v, rfl, ry.int, SqT.mono I2.wf.sub hl, ev, fin t v rp p⟩))
    | _ => exact h2.elim
  | scr ns =>
    cases ty with
    | int i =>
      obtain ⟨n, e, p⟩ := h2
      obtain ⟨a, rfl, hl, z⟩ := rx.scr
      exact .inl (.inl ⟨a, _, i, .int n, rfl, ry.int, I2.wf.sub.seq hl, by rw [atI_map, e]; rfl, fin (.int n) (.int n) rfl p⟩)
    | _ => exact h2.elim
  | str z =>
    cases ty with
    | int i =>
      obtain ⟨hl, c, e, p⟩ := h2
      exact .inl (.inr (.inr ⟨z, i, c, rx.str, ry.int, hl, e, fin (.str ⟨#[c]⟩) _ rfl p⟩))
    | _ => exact h2.elim
  | dct ks ts => exact .inr (dcase ks ts rfl h2)
  | _ => exact h2.elim

/-! ### a[i:j] -/
def cutT (xs : List T) (lo hi : Option Int) : List T := (xs.drop (HT.sIx xs.length 0 lo)).take (HT.sIx xs.length xs.length hi - HT.sIx xs.length 0 lo)
def slT' (t : T) (lo hi : Option Int) (k : Bool → T → Prop) : Prop := match t with
  | .lst ts => k true (.lst (cutT ts lo hi))
  | .tup ts => k false (.tup (cutT ts lo hi))
  | .scr ns => k true (.lst (cutT (ns.map T.int) lo hi))
  | .str z => z.length ≤ sizeLine ∧ k false (.str (cutS z lo hi))
  | _ => False
abbrev TTO := TSt → (Option Int → TSt → Prop) → Prop
def liftO (K : PySem.W.Frag) (B : Bs) (t : TTO) : TO := fun σ H Q => ∃ F τ P, Inn K B F H σ τ ∧ t τ P ∧ ∀ o τ' F' H', P o τ' → Inn K B F' H' σ τ' → Stp F H σ τ F' H' τ' → Q o H'
structure TPO (X : Cx) (B : Bs) (o : Option Expr) (t : TTO) : Prop where
  po : PO X o (liftO X.K B t)
def toN : TTO := fun τ P => P none τ
def toS (te : TTE) : TTO := fun τ P => te τ fun r τ1 => match r.t τ1 with
  | .int i => P (some i) τ1
  | _ => False
theorem tpo_n : TPO X B none toN := ⟨⟨fun pins s σ H Q I h => by
  obtain ⟨F, τ, P, I', h, q⟩ := h
  exact po_none.run pins s σ H Q I (q none τ F H h I' Stp.refl)⟩⟩
theorem tpo_s {e : Expr} {te : TTE} (h : TPE X B e te) : TPO X B (some e) (toS te) := ⟨⟨fun pins s σ H Q I q => (po_some h.pe).run pins s σ H Q I (by
  obtain ⟨F, τ, P, I', ht, hq⟩ := q
  refine lift.go I' ht fun r τ1 F1 H1 v h1 I1 s1 r1 f1 => ?_
  have rd := r1.rd I1.wf
  generalize r.t τ1 = t at h1 rd
  cases t with
  | int i => exact ⟨i, rd.int, hq (some i) τ1 F1 H1 h1 I1 s1⟩
  | _ => exact h1.elim)⟩⟩
theorem cutT_rep {K : PySem.W.Frag} {F : Hp} {ts : List T} {vs : List V} (h : Reps K F ts vs) (lo hi : Option Int) : Reps K F (cutT ts lo hi) (cutV vs lo hi) := by
  unfold cutT cutV
  rw [h.len]
  exact Reps.take _ (Reps.drop _ h)
def ttSl (te : TTE) (tl th : TTO) : TTE := fun τ P => te τ fun r τ1 => tl τ1 fun lo τ2 => th τ2 fun hi τ3 => slT' (r.t τ3) lo hi fun k t => P (.val k t) τ3
theorem tpe_sl {lo hi : Option Expr} {te : TTE} {tl th : TTO} {e : Expr} {p2 : Pos} (he : TPE X B e te) (hl : TPO X B lo tl) (hu : TPO X B hi th) : TPE X B (.Subscript e (.Slice lo hi none p2) pos) (ttSl te tl th) := by
  refine ⟨PE.imp (pe_slice ((sl_list (X := X)).or (sl_tupA.or sl_str)) he.pe hl.po hu.po) fun σ H Q h => ?_⟩
  obtain ⟨F, τ, P, I, ht, hq⟩ := h
  refine lift.go I ht fun r τ1 F1 H1 x h1 I1 s1 r1 f1 => ?_
  refine ⟨F1, τ1, _, I1, h1, fun lo' τ2 F2 H2 h2 I2 s2 => ?_⟩
  refine ⟨F2, τ2, _, I2, h2, fun hi' τ3 F3 H3 h3 I3 s3 => ?_⟩
  have rx := (r1.step (s2.trans s3)).rd I3.wf
  have st := (s1.trans s2).trans s3
  have fin : ∀ k t v F' H', P (.val k t) τ3 → Grow F3 H3 F' H' → RG X.K H3 F' H' v k t → Q v H' := fun k t v F' H' p g rg => by
    obtain ⟨rr, fr⟩ := RG.rr I3.wf g rg
    exact hq _ _ _ _ _ p (I3.step (g.wf I3.wf) g.step) (st.trans g.step) rr (Fresh.step st fr)
  have sub := I3.wf.sub
  generalize r.t τ3 = tx at h3 rx
  cases tx with
  | lst ts =>
    obtain ⟨a, vs, rfl, hl, z, rp⟩ := rx.lst sub
    exact .inl ⟨a, vs, rfl, SqL.of hl, fun p np => fin true _ _ _ _ h3 (Grow.own sub np) ⟨p, rfl, np, sub.free np, _, upd_same, Nat.le_trans (cutV_length ..) z, cutT_rep rp _ _⟩⟩
  | scr ns =>
    obtain ⟨a, rfl, hl, z⟩ := rx.scr
    have rp : Reps X.K F3 (ns.map T.int) (ns.map V.int) := Reps.ints.mpr rfl
    exact .inl ⟨a, _, rfl, sub.seq hl, fun p np => fin true _ _ _ _ h3 (Grow.own sub np) ⟨p, rfl, np, sub.free np, _, upd_same, Nat.le_trans (cutV_length ..) (by rw [List.length_map]; exact z), cutT_rep rp _ _⟩⟩
  | tup ts =>
    obtain ⟨a, vs, rfl, hl, z, rp⟩ := rx.tup
    have e1 : ∀ (xs : List V), HT.sIx xs.length 0 lo' = 0 ∧ HT.sIx xs.length xs.length hi' = xs.length → cutV xs lo' hi' = xs := fun xs ⟨e1, e2⟩ => by
      unfold cutV
      rw [e1, e2, List.drop_zero, Nat.sub_zero, List.take_length]
    refine .inr (.inl ⟨a, vs, rfl, SqT.mono sub hl, fun e => ?_, fun _ p np => ?_⟩)
    · refine fin false _ _ _ _ h3 (Grow.refl sub) ⟨a, vs, rfl, hl, z, ?_⟩
      have := cutT_rep rp lo' hi'
      rw [e1 vs e] at this
      exact this
    · exact fin false _ _ _ _ h3 (Grow.frz sub np) ⟨p, _, rfl, .inl (.inl upd_same), Nat.le_trans (cutV_length ..) z, Reps.mono (same_upd (sub.free np)) _ _ (cutT_rep rp _ _)⟩
  | str z =>
    exact .inr (.inr ⟨z, rx.str, h3.1, fin false _ _ _ _ h3.2 (Grow.refl sub) rfl⟩)
  | _ => exact h3.elim
end

/-! ### objects that change -/
section
variable {K : PySem.W.Frag} {B : Bs} {F H : Hp} {σ : St} {τ : TSt}
theorem mut_ok {i : Nat} {k : Kd} {t t' : T} {a : Addr} {o : HO} (I : Inn K B F H σ τ) (hs : τ[i]? = some (some ⟨k, false, t⟩)) (hk : k ≠ .frz) (hv : σ[i]? = some (some (.ref a))) (new : OwnAt K F (upd H a o) a t') :
    Inn K B F (upd H a o) σ (τ.set i (some ⟨k, false, t'⟩)) ∧ Stp F H σ τ F (upd H a o) (τ.set i (some ⟨k, false, t'⟩)) := by
  have oi : Owns σ τ i k a := ⟨false, t, hs, hk, hv⟩
  have nF : F a = none := by
    obtain ⟨a', e, n, _⟩ := I.wf.own i k false t hs hk
    rw [hv] at e
    cases e
    exact n
  have hl : i < τ.length := (List.getElem?_eq_some_iff.mp hs).1
  have own' : ∀ (j : Nat) (m : Kd) (b : Addr), Owns σ (τ.set i (some ⟨k, false, t'⟩)) j m b → Owns σ τ j m b := fun j m b ⟨l, u, h1, h2, h3⟩ => by
    rcases set_get h1 with ⟨hj, z, _⟩ | ⟨_, z⟩
    · cases z; subst hj; exact ⟨false, t, hs, h2, h3⟩
    · exact ⟨l, u, z, h2, h3⟩
  have w : WF K F (upd H a o) σ (τ.set i (some ⟨k, false, t'⟩)) := by
    refine ⟨fun b u e => ?_, by rw [List.length_set]; exact I.wf.len, fun j l u h => ?_, fun j m l u h hm => ?_, fun i j k l a h1 h2 => I.wf.sep i j k l a (own' _ _ _ h1) (own' _ _ _ h2)⟩
    · have hb : b ≠ a := fun z => by subst z; rw [nF] at e; cases e
      rw [upd_ne hb]
      exact I.wf.sub b u e
    · rcases set_get h with ⟨_, z, _⟩ | ⟨_, z⟩
      · cases z; exact absurd rfl hk
      · exact I.wf.frz j l u z
    · rcases set_get h with ⟨hj, z, _⟩ | ⟨hj, z⟩
      · cases z; subst hj
        exact ⟨a, hv, nF, new⟩
      · obtain ⟨b, e, n, q⟩ := I.wf.own j m l u z hm
        have hb : b ≠ a := fun y => by
          subst y
          exact hj (I.wf.sep j i m k b ⟨l, u, z, hm, e⟩ oi)
        exact ⟨b, e, n, q.mono (fun _ _ h => h) (upd_ne hb)⟩
  have s : Stp F H σ τ F (upd H a o) (τ.set i (some ⟨k, false, t'⟩)) := by
    refine ⟨fun _ _ h => h, fun _ h => .inl h, fun b u e n => ?_, fun b h => ?_, own', fun j s h => ?_, fun j m u h => ?_⟩
    · have hb : b ≠ a := fun z => by subst z; exact n i k oi
      rw [upd_ne hb]
      exact e
    · by_cases hb : b = a
      · subst hb; rw [upd_same]; simp
      · rw [upd_ne hb]; exact h
    · by_cases hj : j = i
      · subst hj; exact ⟨_, List.getElem?_set_self hl⟩
      · exact ⟨s, by rw [List.getElem?_set_ne (Ne.symm hj)]; exact h⟩
    · have hj : j ≠ i := fun z => by subst z; rw [hs] at h; cases h
      rw [List.getElem?_set_ne (Ne.symm hj)]
      exact h
  exact ⟨I.step w s, s⟩
end
/-- the slot i's own object goes from t to t' -/
def chg (τ : TSt) (i : Nat) (f : T → (T → TSt → Prop) → Prop) (P : T → TSt → Prop) : Prop := match τ[i]? with
  | some (some ⟨.own, false, t⟩) => f t fun t' τ' => True ∧ P t' τ'
  | some (some ⟨.arg j, false, t⟩) => f t fun t' τ' => True ∧ P t' τ'
  | _ => False
/-- what a changing method does: the object, the arguments, then the new object and the answer -/
abbrev MG := T → List T → (T → T → Prop) → Prop
def mutS (τ : TSt) (i : Nat) (ts : List T) (g : MG) (P : R → TSt → Prop) : Prop := match τ[i]? with
  | some (some ⟨.own, false, t⟩) => g t ts fun t' u => P (.val false u) (τ.set i (some ⟨.own, false, t'⟩))
  | some (some ⟨.arg j, false, t⟩) => g t ts fun t' u => P (.val false u) (τ.set i (some ⟨.arg j, false, t'⟩))
  | _ => False
theorem mutS.inv {τ : TSt} {i : Nat} {ts : List T} {g : MG} {P : R → TSt → Prop} (h : mutS τ i ts g P) : ∃ k t, τ[i]? = some (some ⟨k, false, t⟩) ∧ k ≠ .frz ∧ g t ts fun t' u => P (.val false u) (τ.set i (some ⟨k, false, t'⟩)) := by
  unfold mutS at h
  split at h
  · rename_i t e
    exact ⟨.own, t, e, by simp, h⟩
  · rename_i j t e
    exact ⟨.arg j, t, e, by simp, h⟩
  · exact h.elim
/-- a method of a name's own object; the object's type is asked ahead of the arguments -/
def ttMut (isL : Bool) (i : Nat) (tl : TTL) (g : MG) : TTE := fun τ P => (match slT τ i with
  | .lst _ => isL = true
  | .dct _ _ => isL = false
  | _ => False) ∧ (∃ s, τ[i]? = some (some s)) ∧ tl τ fun ts τ1 => mutS τ1 i ts g P
/-- the rule of a list's method -/
def MutR (X : Cx) (id : String) (g : MG) : Prop := ∃ r : V → List V → Hp → VK → Prop, MtR X id r ∧ ∀ (F H : Hp) (a : Addr) (vs : List V) (t : T) (ts : List T) (G : T → T → Prop) (Q : VK), Same F H → OwnAt X.K F H a t → Reps X.K F ts vs → g t ts G →
  (∀ t' u o v, G t' u → OwnAt X.K F (upd H a o) a t' → Rep X.K F u v → Q v (upd H a o)) → r (.ref a) vs H Q
section
variable {X : Cx} {B : Bs} {es : List Expr} {e : Expr} {tl : TTL} {i : Nat} {g : MG} {name : Str} {apos cpos : Pos} {id : String} {x : Str} {pos : Pos}
theorem mut_fin {F H : Hp} {σ : St} {τ : TSt} {P : R → TSt → Prop} {Q : VK} {r : V → List V → Hp → VK → Prop} {vs : List V} {v : V} {ts : List T} {F0 H0 : Hp} {τ0 : TSt}
    (hg : ∀ (F H : Hp) (a : Addr) (vs : List V) (t : T) (ts : List T) (G : T → T → Prop) (Q : VK), Same F H → OwnAt X.K F H a t → Reps X.K F ts vs → g t ts G → (∀ t' u o v, G t' u → OwnAt X.K F (upd H a o) a t' → Rep X.K F u v → Q v (upd H a o)) → r (.ref a) vs H Q)
    (I : Inn X.K B F H σ τ) (hv : σ[i]? = some (some v)) (rs : Reps X.K F ts vs) (h : mutS τ i ts g P) (s : Stp F0 H0 σ τ0 F H τ)
    (hq : ∀ r τ' F' H' v, P r τ' → Inn X.K B F' H' σ τ' → Stp F0 H0 σ τ0 F' H' τ' → RR X.K F' H' σ τ' v r → Fresh H0 v r → Q v H') : r v vs H Q := by
  obtain ⟨k, t, hs, hk, h⟩ := h.inv
  obtain ⟨a, ea, n, o⟩ := I.wf.own i k false t hs hk
  rw [hv] at ea
  cases ea
  refine hg F H a vs t ts _ Q I.wf.sub o rs h fun t' u ob w p new rep => ?_
  obtain ⟨I2, s2⟩ := mut_ok I hs hk hv new
  exact hq _ _ _ _ _ p I2 (s.trans s2) rep trivial
theorem tpe_mutL (hm : MutR X id g) (slot : Slot "list" name id) (hty : typeOf (.builtin id) = pure (.type "method_descriptor")) (hN : X.N[i]? = some x) (hv : Vis X.env.scope x) (ha : TPL X B (e :: es) tl)
    (hd : (x == ("__debug__" : Str)) = false := by decide) (hcd : (x == ("__classdict__" : Str)) = false := by decide)
    (hbase : attributeBase (.Name x pos) name X.env (eval (.Name x pos) X.env) = eval (.Name x pos) X.env := by rfl)
    (hfew : ((backTo cpos (starEach (e :: es) X.env)).all (fun x => !x.1) && (backToKw cpos (keywordEach [] X.env)).all (fun x => x.1.isSome)
      && decide ((e :: es).length + ([] : List Keyword).length + (if ([] : List Keyword).isEmpty then 0 else 1) < 30)) = true := by rfl)
    (hline : (apos.endLine == cpos.line) = true := by rfl) (hs : starEach (e :: es) X.env = (false, eval e X.env) :: starEach es X.env := by rfl) (hplain : (backTo cpos (starEach es X.env)).any (·.1) = false := by rfl) :
    TPE X B (.Call (.Attribute (.Name x pos) name apos) (e :: es) [] cpos) (ttMut true i tl g) := by
  obtain ⟨r, hr, hg⟩ := hm
  refine ⟨PE.imp (pe_bm PySem.F.plainAttrs_list slot hty hr (tpe_v (B := B) i hN hv hd hcd).pe ha.pa hbase hfew hline hs hplain) fun σ H Q h => ?_⟩
  obtain ⟨F, τ, P, I, ⟨hty', ⟨s, hs⟩, ht⟩, hq⟩ := h
  refine lift.go I (P := fun r τ1 => r = .var i ∧ τ1 = τ) ⟨⟨s, hs⟩, rfl, rfl⟩ fun r τ1 F1 H1 v ⟨er, et⟩ I1 s1 r1 f1 => ?_
  subst er et
  have rd := r1.rd I1.wf
  have es : R.t τ1 (.var i) = slT τ1 i := rfl
  rw [es] at rd
  refine ⟨?_, F1, τ1, _, I1, ht, fun ts τ2 F2 H2 vs h2 I2 s2 r2 => ?_⟩
  · cases e : slT τ1 i with
    | lst ts =>
      rw [e] at rd
      obtain ⟨a, vs, rfl, hl, _⟩ := rd.lst I1.wf.sub
      exact .inl ⟨rfl, vs, SqL.of hl⟩
    | dct ks ts => rw [e] at hty'; cases hty'
    | _ => rw [e] at hty'; exact hty'.elim
  · exact mut_fin (B := B) hg I2 r1.1 r2 h2 (s1.trans s2) hq
def appendG : MG := fun t ts k => match t, ts with
  | .lst us, [x] => us.length < sizeLine ∧ k (.lst (us ++ [x])) .non
  | _, _ => False
theorem m_append : MutR X "list.append" appendG := by
  refine ⟨rAppend, mt_append, fun F H a vs t ts G Q s o r hg k => ?_⟩
  unfold appendG at hg
  split at hg
  · obtain ⟨us, hl, z, ru⟩ := o
    obtain ⟨v, vr, rfl, h1, h2⟩ := r
    cases h2
    refine ⟨a, us, v, rfl, rfl, hl, by rw [← ru.len]; exact hg.1, k _ _ _ _ hg.2 ⟨_, upd_same, ?_, Reps.append ru ⟨v, [], rfl, h1, rfl⟩⟩ rfl⟩
    have := ru.len
    rw [List.length_append, List.length_singleton]
    omega
  · exact hg.elim
def extendG : MG := fun t ts k => match t, ts with
  | .lst us, [.lst xs] => us.length + xs.length ≤ sizeLine ∧ k (.lst (us ++ xs)) .non
  | _, _ => False
theorem m_extend : MutR X "list.extend" extendG := by
  refine ⟨rExtend, mt_extend, fun F H a vs t ts G Q s o r hg k => ?_⟩
  unfold extendG at hg
  split at hg
  · obtain ⟨us, hl, z, ru⟩ := o
    obtain ⟨v, vr, rfl, ⟨b, ws, rfl, hb, z2, rw'⟩, h2⟩ := r
    cases h2
    have e : us.length + ws.length ≤ sizeLine := by rw [← ru.len, ← rw'.len]; exact hg.1
    exact ⟨a, b, us, ws, rfl, rfl, hl, s _ _ hb, e, k _ _ _ _ hg.2 ⟨_, upd_same, by rw [List.length_append]; exact e, Reps.append ru rw'⟩ rfl⟩
  · exact hg.elim
def insertG : MG := fun t ts k => match t, ts with
  | .lst us, [.int i, x] => (us.length < sizeLine ∧ 0 ≤ i ∧ i < 2 ^ 63) ∧ k (.lst (us.take i.toNat ++ [x] ++ us.drop i.toNat)) .non
  | _, _ => False
theorem m_insert : MutR X "list.insert" insertG := by
  refine ⟨_, mt_insert, fun F H a vs t ts G Q s o r hg k => ?_⟩
  unfold insertG at hg
  split at hg
  · obtain ⟨us, hl, z, ru⟩ := o
    obtain ⟨v, vr, rfl, h1, v2, vr2, rfl, h2, h3⟩ := r
    cases h3
    cases h1
    obtain ⟨⟨e1, e2, e3⟩, hg⟩ := hg
    refine ⟨a, us, _, v2, rfl, rfl, hl, by rw [← ru.len]; exact e1, e2, e3, k _ _ _ _ hg ⟨_, upd_same, ?_, Reps.append (Reps.append (Reps.take _ ru) ⟨v2, [], rfl, h2, rfl⟩) (Reps.drop _ ru)⟩ rfl⟩
    have := ru.len
    rw [List.length_append, List.length_append, List.length_singleton, List.length_take, List.length_drop]
    omega
  · exact hg.elim
end
end TL

namespace TL
open PySem L2

/-! ### x[i] = e -/
def setG (c i v : T) (P : T → Prop) : Prop := match c, i with
  | .lst ts, .int k => ∃ j, ixN ts.length k = some j ∧ P (.lst (ts.set j v))
  | .dct ks ts, i => ∃ key, keyT i = some key ∧ ks.length < sizeLine ∧ P (.dct (dPutK ks key) (dPutV ks ts key v))
  | _, _ => False
def stIx (τ : TSt) (i : Nat) (k v : T) (P : TSt → Prop) : Prop := match τ[i]? with
  | some (some ⟨.own, false, c⟩) => setG c k v fun c' => P (τ.set i (some ⟨.own, false, c'⟩))
  | some (some ⟨.arg j, false, c⟩) => setG c k v fun c' => P (τ.set i (some ⟨.arg j, false, c'⟩))
  | _ => False
theorem stIx.inv {τ : TSt} {i : Nat} {k v : T} {P : TSt → Prop} (h : stIx τ i k v P) : ∃ m c, τ[i]? = some (some ⟨m, false, c⟩) ∧ m ≠ .frz ∧ setG c k v fun c' => P (τ.set i (some ⟨m, false, c'⟩)) := by
  unfold stIx at h
  split at h
  · rename_i t e
    exact ⟨.own, t, e, by simp, h⟩
  · rename_i j t e
    exact ⟨.arg j, t, e, by simp, h⟩
  · exact h.elim
def ttSetIx (i : Nat) (te ti : TTE) : TTS := fun D τ => te τ fun r τ1 => frzR r τ1 fun t τ2 => (∃ s, τ2[i]? = some (some s)) ∧ ti τ2 fun ri τ3 => stIx τ3 i (ri.t τ3) t D.nx
section
variable {X : Cx} {B : Bs}
theorem PSet.or {t u : TSet} (h : PSet X t) (h' : PSet X u) : PSet X (fun o i v H Q => t o i v H Q ∨ u o i v H Q) := fun pins s σ H o i v ov iv w Q I ro ri rv q => q.elim (h pins s σ H o i v ov iv w Q I ro ri rv) (h' pins s σ H o i v ov iv w Q I ro ri rv)
theorem tps_setIx {i : Nat} {x : Str} {e k : Expr} {te ti : TTE} {p0 p1 pos : Pos} (hu : X.A.units + 64 < cLine) (hN : X.N[i]? = some x) (hv : Vis X.env.scope x) (he : TPE X B e te) (hi : TPE X B k ti)
    (hd : (x == ("__debug__" : Str)) = false := by decide) (hcd : (x == ("__classdict__" : Str)) = false := by decide)
    (ha : ∀ v, assign (.Subscript (.Name x p0) k p1) X.env v = (do
      let ov ← holding [v] (eval (.Name x p0) X.env)
      let iv ← holding [v, ov] (eval k X.env)
      standAt p1
      holding [v, ov, iv] (setItem ov iv v)
      release [v, ov, iv] []) := by intro _; rfl)
    (hs : swapsWithSole [.Subscript (.Name x p0) k p1] e pos.line X.env = pure false := by rfl) (hw : swappedStores [.Subscript (.Name x p0) k p1] e X.env = pure none := by rfl)
    (h1 : (assignEach [.Subscript (.Name x p0) k p1] X.env).map (·.2) = [assign (.Subscript (.Name x p0) k p1) X.env] := by rfl) : TPS X B (.Assign [.Subscript (.Name x p0) k p1] e pos) (ttSetIx i te ti) := by
  refine ⟨PS.imp (ps_asg he.pe (pg_sub (tpe_v (B := B) i (pos := p0) hN hv hd hcd).pe hi.pe (PSet.or set_list (set_dict (by omega))) ha) hs hw h1) fun D σ H h => ?_⟩
  obtain ⟨F, τ, TD, I, h, ok⟩ := h
  refine lift.go I h fun r τ1 F1 H1 v h1 I1 s1 r1 f1 => ?_
  obtain ⟨t, τ2, F2, ⟨⟨s, hs⟩, h2⟩, I2, s2, rep, _⟩ := freeze I I1 s1 r1 f1 h1
  refine lift.go I2 (P := fun r τ3 => r = .var i ∧ τ3 = τ2) ⟨⟨s, hs⟩, rfl, rfl⟩ fun r τ3 F3 H3 o ⟨er, et⟩ I3 s3 r3 f3 => ?_
  subst er et
  refine lift.go I3 h2 fun ri τ4 F4 H4 k h4 I4 s4 r4 f4 => ?_
  obtain ⟨m, c, hc, hm, h5⟩ := h4.inv
  have rk := r4.rd I4.wf
  obtain ⟨a, ea, n, ow⟩ := I4.wf.own i m false c hc hm
  have eo : o = .ref a := by
    have := r3.1
    rw [ea] at this
    cases this
    rfl
  subst eo
  have rv : Rep X.K F4 t v := Rep.mono (s3.sub.trans s4.sub) _ _ rep
  have fin : ∀ c' ob, OwnAt X.K F4 (upd H4 a ob) a c' → TD.nx (τ4.set i (some ⟨m, false, c'⟩)) → D.nx σ (upd H4 a ob) := fun c' ob new q => by
    obtain ⟨I5, s5⟩ := mut_ok I4 hc hm ea new
    exact ok.nx _ _ _ _ I5 (((s2.trans s3).trans s4).trans s5).ss q
  generalize ri.t τ4 = ti' at h5 rk
  cases c with
  | lst ts =>
    cases ti' with
    | int j =>
      obtain ⟨j', e, q⟩ := h5
      obtain ⟨vs, hl, z, rp⟩ := ow
      refine .inl ⟨a, vs, j, j', rfl, rk.int, hl, by rw [← rp.len]; exact e, fin (.lst (ts.set j' t)) _ ⟨_, upd_same, by rw [List.length_set]; exact z, Reps.set j' rv rp⟩ q⟩
    | _ => exact h5.elim
  | dct ks ts =>
    obtain ⟨key, ek, hl, q⟩ := h5
    obtain ⟨kvs, hd, z, hk, rp⟩ := ow
    subst hk
    have hl' : kvs.length < sizeLine := by simpa using hl
    have ez : (putK kvs key v).length ≤ sizeLine := by
      unfold putK
      split
      · rw [List.length_map]; exact z
      · rw [List.length_append]; exact hl'
    exact .inr ⟨a, upd H4 a (.dK (putK kvs key v)), rfl, .inl ⟨kvs, key, hd, keyT_rep rk ek, hl', rfl⟩, fin (.dct (dPutK (kvs.map (·.1)) key) (dPutV (kvs.map (·.1)) ts key t)) _ ⟨_, upd_same, ez, putK_ks kvs key v, putK_vs key rv rp⟩ q⟩
  | _ => exact h5.elim

/-! ### {} -/
def ttDict0 : TTE := fun τ P => P (.val true (.dct [] [])) τ
theorem tpe_dict0 {pos : Pos} : TPE X B (.Dict [] [] pos) ttDict0 := by
  refine ⟨PE.imp pe_dnewK fun σ H Q h => ?_⟩
  obtain ⟨F, τ, P, I, h, q⟩ := h
  intro d hd
  have g : Grow F H F (upd H d (.dK [])) := Grow.own I.wf.sub hd
  obtain ⟨rr, fr⟩ := RG.rr (v := .ref d) (k := true) (t := .dct [] []) I.wf g ⟨d, rfl, hd, I.wf.sub.free hd, [], upd_same, Nat.zero_le _, rfl, rfl⟩
  exact q _ _ _ _ _ h (I.step (g.wf I.wf) g.step) g.step rr fr

/-! ### built-ins of one argument -/
abbrev C1 := T → (Bool → T → Prop) → Prop
def CalT1 (X : Cx) (f : Value) (g : C1) : Prop := ∃ r : List V → Hp → VK → Prop, CallR X f r ∧ ∀ (F H : Hp) (x : V) (t : T) (G : Bool → T → Prop) (Q : VK), Same F H → RdT X.K F H x t → g t G →
  (∀ k t v F' H', G k t → Grow F H F' H' → RG X.K H F' H' v k t → Q v H') → r [x] H Q
def ttC1 (g : C1) (te : TTE) : TTE := fun τ P => te τ fun r τ1 => g (r.t τ1) fun k t => P (.val k t) τ1
variable {x : Str} {p pos : Pos} {e : Expr} {te : TTE} {id T' : String} {g : C1}
theorem c1_imp {r : List V → Hp → VK → Prop} (hg : ∀ (F H : Hp) (x : V) (t : T) (G : Bool → T → Prop) (Q : VK), Same F H → RdT X.K F H x t → g t G → (∀ k t v F' H', G k t → Grow F H F' H' → RG X.K H F' H' v k t → Q v H') → r [x] H Q)
    (σ : St) (H : Hp) (Q : VK) (h : lift X.K B (ttC1 g te) σ H Q) : tCB r (tCons (lift X.K B te) tNil) σ H Q := by
  obtain ⟨F, τ, P, I, ht, hq⟩ := h
  refine lift.go I ht fun ra τ1 F1 H1 x h1 I1 s1 r1 f1 => ?_
  refine hg F1 H1 x _ _ Q I1.wf.sub (r1.rd I1.wf) h1 fun k t v F' H' gk gr rg => ?_
  obtain ⟨rr, fr⟩ := RG.rr I1.wf gr rg
  exact hq _ _ _ _ _ gk (I1.step (gr.wf I1.wf) gr.step) (s1.trans gr.step) rr (Fresh.step s1 fr)
theorem tpe_c1 (hc : CalT1 X (.builtin id) g) (hg : Gl X x) (hm : X.mg x = none) (hv : bootBuiltins x = some (.builtin id)) (he : TPE X B e te) (hs : starEach [e] X.env = (false, eval e X.env) :: starEach [] X.env := by rfl) (hn : x ≠ "__name__" := by decide) (hdb : (x == ("__debug__" : Str)) = false := by decide) :
    TPE X B (.Call (.Name x p) [e] [] pos) (ttC1 g te) := by
  obtain ⟨r, hr, hg'⟩ := hc
  exact ⟨PE.imp (pe_callB hr hg hm hv (pa_cons he.pe pa_nil hs) hn hdb hs (by rfl)) (c1_imp hg')⟩
theorem tpe_ct1 (hc : CalT1 X (.type T') g) (hg : Gl X x) (hm : X.mg x = none) (hv : bootBuiltins x = some (.type T')) (he : TPE X B e te) (hs : starEach [e] X.env = (false, eval e X.env) :: starEach [] X.env := by rfl) (hn : x ≠ "__name__" := by decide) (hdb : (x == ("__debug__" : Str)) = false := by decide) :
    TPE X B (.Call (.Name x p) [e] [] pos) (ttC1 g te) := by
  obtain ⟨r, hr, hg'⟩ := hc
  exact ⟨PE.imp (pe_callTy hr hg hm hv (pa_cons he.pe pa_nil hs) hn hdb hs (by rfl)) (c1_imp hg')⟩
def lenT : C1 := fun t k => match t with
  | .lst ts => k false (.int ts.length)
  | .tup ts => k false (.int ts.length)
  | .scr ns => k false (.int ns.length)
  | .str z => z.length ≤ sizeLine ∧ k false (.int z.length)
  | _ => False
theorem c_len : CalT1 X (.builtin "len") lenT := by
  refine ⟨_, call_len, fun F H x t G Q s r hg k => ?_⟩
  have fin : ∀ n : Nat, G false (.int n) → Q (.int n) H := fun n h => k false _ _ F H h (Grow.refl s) rfl
  cases t with
  | lst ts =>
    obtain ⟨a, vs, rfl, hl, z, rp⟩ := r.lst s
    exact ⟨_, vs.length, rfl, .inl ⟨vs, SqL.of hl, rfl⟩, fin _ (by rw [← rp.len]; exact hg)⟩
  | tup ts =>
    obtain ⟨a, vs, rfl, hl, z, rp⟩ := r.tup
    exact ⟨_, vs.length, rfl, .inr ⟨vs, SqT.mono s hl, rfl⟩, fin _ (by rw [← rp.len]; exact hg)⟩
  | scr ns =>
    obtain ⟨a, rfl, hl, z⟩ := r.scr
    exact ⟨_, ns.length, rfl, .inl ⟨_, s.seq hl, by rw [List.length_map]⟩, fin _ hg⟩
  | str z =>
    rw [r.str]
    exact ⟨_, z.length, rfl, ⟨hg.1, rfl⟩, fin _ hg.2⟩
  | _ => exact hg.elim
def listT : C1 := fun t k => match t with
  | .lst ts => k true (.lst ts)
  | .tup ts => k true (.lst ts)
  | .scr ns => k true (.lst (ns.map T.int))
  | _ => False
theorem c_list : CalT1 X (.type "list") listT := by
  refine ⟨_, call_list_of, fun F H x t G Q s r hg k => ?_⟩
  cases t with
  | lst ts =>
    obtain ⟨a, vs, rfl, hl, z, rp⟩ := r.lst s
    exact ⟨a, vs, rfl, .inl (SqL.of hl), fun l nl => k true _ _ _ _ hg (Grow.own s nl) ⟨l, rfl, nl, s.free nl, vs, upd_same, z, rp⟩⟩
  | tup ts =>
    obtain ⟨a, vs, rfl, hl, z, rp⟩ := r.tup
    exact ⟨a, vs, rfl, .inr (SqT.mono s hl), fun l nl => k true _ _ _ _ hg (Grow.own s nl) ⟨l, rfl, nl, s.free nl, vs, upd_same, z, rp⟩⟩
  | scr ns =>
    obtain ⟨a, rfl, hl, z⟩ := r.scr
    exact ⟨a, _, rfl, .inl (s.seq hl), fun l nl => k true _ _ _ _ hg (Grow.own s nl) ⟨l, rfl, nl, s.free nl, _, upd_same, by rw [List.length_map]; exact z, Reps.ints.mpr rfl⟩⟩
  | _ => exact hg.elim
def tupleT : C1 := fun t k => match t with
  | .lst ts => k false (.tup ts)
  | .tup ts => k false (.tup ts)
  | .scr ns => k false (.tup (ns.map T.int))
  | _ => False
theorem c_tuple : CalT1 X (.type "tuple") tupleT := by
  refine ⟨_, call_tuple_of, fun F H x t G Q s r hg k => ?_⟩
  cases t with
  | lst ts =>
    obtain ⟨a, vs, rfl, hl, z, rp⟩ := r.lst s
    exact ⟨a, vs, rfl, .inl ⟨SqL.of hl, fun l nl => k false _ _ _ _ hg (Grow.frz s nl) ⟨l, vs, rfl, .inl (.inl upd_same), z, Reps.mono (same_upd (s.free nl)) _ _ rp⟩⟩⟩
  | tup ts =>
    obtain ⟨a, vs, rfl, hl, z, rp⟩ := r.tup
    exact ⟨a, vs, rfl, .inr ⟨SqT.mono s hl, k false _ _ F H hg (Grow.refl s) ⟨a, vs, rfl, hl, z, rp⟩⟩⟩
  | scr ns =>
    obtain ⟨a, rfl, hl, z⟩ := r.scr
    exact ⟨a, _, rfl, .inl ⟨s.seq hl, fun l nl => k false _ _ _ _ hg (Grow.frz s nl) ⟨l, _, rfl, .inl (.inl upd_same), by rw [List.length_map]; exact z, Reps.ints.mpr rfl⟩⟩⟩
  | _ => exact hg.elim
def b2i (b : Bool) : Int := if b = true then 1 else 0
def intC : C1 := fun t k => match t with
  | .int i => k false (.int i)
  | .bl b => k false (.int (TL.b2i b))
  | .str z => ∃ n, PySem.intText? z = some n ∧ z.length ≤ 640 ∧ k false (.int n)
  | _ => False
theorem c_int : CalT1 X (.type "int") intC := by
  refine ⟨_, (call_int1 (X := X)).or call_int_str, fun F H x t G Q s r hg k => ?_⟩
  cases t with
  | int i => exact .inl (.inl ⟨i, by rw [r.int], k false _ _ F H hg (Grow.refl s) rfl⟩)
  | bl b => exact .inl (.inr ⟨b, by rw [r.bl], k false _ _ F H hg (Grow.refl s) rfl⟩)
  | str z =>
    obtain ⟨n, h1, h2, hg⟩ := hg
    exact .inr ⟨z, n, by rw [r.str], h1, h2, k false _ _ F H hg (Grow.refl s) rfl⟩
  | _ => exact hg.elim
def strC : C1 := fun t k => match t with
  | .int i => i.natAbs.log2 < 1920 ∧ k false (.str (toString i))
  | _ => False
theorem c_str : CalT1 X (.type "str") strC := by
  refine ⟨_, call_str_int, fun F H x t G Q s r hg k => ?_⟩
  cases t with
  | int i => exact ⟨i, by rw [r.int], hg.1, k false _ _ F H hg.2 (Grow.refl s) rfl⟩
  | _ => exact hg.elim
/-- a list of ints, of truths -/
def intsT (ts : List T) (P : List Int → Prop) : Prop := ∃ ns : List Int, ts = ns.map T.int ∧ P ns
def sumT : C1 := fun t k => match t with
  | .lst ts => intsT ts fun ns => k false (.int ns.sum)
  | _ => False
theorem c_sum (hc : X.calm = true) : CalT1 X (.builtin "sum") sumT := by
  refine ⟨_, cr_sum hc, fun F H x t G Q s r hg k => ?_⟩
  cases t with
  | lst ts =>
    obtain ⟨ns, rfl, hg⟩ := hg
    obtain ⟨a, vs, rfl, hl, z, rp⟩ := r.lst s
    rw [Reps.ints.mp rp] at hl
    exact ⟨a, ns, rfl, SqL.of hl, k false _ _ F H hg (Grow.refl s) rfl⟩
  | _ => exact hg.elim
def blsT (ts : List T) (P : List Bool → Prop) : Prop := ∃ bs : List Bool, ts = bs.map T.bl ∧ P bs
def allT : C1 := fun t k => match t with
  | .lst ts => blsT ts fun bs => k false (.bl (bs.all _root_.id))
  | _ => False
def anyT : C1 := fun t k => match t with
  | .lst ts => blsT ts fun bs => k false (.bl (bs.any _root_.id))
  | _ => False
theorem c_all (hc : X.calm = true) : CalT1 X (.builtin "all") allT := by
  refine ⟨_, cr_all hc, fun F H x t G Q s r hg k => ?_⟩
  cases t with
  | lst ts =>
    obtain ⟨ns, rfl, hg⟩ := hg
    obtain ⟨a, vs, rfl, hl, z, rp⟩ := r.lst s
    rw [Reps.bls.mp rp] at hl
    exact ⟨a, ns, rfl, SqL.of hl, k false _ _ F H hg (Grow.refl s) rfl⟩
  | _ => exact hg.elim
theorem c_any (hc : X.calm = true) : CalT1 X (.builtin "any") anyT := by
  refine ⟨_, cr_any hc, fun F H x t G Q s r hg k => ?_⟩
  cases t with
  | lst ts =>
    obtain ⟨ns, rfl, hg⟩ := hg
    obtain ⟨a, vs, rfl, hl, z, rp⟩ := r.lst s
    rw [Reps.bls.mp rp] at hl
    exact ⟨a, ns, rfl, SqL.of hl, k false _ _ F H hg (Grow.refl s) rfl⟩
  | _ => exact hg.elim
/-- sorted ints -/
def srt (ns : List Int) : List Int := ns.mergeSort fun a b => decide (a ≤ b)
theorem srt_perm (ns : List Int) : (srt ns).Perm ns := List.mergeSort_perm ..
theorem srt_le (ns : List Int) : (srt ns).Pairwise (· ≤ ·) := by
  have := List.pairwise_mergeSort (le := fun a b : Int => decide (a ≤ b)) (fun a b c h1 h2 => by simp at *; omega) (fun a b => by simp; omega) ns
  exact this.imp fun h => of_decide_eq_true h
theorem srt_uniq {ns ms : List Int} (p : ms.Perm ns) (l : ms.Pairwise (· ≤ ·)) : ms = srt ns :=
  List.Perm.eq_of_pairwise (le := fun a b : Int => a ≤ b) (fun a b _ _ h1 h2 => by omega) l (srt_le ns) (p.trans (srt_perm ns).symm)
def sortedT : C1 := fun t k => match t with
  | .lst ts => intsT ts fun ns => k true (.lst ((srt ns).map T.int))
  | _ => False
theorem c_sorted : CalT1 X (.builtin "sorted") sortedT := by
  refine ⟨_, cr_sortedI, fun F H x t G Q s r hg k => ?_⟩
  cases t with
  | lst ts =>
    obtain ⟨ns, rfl, hg⟩ := hg
    obtain ⟨a, vs, rfl, hl, z, rp⟩ := r.lst s
    have ev := Reps.ints.mp rp
    subst ev
    refine ⟨a, ns, rfl, SqL.of hl, fun ns' p pm le np => ?_⟩
    rw [srt_uniq pm le]
    refine k true _ _ _ _ hg (Grow.own s np) ⟨p, rfl, np, s.free np, _, upd_same, ?_, Reps.ints.mpr rfl⟩
    rw [List.length_map, (srt_perm ns).length_eq]
    simpa using z
  | _ => exact hg.elim
end

/-! ### built-ins of two ints -/
section
variable {X : Cx} {B : Bs} {x : Str} {p pos : Pos} {e e2 : Expr} {id : String}
abbrev CN := List T → (Bool → T → Prop) → Prop
def CalTn (X : Cx) (f : Value) (g : CN) : Prop := ∃ r : List V → Hp → VK → Prop, CallR X f r ∧ ∀ (F H : Hp) (xs : List V) (ts : List T) (G : Bool → T → Prop) (Q : VK), Same F H → Reps X.K F ts xs → g ts G →
  (∀ k t v F' H', G k t → Grow F H F' H' → RG X.K H F' H' v k t → Q v H') → r xs H Q
def ttCn (g : CN) (tl : TTL) : TTE := fun τ P => tl τ fun ts τ1 => g ts fun k t => P (.val k t) τ1
theorem tpe_cn {g : CN} {tl : TTL} {es : List Expr} (hc : CalTn X (.builtin id) g) (hg : Gl X x) (hm : X.mg x = none) (hv : bootBuiltins x = some (.builtin id)) (ha : TPL X B (e :: es) tl) (hn : x ≠ "__name__" := by decide) (hdb : (x == ("__debug__" : Str)) = false := by decide)
    (he : starEach (e :: es) X.env = (false, eval e X.env) :: starEach es X.env := by rfl) (hpl : (backTo pos (starEach es X.env)).any (·.1) = false := by rfl) : TPE X B (.Call (.Name x p) (e :: es) [] pos) (ttCn g tl) := by
  obtain ⟨r, hr, hg'⟩ := hc
  refine ⟨PE.imp (pe_callB hr hg hm hv ha.pa hn hdb he hpl) fun σ H Q h => ?_⟩
  obtain ⟨F, τ, P, I, ht, hq⟩ := h
  refine ⟨F, τ, _, I, ht, fun ts τ1 F1 H1 vs h1 I1 s1 r1 => ?_⟩
  refine hg' F1 H1 vs ts _ Q I1.wf.sub r1 h1 fun k t v F' H' gk gr rg => ?_
  obtain ⟨rr, fr⟩ := RG.rr I1.wf gr rg
  exact hq _ _ _ _ _ gk (I1.step (gr.wf I1.wf) gr.step) (s1.trans gr.step) rr (Fresh.step s1 fr)
def max2T : CN := fun ts k => match ts with
  | [.int i, .int j] => k false (.int (if j > i then j else i))
  | _ => False
def min2T : CN := fun ts k => match ts with
  | [.int i, .int j] => k false (.int (if j < i then j else i))
  | _ => False
theorem c_max2 (hc : X.calm = true) : CalTn X (.builtin "max") max2T := by
  refine ⟨_, call_max2 hc, fun F H xs ts G Q s r hg k => ?_⟩
  unfold max2T at hg
  split at hg
  · obtain ⟨v, vr, rfl, e1, v2, vr2, rfl, e2, e3⟩ := r
    cases e1
    cases e2
    cases e3
    exact ⟨_, _, rfl, k false _ _ F H hg (Grow.refl s) rfl⟩
  · exact hg.elim
theorem c_min2 (hc : X.calm = true) : CalTn X (.builtin "min") min2T := by
  refine ⟨_, call_min2 hc, fun F H xs ts G Q s r hg k => ?_⟩
  unfold min2T at hg
  split at hg
  · obtain ⟨v, vr, rfl, e1, v2, vr2, rfl, e2, e3⟩ := r
    cases e1
    cases e2
    cases e3
    exact ⟨_, _, rfl, k false _ _ F H hg (Grow.refl s) rfl⟩
  · exact hg.elim
/-! ### -a -/
def negT : C1 := fun t k => match t with
  | .int i => k false (.int (-i))
  | _ => False
def ttU (g : C1) (te : TTE) : TTE := ttC1 g te
theorem tpe_neg {te : TTE} (he : TPE X B e te) : TPE X B (.UnaryOp .USub e pos) (ttU negT te) := by
  refine ⟨PE.imp (pe_un un_neg he.pe) fun σ H Q h => ?_⟩
  obtain ⟨F, τ, P, I, ht, hq⟩ := h
  refine lift.go I ht fun ra τ1 F1 H1 x h1 I1 s1 r1 f1 => ?_
  have rd := r1.rd I1.wf
  generalize ra.t τ1 = t at h1 rd
  cases t with
  | int i => exact ⟨i, rd.int, hq _ _ _ _ _ h1 I1 s1 rfl trivial⟩
  | _ => exact h1.elim
end
end TL

namespace TL
open PySem L2
/-! ### a def of the text, as its callers see it -/
structure Cal (P : Program) (w : World) (K : PySem.W.Frag) (mg : Str → Option Value) (base : Heap) (CX : CXT) (cls : String → Addr) (x : Str) (ps : List Str) (k : Nat) (S : TSp) : Prop where
  ex : ∃ f fd, FnOk P w K mg base CX k f fd ps (liftSp K cls S) ∧ mg x = some (.ref f) ∧ PySem.W.keepIn K (.ref f) = true ∧ Binds K fd ps []
def nox : String → TSt → Prop := fun _ _ => False
section
variable {X : Cx} {B : Bs} {k : Nat} {cls : String → Addr} {S : TSp} {x : Str} {ps : List Str} {ta : TTA} {p pos : Pos} {e : Expr} {es : List Expr}
theorem tpe_calls (C : Cal X.prog X.w X.K X.mg X.base CX0 cls x ps k S) (hr : Room k X.A) (hg : Gl X x) (ha : TPA X B (e :: es) ta) (hdb : (x == ("__debug__" : Str)) = false := by decide)
    (he : starEach (e :: es) X.env = (false, eval e X.env) :: starEach es X.env := by rfl) (hpl : (backTo pos (starEach es X.env)).any (·.1) = false := by rfl) : TPE X B (.Call (.Name x p) (e :: es) [] pos) (ttCall S nox ta) := by
  obtain ⟨f, fd, F, hm, hk, hb⟩ := C.ex
  exact tpe_call (E := E0) F hr hg hm hk hb pass0 (fun _ _ _ _ _ _ h => h.elim) ha hdb he hpl
/-- a chain as a test -/
theorem tpt_chain {te : TTE} {a b c : Expr} {op op' : CmpOp} (h : TPE X B (.Compare a [op, op'] [b, c] pos) te) (he : ∀ whole, isTrue (.Compare a [op, op'] [b, c] pos) X.env whole = (do let v ← whole; standAt pos; holding [v] (truthy v)) := by intro _; rfl) : TPT X B (.Compare a [op, op'] [b, c] pos) (ttB te) :=
  tpt_val h he
end
/-! ### isinstance -/
def tyN : T → Option String
  | .non => some "NoneType"
  | .bl _ => some "bool"
  | .int _ => some "int"
  | .str _ => some "str"
  | .tup _ => some "tuple"
  | .lst _ => some "list"
  | .dct _ _ => some "dict"
  | _ => none
def isiT (c : String) (t : T) : Option Bool := if c = "int" then (tyN t).map (fun n => n == "int" || n == "bool") else if c = "bool" then (tyN t).map (· == "bool") else if c = "str" then (tyN t).map (· == "str")
  else if c = "tuple" then (tyN t).map (· == "tuple") else if c = "list" then (tyN t).map (· == "list") else none
theorem tyN_rep {K : PySem.W.Frag} {F H : Hp} {v : V} {t : T} {n : String} (s : Same F H) (r : RdT K F H v t) (e : tyN t = some n) : TyX K H v (.type n) := by
  cases t with
  | non => cases e; rw [r.non]; exact .base .non
  | bl b => cases e; rw [r.bl]; exact .base (.bl b)
  | int b => cases e; rw [r.int]; exact .base (.int b)
  | str b => cases e; rw [r.str]; exact .base (.str b)
  | tup ts =>
    cases e
    obtain ⟨a, vs, rfl, q, _⟩ := r.tup
    rcases q with (q | ⟨o, q⟩) | ⟨o, its, n, q, c, _⟩
    · exact .base (.tup (s _ _ q))
    · exact .fTuple (s _ _ q)
    · exact .kTuple q c
  | lst ts =>
    cases e
    obtain ⟨a, vs, rfl, q, _⟩ := r.lst s
    exact .base (.lst q)
  | dct ks ts =>
    cases e
    obtain ⟨a, vs, rfl, q, _⟩ := r.dct s
    rcases q with q | ⟨o, q⟩
    · exact .base (.dK q)
    · exact .fDict q
  | _ => cases e
theorem isiT_kit {c : String} {t : T} {b : Bool} (h : isiT c t = some b) : ∃ n, tyN t = some n ∧ kitB n c = some b := by
  unfold isiT at h
  split at h
  · rename_i e; subst e
    cases t <;> first | (cases h; exact ⟨_, rfl, by decide +kernel⟩) | (cases h)
  · split at h
    · rename_i e; subst e
      cases t <;> first | (cases h; exact ⟨_, rfl, by decide +kernel⟩) | (cases h)
    · split at h
      · rename_i e; subst e
        cases t <;> first | (cases h; exact ⟨_, rfl, by decide +kernel⟩) | (cases h)
      · split at h
        · rename_i e; subst e
          cases t <;> first | (cases h; exact ⟨_, rfl, by decide +kernel⟩) | (cases h)
        · split at h
          · rename_i e; subst e
            cases t <;> first | (cases h; exact ⟨_, rfl, by decide +kernel⟩) | (cases h)
          · cases h
def ttIsi (c : String) (te : TTE) : TTE := fun τ P => te τ fun r τ1 => match isiT c (r.t τ1) with
  | some b => P (.val false (.bl b)) τ1
  | none => False
section
variable {X : Cx} {B : Bs} {p p2 pos : Pos} {e : Expr} {te : TTE} {c : String} {x : Str}
theorem tpe_isi (hg : Gl X "isinstance") (hm : X.mg "isinstance" = none) (hg2 : Gl X x) (hm2 : X.mg x = none) (hv2 : bootBuiltins x = some (.type c)) (he : TPE X B e te) (hn : x ≠ "__name__" := by decide) (hdb : (x == ("__debug__" : Str)) = false := by decide)
    (hs : starEach [e, .Name x p2] X.env = (false, eval e X.env) :: starEach [.Name x p2] X.env := by rfl) (hs2 : starEach [.Name x p2] X.env = (false, eval (.Name x p2) X.env) :: starEach [] X.env := by rfl) (hpl : (backTo pos (starEach [.Name x p2] X.env)).any (·.1) = false := by rfl) :
    TPE X B (.Call (.Name "isinstance" p) [e, .Name x p2] [] pos) (ttIsi c te) := by
  refine ⟨PE.imp (pe_callB call_isi hg hm (by decide +kernel) (pa_cons he.pe (pa_cons (pe_bltn (v := .ty c) hg2 hm2 hv2 rfl hn hdb) pa_nil hs2) hs) (by decide) (by decide) hs hpl) fun σ H Q h => ?_⟩
  obtain ⟨F, τ, P, I, ht, hq⟩ := h
  refine lift.go I ht fun r τ1 F1 H1 v h1 I1 s1 r1 f1 => ?_
  have rd := r1.rd I1.wf
  generalize r.t τ1 = t at h1 rd
  split at h1
  · rename_i b e
    obtain ⟨n, hn', hk⟩ := isiT_kit e
    exact ⟨v, .ty c, .type n, .type c, b, rfl, .ty c, tyN_rep I1.wf.sub rd hn', kit_ty hk, hq _ _ _ _ _ h1 I1 s1 rfl trivial⟩
  · exact h1.elim
end
/-! ### zip, reversed -/
section
variable {X : Cx} {B : Bs} {tg : Expr}
/-- a list or a tuple that stands, by its address -/
theorem SrcV.seqAt {K : PySem.W.Frag} {v : V} {t : T} {S : Hp → St → TSt → Prop} {F H : Hp} {σ : St} {τ : TSt} (s : SrcV K v t S) (h : S F σ τ) (w : WF K F H σ τ) : (∀ ts, t = .lst ts → ∃ a, v = .ref a ∧ ∀ F H σ τ, S F σ τ → WF K F H σ τ → ∃ vs, SqL K H a vs ∧ Reps K F ts vs) ∧
    (∀ ts, t = .tup ts → ∃ a, v = .ref a ∧ ∀ F H σ τ, S F σ τ → WF K F H σ τ → ∃ vs, SqT K H a vs ∧ Reps K F ts vs) := by
  constructor
  · rintro ts rfl
    obtain ⟨a, vs, rfl, hl, z, rp⟩ := (s.rd F H σ τ h w).lst w.sub
    refine ⟨a, rfl, fun F H σ τ h w => ?_⟩
    obtain ⟨a', vs, e, hl, z, rp⟩ := (s.rd F H σ τ h w).lst w.sub
    cases e
    exact ⟨vs, SqL.of hl, rp⟩
  · rintro ts rfl
    obtain ⟨a, vs, rfl, hl, z, rp⟩ := (s.rd F H σ τ h w).tup
    refine ⟨a, rfl, fun F H σ τ h w => ?_⟩
    obtain ⟨a', vs, e, hl, z, rp⟩ := (s.rd F H σ τ h w).tup
    cases e
    exact ⟨vs, SqT.mono w.sub hl, rp⟩
def revI (t : T) (P : List T → Prop) : Prop := match t with
  | .lst ts => P ts.reverse
  | .tup ts => P ts.reverse
  | _ => False
def tiRev (tx : TTX) : TTI := fun τ P => tx τ fun t u τ1 => revI t fun ts => P ts u τ1
theorem tpi_rev {e : Expr} {tx : TTX} {p pos : Pos} (hg : Gl X "reversed") (hm : X.mg "reversed" = none) (h : TPX X B e tx) (hs : starEach [e] X.env = (false, eval e X.env) :: starEach [] X.env := by rfl) : TPI X B tg (.Call (.Name "reversed" p) [e] [] pos) (tiRev tx) := ⟨PI.imp (RT.pi_revA hg hm h.pe hs) fun σ H R q => by
  obtain ⟨F, τ, P, I, ht, hq⟩ := q
  refine ⟨F, τ, _, I, ht, fun t u τ1 F1 H1 v S h1 I1 s1 sv s0 => ?_⟩
  have w := (lck_inn (u := u) I1).wf
  obtain ⟨aL, aT⟩ := sv.seqAt s0 w
  cases t with
  | lst ts =>
    obtain ⟨a, rfl, go⟩ := aL ts rfl
    obtain ⟨vs, hl, rp⟩ := go _ _ _ _ s0 w
    refine ⟨a, vs, rfl, .inl ⟨hl, hq _ u τ1 F1 H1 _ S h1 I1 s1 ⟨sv.keep, fun i F H σ τ q w hi => ?_, fun F H σ τ q w => ?_, fun i t F H σ τ x H' q w ht y => ?_⟩ s0⟩⟩
    · obtain ⟨vs', hl', rp'⟩ := go _ _ _ _ q w
      rw [List.length_reverse] at hi
      have e := rp.len
      have e' := rp'.len
      exact ⟨by omega, vs', _, hl', List.getElem?_eq_getElem (by omega)⟩
    · have e := rp.len
      show vs.length ≤ ts.reverse.length
      rw [List.length_reverse]
      omega
    · obtain ⟨vs', hl', rp'⟩ := go _ _ _ _ q w
      obtain ⟨e, y⟩ := y
      subst e
      have hi : i < ts.length := by simpa using (List.getElem?_eq_some_iff.mp ht).1
      rw [List.getElem?_reverse hi] at ht
      obtain ⟨v, e, r⟩ := rp'.get ht
      have y := y vs' hl'
      rw [← rp.len] at y
      rw [y] at e
      cases e
      exact ⟨F, Grow.refl w.sub, r⟩
  | tup ts =>
    obtain ⟨a, rfl, go⟩ := aT ts rfl
    obtain ⟨vs, hl, rp⟩ := go _ _ _ _ s0 w
    refine ⟨a, vs, rfl, .inr ⟨hl, hq _ u τ1 F1 H1 _ S h1 I1 s1 ⟨sv.keep, fun i F H σ τ q w hi => ?_, fun F H σ τ q w => ?_, fun i t F H σ τ x H' q w ht y => ?_⟩ s0⟩⟩
    · obtain ⟨vs', hl', rp'⟩ := go _ _ _ _ q w
      rw [List.length_reverse] at hi
      have e := rp.len
      have e' := rp'.len
      exact ⟨by omega, vs', _, hl', List.getElem?_eq_getElem (by omega)⟩
    · have e := rp.len
      show vs.length ≤ ts.reverse.length
      rw [List.length_reverse]
      omega
    · obtain ⟨vs', hl', rp'⟩ := go _ _ _ _ q w
      obtain ⟨e, y⟩ := y
      subst e
      have hi : i < ts.length := by simpa using (List.getElem?_eq_some_iff.mp ht).1
      rw [List.getElem?_reverse hi] at ht
      obtain ⟨v, e, r⟩ := rp'.get ht
      have y := y vs' hl'
      rw [← rp.len] at y
      rw [y] at e
      cases e
      exact ⟨F, Grow.refl w.sub, r⟩
  | _ => exact h1.elim⟩
/-- pairs of two lists or tuples, as many as the shorter one has -/
def zipI (s t : T) (P : List T → Prop) : Prop := match s, t with
  | .lst xs, .lst ys => P (List.zipWith (fun x y => T.tup [x, y]) xs ys)
  | .tup xs, .tup ys => P (List.zipWith (fun x y => T.tup [x, y]) xs ys)
  | _, _ => False
def tiZip (tx : TTX) (te : TTE) : TTI := fun τ P => tx τ fun t u τ1 => te τ1 fun r τ2 => frzR r τ2 fun t2 τ3 => zipI t t2 fun ts => P ts u τ3
end
end TL

namespace TL
open PySem L2
/-! ### reckoning with readings -/
theorem atI_0 {α : Type} {x : α} {xs : List α} : atI (x :: xs) 0 = some x := atI_nat (j := 0) rfl
theorem atI_1 {α : Type} {x y : α} {xs : List α} : atI (x :: y :: xs) 1 = some y := atI_nat (j := 1) rfl
theorem atI_2 {α : Type} {x y z : α} {xs : List α} : atI (x :: y :: z :: xs) 2 = some z := atI_nat (j := 2) rfl
theorem atI_3 {α : Type} {x y z u : α} {xs : List α} : atI (x :: y :: z :: u :: xs) 3 = some u := atI_nat (j := 3) rfl
theorem atI_m1 {α : Type} {xs : List α} (h : xs ≠ []) : atI xs (-1) = some (xs.getLast h) := by
  have := atI_last xs.dropLast (xs.getLast h)
  rwa [List.dropLast_concat_getLast h] at this
theorem ixN_lt {n j : Nat} (h : j < n) : ixN n (j : Int) = some j := by
  unfold ixN
  rw [if_pos (by omega), if_pos (by omega), Int.toNat_natCast]
theorem ixN_0 {n : Nat} : ixN (n + 1) 0 = some 0 := ixN_lt (j := 0) (by omega)
theorem ixN_1 {n : Nat} : ixN (n + 1 + 1) 1 = some 1 := ixN_lt (j := 1) (by omega)
theorem ixN_2 {n : Nat} : ixN (n + 1 + 1 + 1) 2 = some 2 := ixN_lt (j := 2) (by omega)
theorem atI_some {α : Type} {xs : List α} {i : Int} (h0 : 0 ≤ i) (h1 : i < xs.length) : atI xs i = some (xs[i.toNat]'(by omega)) := by
  have e := atI_nat (xs := xs) (j := i.toNat) (List.getElem?_eq_getElem (by omega : i.toNat < xs.length))
  rwa [Int.toNat_of_nonneg h0] at e
/-- an item at an open place -/
theorem pick {ts : List T} {i : Int} {k : T → Prop} (h0 : 0 ≤ i) (h1 : i < ts.length) (h : ∀ t ∈ ts, k t) : ∃ t, atI ts i = some t ∧ k t :=
  ⟨_, atI_some h0 h1, h _ (List.getElem_mem _)⟩
theorem ex_some {p : T → Prop} {t : T} : (∃ u, some t = some u ∧ p u) ↔ p t := by simp
theorem log2_ok {j : Int} {n : Nat} (h0 : 0 < j) (h : j < 2 ^ n) (hn : n ≤ 9000) (h1 : 0 < n) : j.natAbs.log2 < 9000 := by
  have : j.natAbs < 2 ^ n := by
    have e : ((2 ^ n : Nat) : Int) = (2 : Int) ^ n := by simp
    omega
  exact Nat.lt_of_lt_of_le (PySem.Flt.log2_lt_of h1 this) hn
/-- a slot that holds nothing, or a frozen value -/
def ofT (o : Option T) : Option Sl := o.map fun t => ⟨.frz, false, t⟩
theorem canS_of {o : Option T} : canS (some (ofT o)) = true := by cases o <;> rfl
theorem canS_none : canS (some none) = true := rfl
theorem canS_some {k : Kd} {t : T} : canS (some (some ⟨k, false, t⟩)) = true := rfl
theorem ofT_none : ofT none = none := rfl
theorem ofT_some {t : T} : ofT (some t) = some ⟨.frz, false, t⟩ := rfl
theorem frzAt_of {τ : TSt} {i : Nat} {o : Option T} (h : τ[i]? = some (ofT o)) : frzAt τ i := by
  unfold frzAt
  rw [h]
  cases o <;> exact trivial
/-- while, by a family of states -/
theorem while_p {α : Type} {c : TTT} {tb : TTS} {D : TEnds} {τ : TSt} (st : α → TSt) (I : α → Prop) (μ : α → Nat) (a0 : α) (e0 : τ = st a0) (h0 : I a0)
    (h : ∀ a, I a → c (st a) fun b τ1 => if b = true then tb { D with nx := fun τ' => ∃ a', τ' = st a' ∧ I a' ∧ μ a' < μ a, ct := fun τ' => ∃ a', τ' = st a' ∧ I a' ∧ μ a' < μ a, bk := D.nx } τ1 else D.nx τ1) : ttWhile c tb D τ := by
  refine ⟨fun m τ => ∃ a, τ = st a ∧ I a ∧ μ a = m, ⟨_, a0, e0, h0, rfl⟩, ?_⟩
  rintro m τ ⟨a, rfl, ha, rfl⟩
  have e : (fun τ' => ∃ m', m' < μ a ∧ ∃ a', τ' = st a' ∧ I a' ∧ μ a' = m') = fun τ' => ∃ a', τ' = st a' ∧ I a' ∧ μ a' < μ a := by
    funext τ'
    apply propext
    constructor
    · rintro ⟨m', hm, a', e, h, rfl⟩
      exact ⟨a', e, h, hm⟩
    · rintro ⟨a', e, h, hm⟩
      exact ⟨_, hm, a', e, h, rfl⟩
  rw [e]
  exact h a ha
/-- for, by a family of states -/
theorem for_p {α : Type} {ts : List T} {u : Lk} {τ1 τ0 : TSt} {g : TTG} {tb : TTS} {D : TEnds} (st : α → TSt) (I : Nat → α → Prop) (a0 : α) (e0 : τ0 = st a0) (h0 : I 0 a0)
    (h : ∀ i t a, ts[i]? = some t → I i a → g t (st a) fun τ3 => tb { D with nx := fun τ' => ∃ a', τ' = st a' ∧ I (i + 1) a', ct := fun τ' => ∃ a', τ' = st a' ∧ I (i + 1) a', bk := fun τ4 => D.nx (unl u τ1 τ4) } τ3)
    (hd : ∀ a, I ts.length a → D.nx (unl u τ1 (st a))) : ∃ Pv : Nat → TSt → Prop, Pv 0 τ0 ∧ (∀ i t τ2, ts[i]? = some t → Pv i τ2 → g t τ2 fun τ3 => tb { D with nx := Pv (i + 1), ct := Pv (i + 1), bk := fun τ4 => D.nx (unl u τ1 τ4) } τ3) ∧ ∀ τ2, Pv ts.length τ2 → D.nx (unl u τ1 τ2) :=
  ⟨fun i τ => ∃ a, τ = st a ∧ I i a, ⟨a0, e0, h0⟩, fun i t τ2 ht ⟨a, e, ha⟩ => by subst e; exact h i t a ht ha, fun τ2 ⟨a, e, ha⟩ => by subst e; exact hd a ha⟩
/-- a comprehension whose turns change nothing -/
theorem lc_pure {ts : List T} {τw : TSt} {g : TTG} {tt : TTT} {te : TTE} {vs : List Nat} {Q : List T → TSt → Prop} (f : T → Option T) (hl : ts.length ≤ sizeLine)
    (h : ∀ t ∈ ts, g t τw fun τ3 => tt τ3 fun b τ4 => if b = true then te τ4 fun r τ5 => frzR r τ5 fun y τ6 => f t = some y ∧ wipeT τ6 vs = τw else f t = none ∧ wipeT τ4 vs = τw)
    (hd : Q (ts.filterMap f) τw) : ∃ Pv : Nat → List T → TSt → Prop, Pv 0 [] τw ∧
    (∀ i t acc τ2, ts[i]? = some t → Pv i acc τ2 → g t τ2 fun τ3 => tt τ3 fun b τ4 =>
      if b = true then te τ4 fun r τ5 => frzR r τ5 fun y τ6 => acc.length < sizeLine ∧ Pv (i + 1) (acc ++ [y]) (wipeT τ6 vs) else Pv (i + 1) acc (wipeT τ4 vs)) ∧ ∀ acc τ2, Pv ts.length acc τ2 → Q acc τ2 := by
  refine ⟨fun i acc τ => τ = τw ∧ acc = (ts.take i).filterMap f, ⟨rfl, rfl⟩, ?_, ?_⟩
  · rintro i t acc τ2 ht ⟨rfl, rfl⟩
    have hi : i < ts.length := (List.getElem?_eq_some_iff.mp ht).1
    have lt : ((ts.take i).filterMap f).length < sizeLine := by
      have h1 := List.length_filterMap_le f (ts.take i)
      rw [List.length_take] at h1
      omega
    have e : (ts.take (i + 1)).filterMap f = (ts.take i).filterMap f ++ (f t).toList := by
      rw [List.take_add_one, List.filterMap_append, ht]
      simp only [Option.toList_some, List.filterMap_cons, List.filterMap_nil]
      cases f t <;> rfl
    have h1 := h t (List.mem_of_getElem? ht)
    have e1 : ∀ y τ6, (((ts.take i).filterMap f).length < sizeLine ∧ wipeT τ6 vs = τ2 ∧ (ts.take i).filterMap f ++ [y] = (ts.take (i + 1)).filterMap f) = (f t = some y ∧ wipeT τ6 vs = τ2) := fun y τ6 => by
      apply propext
      rw [e]
      constructor
      · rintro ⟨_, h2, h3⟩
        have h4 := List.append_cancel_left h3
        cases q : f t with
        | none => rw [q] at h4; cases h4
        | some z =>
          rw [q] at h4
          cases h4
          exact ⟨rfl, h2⟩
      · rintro ⟨h2, h3⟩
        rw [h2]
        exact ⟨lt, h3, rfl⟩
    have e2 : ∀ τ4, (wipeT τ4 vs = τ2 ∧ (ts.take i).filterMap f = (ts.take (i + 1)).filterMap f) = (f t = none ∧ wipeT τ4 vs = τ2) := fun τ4 => by
      apply propext
      rw [e]
      constructor
      · rintro ⟨h2, h3⟩
        cases q : f t with
        | none => exact ⟨rfl, h2⟩
        | some z =>
          rw [q] at h3
          have := congrArg List.length h3
          simp at this
      · rintro ⟨h2, h3⟩
        rw [h2]
        exact ⟨h3, by simp⟩
    simp only [e1, e2]
    exact h1
  · rintro acc τ2 ⟨rfl, rfl⟩
    rw [List.take_length]
    exact hd
/-- .. whose every item is kept -/
theorem lc_map {ts : List T} {τw : TSt} {g : TTG} {te : TTE} {vs : List Nat} {Q : List T → TSt → Prop} (f : T → T) (hl : ts.length ≤ sizeLine)
    (h : ∀ t ∈ ts, g t τw fun τ3 => te τ3 fun r τ5 => frzR r τ5 fun y τ6 => f t = y ∧ wipeT τ6 vs = τw)
    (hd : Q (ts.map f) τw) : ∃ Pv : Nat → List T → TSt → Prop, Pv 0 [] τw ∧
    (∀ i t acc τ2, ts[i]? = some t → Pv i acc τ2 → g t τ2 fun τ3 => ttYes τ3 fun b τ4 =>
      if b = true then te τ4 fun r τ5 => frzR r τ5 fun y τ6 => acc.length < sizeLine ∧ Pv (i + 1) (acc ++ [y]) (wipeT τ6 vs) else Pv (i + 1) acc (wipeT τ4 vs)) ∧ ∀ acc τ2, Pv ts.length acc τ2 → Q acc τ2 := by
  refine lc_pure (fun t => some (f t)) hl (fun t ht => ?_) (by rw [List.filterMap_eq_map']; exact hd)
  have := h t ht
  simp only [ttYes, if_true, Option.some.injEq]
  exact this
end TL

namespace TL
open PySem L2
/-! ### data that may be compared -/
structure Ok1 (d : Nat) (t : T) : Prop where
  pl : t.plain = true
  lay : t.D.canLay0 = true
  dp : t.D.depth ≤ d
theorem Ok1.eqOk {t : T} {d : Nat} (h : Ok1 d t) (hd : d ≤ 64) : eqOk t = true := by
  unfold TL.eqOk SeqAt.shaped
  rw [h.pl, h.lay, decide_eq_true (Nat.le_trans h.dp hd)]
  rfl
theorem Ok1.mono {t : T} {d e : Nat} (h : Ok1 d t) (hd : d ≤ e) : Ok1 e t := ⟨h.pl, h.lay, Nat.le_trans h.dp hd⟩
theorem ok1_non {d : Nat} : Ok1 d .non := ⟨rfl, by simp [T.D, PyData.canLay0], by simp [T.D, PyData.depth]⟩
theorem ok1_bl {d : Nat} {b : Bool} : Ok1 d (.bl b) := ⟨rfl, by simp [T.D, PyData.canLay0], by simp [T.D, PyData.depth]⟩
theorem ok1_int {d : Nat} {i : Int} : Ok1 d (.int i) := ⟨rfl, by simp [T.D, PyData.canLay0], by simp [T.D, PyData.depth]⟩
theorem ok1_str {d : Nat} {x : Str} (h : PyData.strOk x = true) : Ok1 d (.str x) := ⟨rfl, by simp [T.D, PyData.canLay0, h], by simp [T.D, PyData.depth]⟩
theorem ok1_list {d : Nat} : ∀ {ts : List T}, (∀ t ∈ ts, Ok1 d t) → T.plains ts = true ∧ PyData.canLayAll0 (T.Ds ts) = true ∧ PyData.depthAll (T.Ds ts) ≤ d
  | [], _ => ⟨rfl, by simp [T.Ds, PyData.canLayAll0], by simp [T.Ds, PyData.depthAll]⟩
  | t :: ts, h => by
    obtain ⟨h1, h2, h3⟩ := ok1_list fun t ht => h t (List.mem_cons_of_mem _ ht)
    have q := h t List.mem_cons_self
    refine ⟨by simp [T.plains, q.pl, h1], by simp [T.Ds, PyData.canLayAll0, q.lay, h2], ?_⟩
    simp only [T.Ds, PyData.depthAll]
    have := q.dp
    omega
theorem ok1_tup {d : Nat} {ts : List T} (h : ∀ t ∈ ts, Ok1 d t) : Ok1 (d + 1) (.tup ts) := by
  obtain ⟨h1, h2, h3⟩ := ok1_list h
  exact ⟨h1, by simp [T.D, PyData.canLay0, h2], by simp only [T.D, PyData.depth]; omega⟩
theorem ok1_lst {d : Nat} {ts : List T} (h : ∀ t ∈ ts, Ok1 d t) : Ok1 (d + 1) (.lst ts) := by
  obtain ⟨h1, h2, h3⟩ := ok1_list h
  exact ⟨h1, by simp [T.D, PyData.canLay0, h2], by simp only [T.D, PyData.depth]; omega⟩
theorem ok1_ints {d : Nat} {ns : List Int} : ∀ t ∈ ns.map T.int, Ok1 d t := fun t ht => by
  obtain ⟨n, _, rfl⟩ := List.mem_map.mp ht
  exact ok1_int
theorem ok1_bls {d : Nat} {ns : List Bool} : ∀ t ∈ ns.map T.bl, Ok1 d t := fun t ht => by
  obtain ⟨n, _, rfl⟩ := List.mem_map.mp ht
  exact ok1_bl
theorem eo_int {i : Int} : eqOk (.int i) = true := (ok1_int (d := 0)).eqOk (by decide)
theorem eo_bl {b : Bool} : eqOk (.bl b) = true := (ok1_bl (d := 0)).eqOk (by decide)
theorem eo_non : eqOk .non = true := (ok1_non (d := 0)).eqOk (by decide)
theorem eo_str {x : Str} (h : PyData.strOk x = true) : eqOk (.str x) = true := (ok1_str (d := 0) h).eqOk (by decide)
theorem eo_ints {ns : List Int} : eqOk (.lst (ns.map .int)) = true := (ok1_lst (d := 0) ok1_ints).eqOk (by decide)
theorem eo_intsT {ns : List Int} : eqOk (.tup (ns.map .int)) = true := (ok1_tup (d := 0) ok1_ints).eqOk (by decide)
theorem eo_bls {ns : List Bool} : eqOk (.lst (ns.map .bl)) = true := (ok1_lst (d := 0) ok1_bls).eqOk (by decide)
/-! ### what == says -/
theorem ev_int {i j : Int} : T.eqv (.int i) (.int j) = decide (i = j) := by rw [Bool.eq_iff_iff]; simp [T.eqv, T.D, PyData.eqv]
theorem ev_bl {i j : Bool} : T.eqv (.bl i) (.bl j) = decide (i = j) := by rw [Bool.eq_iff_iff]; simp [T.eqv, T.D, PyData.eqv]
theorem ev_str {i j : Str} : T.eqv (.str i) (.str j) = decide (i = j) := by rw [Bool.eq_iff_iff]; simp [T.eqv, T.D, PyData.eqv]
theorem ev_nons {t : T} : T.eqv .non t = (match t with | .non => true | .tup _ => false | .lst _ => false | .int _ => false | .bl _ => false | .str _ => false | _ => true) := by
  cases t <;> simp [T.eqv, T.D, PyData.eqv]
theorem ev_lst {xs ys : List T} : T.eqv (.lst xs) (.lst ys) = PyData.eqvAll (T.Ds xs) (T.Ds ys) := by simp [T.eqv, T.D, PyData.eqv]
theorem ev_tup {xs ys : List T} : T.eqv (.tup xs) (.tup ys) = PyData.eqvAll (T.Ds xs) (T.Ds ys) := by simp [T.eqv, T.D, PyData.eqv]
/-- == is equality where it is so of the parts -/
theorem eqvAll_iff : ∀ {xs ys : List T}, (∀ x ∈ xs, ∀ y ∈ ys, T.eqv x y = true ↔ x = y) → (PyData.eqvAll (T.Ds xs) (T.Ds ys) = true ↔ xs = ys)
  | [], [], _ => by simp [T.Ds, PyData.eqvAll]
  | [], y :: ys, _ => by simp [T.Ds, PyData.eqvAll]
  | x :: xs, [], _ => by simp [T.Ds, PyData.eqvAll]
  | x :: xs, y :: ys, h => by
    have h1 := h x List.mem_cons_self y List.mem_cons_self
    have h2 := eqvAll_iff (xs := xs) (ys := ys) fun a ha b hb => h a (List.mem_cons_of_mem _ ha) b (List.mem_cons_of_mem _ hb)
    simp only [T.Ds, PyData.eqvAll, Bool.and_eq_true, h2, List.cons.injEq]
    rw [show PyData.eqv x.D y.D = T.eqv x y from rfl, h1]
theorem map_int_inj {xs ys : List Int} : xs.map T.int = ys.map T.int ↔ xs = ys := by
  constructor
  · intro h
    induction xs generalizing ys with
    | nil => cases ys with
      | nil => rfl
      | cons _ _ => cases h
    | cons x xs ih => cases ys with
      | nil => cases h
      | cons y ys =>
        injection h with h1 h2
        injection h1 with h1
        rw [h1, ih h2]
  · intro h; rw [h]
theorem map_bl_inj {xs ys : List Bool} : xs.map T.bl = ys.map T.bl ↔ xs = ys := by
  constructor
  · intro h
    induction xs generalizing ys with
    | nil => cases ys with
      | nil => rfl
      | cons _ _ => cases h
    | cons x xs ih => cases ys with
      | nil => cases h
      | cons y ys =>
        injection h with h1 h2
        injection h1 with h1
        rw [h1, ih h2]
  · intro h; rw [h]
theorem eqvAll_ints {xs ys : List Int} : PyData.eqvAll (T.Ds (xs.map .int)) (T.Ds (ys.map .int)) = decide (xs = ys) := by
  rw [Bool.eq_iff_iff, eqvAll_iff, map_int_inj, decide_eq_true_eq]
  intro x hx y hy
  obtain ⟨i, _, rfl⟩ := List.mem_map.mp hx
  obtain ⟨j, _, rfl⟩ := List.mem_map.mp hy
  rw [ev_int, decide_eq_true_eq, T.int.injEq]
theorem ev_ints {xs ys : List Int} : T.eqv (.lst (xs.map .int)) (.lst (ys.map .int)) = decide (xs = ys) := by rw [ev_lst, eqvAll_ints]
theorem ev_intsT {xs ys : List Int} : T.eqv (.tup (xs.map .int)) (.tup (ys.map .int)) = decide (xs = ys) := by rw [ev_tup, eqvAll_ints]
theorem any_int {xs : List Int} {n : Int} : ((xs.map T.int).any fun t => T.eqv t (.int n)) = decide (n ∈ xs) := by
  rw [Bool.eq_iff_iff, List.any_eq_true, decide_eq_true_eq]
  constructor
  · rintro ⟨t, ht, e⟩
    obtain ⟨i, hi, rfl⟩ := List.mem_map.mp ht
    rw [ev_int, decide_eq_true_eq] at e
    rw [← e]
    exact hi
  · intro h
    exact ⟨.int n, List.mem_map_of_mem h, by rw [ev_int]; exact decide_eq_true rfl⟩
/-! ### dicts -/
theorem kMem_put {ks : List Key} {k x : Key} : kMem x (dPutK ks k) = (kMem x ks || decide (x = k)) := by
  rw [Bool.eq_iff_iff, Bool.or_eq_true, kMem_iff, kMem_iff, decide_eq_true_eq]
  unfold dPutK
  by_cases h : kMem k ks = true
  · rw [if_pos h]
    constructor
    · exact .inl
    · rintro (h' | rfl)
      · exact h'
      · exact kMem_iff.mp h
  · rw [if_neg h, List.mem_append, List.mem_singleton]
theorem dPutK_len {ks : List Key} {k : Key} : (dPutK ks k).length ≤ ks.length + 1 := by
  unfold dPutK
  split
  · omega
  · simp
theorem kMem_int {ks : List Key} {n k : Int} : kMem (Sum.inl n) (dPutK ks (Sum.inl k)) = (kMem (Sum.inl n) ks || decide (n = k)) := by
  rw [kMem_put]
  congr 1
  rw [Bool.eq_iff_iff, decide_eq_true_eq, decide_eq_true_eq]
  exact ⟨fun h => Sum.inl.inj h, fun h => by rw [h]⟩
/-! ### places -/
theorem atI_last_int {ns : List Int} (h : ns ≠ []) : atI (ns.map T.int) (-1) = some (.int (ns.getLast h)) := by
  rw [atI_map, atI_m1 h]
  rfl
theorem atI_int {ns : List Int} {i : Int} (h0 : 0 ≤ i) (h1 : i < ns.length) : atI (ns.map T.int) i = some (.int (ns[i.toNat]'(by omega))) := by
  rw [atI_map, atI_some h0 h1]
  rfl
theorem rngT_get {lo : Int} {n i : Nat} {t : T} (h : (rngT lo n)[i]? = some t) : i < n ∧ t = .int (lo + i) := by
  unfold rngT at h
  rw [List.getElem?_map] at h
  by_cases hi : i < n
  · rw [List.getElem?_range hi] at h
    cases h
    exact ⟨hi, rfl⟩
  · rw [List.getElem?_eq_none (by simpa using hi)] at h
    cases h
theorem rngT_mem {lo : Int} {n : Nat} {t : T} (h : t ∈ rngT lo n) : ∃ i, i < n ∧ t = .int (lo + i) := by
  obtain ⟨i, hi⟩ := List.mem_iff_getElem?.mp h
  exact ⟨i, rngT_get hi⟩
theorem rngT_len {lo : Int} {n : Nat} : (rngT lo n).length = n := by simp [rngT]
theorem ints_get {ns : List Int} {i : Nat} {t : T} (h : (ns.map T.int)[i]? = some t) : ∃ n, ns[i]? = some n ∧ t = .int n := by
  rw [List.getElem?_map] at h
  cases e : ns[i]? with
  | none => rw [e] at h; cases h
  | some n => rw [e] at h; cases h; exact ⟨n, rfl, rfl⟩
theorem sizeLine_val : sizeLine = 16777216 := by decide
end TL

namespace TL
open PySem L2
/-- an equation that is used by its proof -/
theorem rf {α : Sort u} {a b : α} (h : a = b) : a = b := h
/-! ### head first: what comes behind is boxed, and opened when it is come to -/
class Bx (α : Sort u) : Sort (max 1 u) where
  get : α
def box {α : Sort u} [b : Bx α] : α := b.get
theorem bx_app {α : Sort u} {β : Sort v} {f : α → β} {x : α} : (@box (α → β) ⟨f⟩) x = f x := rf rfl
def seqD (u : TTS) (D : TEnds) : TEnds := { D with nx := u D }
def loopD (P b : TSt → Prop) (D : TEnds) : TEnds := { D with nx := P, ct := P, bk := b }
section
variable {u : TTS} {D : TEnds} {P b : TSt → Prop}
theorem sD_nx : (seqD u D).nx = u D := rf rfl
theorem sD_rt : (seqD u D).rt = D.rt := rf rfl
theorem sD_bk : (seqD u D).bk = D.bk := rf rfl
theorem sD_ct : (seqD u D).ct = D.ct := rf rfl
theorem lD_nx : (loopD P b D).nx = P := rf rfl
theorem lD_rt : (loopD P b D).rt = D.rt := rf rfl
theorem lD_bk : (loopD P b D).bk = b := rf rfl
theorem lD_ct : (loopD P b D).ct = P := rf rfl
end
def cnd (b : Bool) (f g : Unit → Prop) : Prop := if b = true then f () else g ()
theorem cnd_t {f g : Unit → Prop} : cnd true f g = f () := rf rfl
theorem cnd_f {f g : Unit → Prop} : cnd false f g = g () := rf rfl
theorem cnd_not {b : Bool} {f g : Unit → Prop} : cnd (!b) f g = cnd b g f := by cases b <;> rfl
theorem cnd_T {p : Prop} [Decidable p] {f g : Unit → Prop} (h : p) (hf : f ()) : cnd (decide p) f g := by rw [decide_eq_true h]; exact hf
theorem cnd_F {p : Prop} [Decidable p] {f g : Unit → Prop} (h : ¬p) (hg : g ()) : cnd (decide p) f g := by rw [decide_eq_false h]; exact hg
theorem cnd_2 {p : Prop} [Decidable p] {f g : Unit → Prop} (hf : p → f ()) (hg : ¬p → g ()) : cnd (decide p) f g := by
  by_cases h : p
  · exact cnd_T h (hf h)
  · exact cnd_F h (hg h)
theorem cnd_b {b : Bool} {f g : Unit → Prop} (hf : b = true → f ()) (hg : b = false → g ()) : cnd b f g := by
  cases b with
  | true => exact hf rfl
  | false => exact hg rfl
def blK (t : T) (k : Bool → Prop) : Prop := match t with
  | .bl b => k b
  | _ => False
theorem blK_bl {b : Bool} {k : Bool → Prop} : blK (.bl b) k = k b := rf rfl
def inK (t : T) (k : Int → Prop) : Prop := match t with
  | .int b => k b
  | _ => False
theorem inK_int {b : Int} {k : Int → Prop} : inK (.int b) k = k b := rf rfl
def opK (o : Option Bool) (k : Bool → Prop) : Prop := match o with
  | some b => k b
  | none => False
theorem opK_some {b : Bool} {k : Bool → Prop} : opK (some b) k = k b := rf rfl
def r1K (ts : List T) (τ : TSt) (P : List T → Lk → TSt → Prop) : Prop := match ts with
  | [.int j] => (-(2 ^ 62) ≤ j ∧ j < 2 ^ 62) ∧ P (rngT 0 j.toNat) none τ
  | _ => False
theorem r1K_i {j : Int} {τ : TSt} {P : List T → Lk → TSt → Prop} : r1K [.int j] τ P = ((-(2 ^ 62) ≤ j ∧ j < 2 ^ 62) ∧ P (rngT 0 j.toNat) none τ) := rf rfl
def r2K (ts : List T) (τ : TSt) (P : List T → Lk → TSt → Prop) : Prop := match ts with
  | [.int i, .int j] => (-(2 ^ 62) ≤ i ∧ i < 2 ^ 62 ∧ -(2 ^ 62) ≤ j ∧ j < 2 ^ 62) ∧ P (rngT i (j - i).toNat) none τ
  | _ => False
theorem r2K_i {i j : Int} {τ : TSt} {P : List T → Lk → TSt → Prop} : r2K [.int i, .int j] τ P = ((-(2 ^ 62) ≤ i ∧ i < 2 ^ 62 ∧ -(2 ^ 62) ≤ j ∧ j < 2 ^ 62) ∧ P (rngT i (j - i).toNat) none τ) := rf rfl
def frK (r : R) (o : Option (Option Sl)) (τ : TSt) (P : T → TSt → Prop) : Prop := match r with
  | .val _ t => P t τ
  | .var i => match o with
    | some (some ⟨.frz, _, t⟩) => P t τ
    | some (some ⟨.own, false, t⟩) => P t (τ.set i (some ⟨.frz, false, t⟩))
    | _ => False
theorem frz_val {k : Bool} {t : T} {τ : TSt} {P : T → TSt → Prop} : frzR (.val k t) τ P = P t τ := rf rfl
theorem frz_var {i : Nat} {τ : TSt} {P : T → TSt → Prop} : frzR (.var i) τ P = frK (.var i) τ[i]? τ P := rf rfl
theorem frK_f {i : Nat} {l : Bool} {t : T} {τ : TSt} {P : T → TSt → Prop} : frK (.var i) (some (some ⟨.frz, l, t⟩)) τ P = P t τ := rf rfl
theorem frK_o {i : Nat} {t : T} {τ : TSt} {P : T → TSt → Prop} : frK (.var i) (some (some ⟨.own, false, t⟩)) τ P = P t (τ.set i (some ⟨.frz, false, t⟩)) := rf rfl
theorem stR_v {t : T} {τ : TSt} {i : Nat} {P : TSt → Prop} : stR (.val true t) τ i P = setS τ i ⟨.own, false, t⟩ P := rf rfl
theorem stR_f {t : T} {τ : TSt} {i : Nat} {P : TSt → Prop} : stR (.val false t) τ i P = setS τ i ⟨.frz, false, t⟩ P := rf rfl
theorem stR_n {j : Nat} {τ : TSt} {i : Nat} {P : TSt → Prop} : stR (.var j) τ i P = frzR (.var j) τ (@box _ ⟨fun t τ1 => setS τ1 i ⟨.frz, false, t⟩ P⟩) := rf rfl
def slK (o : Option (Option Sl)) (i : Nat) (τ : TSt) (P : T → Lk → TSt → Prop) : Prop := match o with
  | some (some s) => P s.t (some i) τ
  | _ => False
theorem sl_eq {i : Nat} {τ : TSt} {P : T → Lk → TSt → Prop} : sl i τ P = slK τ[i]? i τ P := rf rfl
theorem slK_s {s : Sl} {i : Nat} {τ : TSt} {P : T → Lk → TSt → Prop} : slK (some (some s)) i τ P = P s.t (some i) τ := rf rfl
def mtK (o : Option (Option Sl)) (τ : TSt) (i : Nat) (ts : List T) (g : MG) (P : R → TSt → Prop) : Prop := match o with
  | some (some ⟨.own, false, t⟩) => g t ts fun t' u => P (.val false u) (τ.set i (some ⟨.own, false, t'⟩))
  | some (some ⟨.arg j, false, t⟩) => g t ts fun t' u => P (.val false u) (τ.set i (some ⟨.arg j, false, t'⟩))
  | _ => False
theorem mutS_eq {τ : TSt} {i : Nat} {ts : List T} {g : MG} {P : R → TSt → Prop} : mutS τ i ts g P = mtK τ[i]? τ i ts g P := rf rfl
theorem mtK_o {τ : TSt} {i : Nat} {ts : List T} {t : T} {g : MG} {P : R → TSt → Prop} : mtK (some (some ⟨.own, false, t⟩)) τ i ts g P = g t ts (@box _ ⟨fun t' u => P (.val false u) (τ.set i (some ⟨.own, false, t'⟩))⟩) := rf rfl
theorem mtK_a {τ : TSt} {i j : Nat} {ts : List T} {t : T} {g : MG} {P : R → TSt → Prop} : mtK (some (some ⟨.arg j, false, t⟩)) τ i ts g P = g t ts (@box _ ⟨fun t' u => P (.val false u) (τ.set i (some ⟨.arg j, false, t'⟩))⟩) := rf rfl
def sxK (o : Option (Option Sl)) (τ : TSt) (i : Nat) (k v : T) (P : TSt → Prop) : Prop := match o with
  | some (some ⟨.own, false, c⟩) => setG c k v fun c' => P (τ.set i (some ⟨.own, false, c'⟩))
  | some (some ⟨.arg j, false, c⟩) => setG c k v fun c' => P (τ.set i (some ⟨.arg j, false, c'⟩))
  | _ => False
theorem stIx_eq {τ : TSt} {i : Nat} {k v : T} {P : TSt → Prop} : stIx τ i k v P = sxK τ[i]? τ i k v P := rf rfl
theorem sxK_o {τ : TSt} {i : Nat} {c k v : T} {P : TSt → Prop} : sxK (some (some ⟨.own, false, c⟩)) τ i k v P = setG c k v (@box _ ⟨fun c' => P (τ.set i (some ⟨.own, false, c'⟩))⟩) := rf rfl
theorem sxK_a {τ : TSt} {i j : Nat} {c k v : T} {P : TSt → Prop} : sxK (some (some ⟨.arg j, false, c⟩)) τ i k v P = setG c k v (@box _ ⟨fun c' => P (τ.set i (some ⟨.arg j, false, c'⟩))⟩) := rf rfl
def rtK (r : R) (o : Option (Option Sl)) (τ : TSt) (P : R → TSt → Prop) : Prop := match o with
    | some (some ⟨.frz, _, t⟩) => P (.val false t) τ
    | some (some ⟨.own, _, t⟩) => P (.val true t) τ
    | _ => False
theorem ret_val {k : Bool} {t : T} {τ : TSt} {P : R → TSt → Prop} : retR (.val k t) τ P = P (.val k t) τ := rf rfl
theorem ret_var {i : Nat} {τ : TSt} {P : R → TSt → Prop} : retR (.var i) τ P = rtK (.var i) τ[i]? τ P := rf rfl
theorem rtK_f {r : R} {l : Bool} {t : T} {τ : TSt} {P : R → TSt → Prop} : rtK r (some (some ⟨.frz, l, t⟩)) τ P = P (.val false t) τ := rf rfl
theorem rtK_o {r : R} {l : Bool} {t : T} {τ : TSt} {P : R → TSt → Prop} : rtK r (some (some ⟨.own, l, t⟩)) τ P = P (.val true t) τ := rf rfl
theorem ends_rt {as : List Sl} {PR : R → List T → Prop} {r : R} {τ : TSt} : (endsT as PR).rt r τ = retR r τ (@box _ ⟨fun r' τ' => keptA as τ' ∧ PR r' (outA as τ')⟩) := rf rfl
theorem ends_nx {as : List Sl} {PR : R → List T → Prop} {τ : TSt} : (endsT as PR).nx τ = (keptA as τ ∧ PR (.val false .non) (outA as τ)) := rf rfl
section
variable {τ : TSt} {P : R → TSt → Prop} {Pb : Bool → TSt → Prop} {Pl : List T → TSt → Prop} {Pa : List R → TSt → Prop} {Po : Option Int → TSt → Prop} {Px : T → Lk → TSt → Prop} {Pi : List T → Lk → TSt → Prop} {Pg : TSt → Prop}
  {te ta tb tc ti : TTE} {tl : TTL} {tt tu : TTT} {g g' : G2} {c1 : C1} {cn : CN} {t u : TTS} {D : TEnds} {i : Nat} {isL : Bool} {mg : MG} {tx : TTX} {tg : TTG} {tgs : TTGs} {taa : TTA} {S : TSp} {XT : String → TSt → Prop} {lo hi : TTO} {cc : String}
theorem z_v : tv i τ P = ((∃ s, τ[i]? = some (some s)) ∧ P (.var i) τ) := rf rfl
theorem z_k {x : T} : tk x τ P = P (.val false x) τ := rf rfl
theorem z_tf : tf te τ P = te τ (@box _ ⟨fun r τ1 => frzR r τ1 (@box _ ⟨fun u τ2 => P (.val false u) τ2⟩)⟩) := rf rfl
theorem z_nil : tlnil τ Pl = Pl [] τ := rf rfl
theorem z_cons : tlcons te tl τ Pl = te τ (@box _ ⟨fun r τ1 => frzR r τ1 (@box _ ⟨fun t τ2 => tl τ2 (@box _ ⟨fun ts τ3 => Pl (t :: ts) τ3⟩)⟩)⟩) := rf rfl
theorem z_tup : ttTup tl τ P = tl τ (@box _ ⟨fun ts τ1 => ts.length ≤ sizeLine ∧ P (.val false (.tup ts)) τ1⟩) := rf rfl
theorem z_lst : ttLst tl τ P = tl τ (@box _ ⟨fun ts τ1 => ts.length ≤ sizeLine ∧ P (.val true (.lst ts)) τ1⟩) := rf rfl
theorem z_bin : ttBin g ta tb τ P = ta τ (@box _ ⟨fun ra τ1 => tb τ1 (@box _ ⟨fun rb τ2 => g (ra.t τ2) (rb.t τ2) (@box _ ⟨fun k t => P (.val k t) τ2⟩)⟩)⟩) := rf rfl
theorem z_B : ttB te τ Pb = te τ (@box _ ⟨fun r τ1 => blK (r.t τ1) (@box _ ⟨fun b => Pb b τ1⟩)⟩) := rf rfl
theorem z_and : ttAnd tt tu τ Pb = tt τ (@box _ ⟨fun c τ1 => cnd c (@box _ ⟨fun _ => tu τ1 Pb⟩) (@box _ ⟨fun _ => Pb false τ1⟩)⟩) := rf rfl
theorem z_or : ttOr tt tu τ Pb = tt τ (@box _ ⟨fun c τ1 => cnd c (@box _ ⟨fun _ => Pb true τ1⟩) (@box _ ⟨fun _ => tu τ1 Pb⟩)⟩) := rf rfl
theorem z_not : ttNot tt τ Pb = tt τ (@box _ ⟨fun c τ1 => Pb (!c) τ1⟩) := rf rfl
theorem z_if : ttIf tt ta tb τ P = tt τ (@box _ ⟨fun c τ1 => cnd c (@box _ ⟨fun _ => ta τ1 P⟩) (@box _ ⟨fun _ => tb τ1 P⟩)⟩) := rf rfl
theorem z_andV : ttAndV ta tb τ P = ta τ (@box _ ⟨fun r τ1 => blK (r.t τ1) (@box _ ⟨fun b => cnd b (@box _ ⟨fun _ => tb τ1 P⟩) (@box _ ⟨fun _ => P (.val false (.bl false)) τ1⟩)⟩)⟩) := rf rfl
theorem z_orV : ttOrV ta tb τ P = ta τ (@box _ ⟨fun r τ1 => blK (r.t τ1) (@box _ ⟨fun b => cnd b (@box _ ⟨fun _ => P (.val false (.bl true)) τ1⟩) (@box _ ⟨fun _ => tb τ1 P⟩)⟩)⟩) := rf rfl
theorem z_notV : ttNotV ta τ P = ta τ (@box _ ⟨fun r τ1 => blK (r.t τ1) (@box _ ⟨fun b => P (.val false (.bl (!b))) τ1⟩)⟩) := rf rfl
theorem z_chain : ttChain g g' ta tb tc τ P = ta τ (@box _ ⟨fun ra τ1 => tb τ1 (@box _ ⟨fun rb τ2 => g (ra.t τ2) (rb.t τ2) (@box _ ⟨fun _ t => blK t (@box _ ⟨fun b => cnd b (@box _ ⟨fun _ => tc τ2 (@box _ ⟨fun rc τ3 => rb.t τ3 = rb.t τ2 ∧ g' (rb.t τ3) (rc.t τ3) (@box _ ⟨fun k t => P (.val k t) τ3⟩)⟩)⟩) (@box _ ⟨fun _ => P (.val false (.bl false)) τ2⟩)⟩)⟩)⟩)⟩) := by
  unfold ttChain
  refine congrArg (ta τ) (funext fun ra => funext fun τ1 => congrArg (tb τ1) (funext fun rb => funext fun τ2 => congrArg (g (ra.t τ2) (rb.t τ2)) (funext fun k => funext fun t => ?_)))
  cases t with
  | bl b => cases b <;> rfl
  | _ => rfl
theorem z_ix : ttIx ta tb τ P = ta τ (@box _ ⟨fun ra τ1 => tb τ1 (@box _ ⟨fun rb τ2 => ixT (ra.t τ2) (rb.t τ2) (@box _ ⟨fun t => P (.val false t) τ2⟩)⟩)⟩) := rf rfl
theorem z_toN : toN τ Po = Po none τ := rf rfl
theorem z_toS : toS te τ Po = te τ (@box _ ⟨fun r τ1 => inK (r.t τ1) (@box _ ⟨fun i => Po (some i) τ1⟩)⟩) := rf rfl
theorem z_sl : ttSl te lo hi τ P = te τ (@box _ ⟨fun r τ1 => lo τ1 (@box _ ⟨fun l τ2 => hi τ2 (@box _ ⟨fun h τ3 => slT' (r.t τ3) l h (@box _ ⟨fun k t => P (.val k t) τ3⟩)⟩)⟩)⟩) := rf rfl
def mtL (isL : Bool) (t : T) : Prop := match t with
  | .lst _ => isL = true
  | .dct _ _ => isL = false
  | _ => False
theorem mtL_l {b : Bool} {ts : List T} : mtL b (.lst ts) = (b = true) := rf rfl
theorem mtL_d {b : Bool} {ks : List Key} {ts : List T} : mtL b (.dct ks ts) = (b = false) := rf rfl
theorem z_mut : ttMut isL i tl mg τ P = (mtL isL (slT τ i) ∧ (∃ s, τ[i]? = some (some s)) ∧ tl τ (@box _ ⟨fun ts τ1 => mutS τ1 i ts mg P⟩)) := rf rfl
theorem z_d0 : ttDict0 τ P = P (.val true (.dct [] [])) τ := rf rfl
theorem z_c1 : ttC1 c1 te τ P = te τ (@box _ ⟨fun r τ1 => c1 (r.t τ1) (@box _ ⟨fun k t => P (.val k t) τ1⟩)⟩) := rf rfl
theorem z_u : ttU c1 te τ P = te τ (@box _ ⟨fun r τ1 => c1 (r.t τ1) (@box _ ⟨fun k t => P (.val k t) τ1⟩)⟩) := rf rfl
theorem z_cn : ttCn cn tl τ P = tl τ (@box _ ⟨fun ts τ1 => cn ts (@box _ ⟨fun k t => P (.val k t) τ1⟩)⟩) := rf rfl
theorem z_isi : ttIsi cc te τ P = te τ (@box _ ⟨fun r τ1 => opK (isiT cc (r.t τ1)) (@box _ ⟨fun b => P (.val false (.bl b)) τ1⟩)⟩) := rf rfl
theorem z_aN : taNil τ Pa = Pa [] τ := rf rfl
theorem z_aF : taF te taa τ Pa = te τ (@box _ ⟨fun r τ1 => frzR r τ1 (@box _ ⟨fun t τ2 => taa τ2 (@box _ ⟨fun rs τ3 => Pa (.val false t :: rs) τ3⟩)⟩)⟩) := rf rfl
theorem z_aV : taV i taa τ Pa = ((∃ s, τ[i]? = some (some s)) ∧ taa τ (@box _ ⟨fun rs τ3 => Pa (.var i :: rs) τ3⟩)) := rf rfl
theorem z_call : ttCall S XT taa τ P = taa τ (@box _ ⟨fun rs τ1 => varsOk rs = true ∧ S (mkA τ1 0 rs) (@box _ ⟨fun r ts => ts.length = rs.length ∧ putB rs ts τ1 (@box _ ⟨fun τ2 => P r τ2⟩)⟩) (@box _ ⟨fun c ts => ts.length = rs.length ∧ putB rs ts τ1 (@box _ ⟨fun τ2 => XT c τ2⟩)⟩)⟩) := rf rfl
theorem z_next : ttNext D τ = D.nx τ := rf rfl
theorem z_brk : ttBreak D τ = D.bk τ := rf rfl
theorem z_cont : ttCont D τ = D.ct τ := rf rfl
theorem z_seq : ttSeq t u D τ = t (seqD u D) τ := rf rfl
theorem z_drop : ttDrop te D τ = te τ (@box _ ⟨fun _ τ1 => D.nx τ1⟩) := rf rfl
theorem z_ret : ttRet te D τ = te τ (@box _ ⟨fun r τ1 => D.rt r τ1⟩) := rf rfl
theorem z_retN : ttRetN D τ = D.rt (.val false .non) τ := rf rfl
theorem z_ifS : ttIfS tt t u D τ = tt τ (@box _ ⟨fun b τ1 => cnd b (@box _ ⟨fun _ => t D τ1⟩) (@box _ ⟨fun _ => u D τ1⟩)⟩) := rf rfl
theorem z_set : ttSet i te D τ = te τ (@box _ ⟨fun r τ1 => stR r τ1 i D.nx⟩) := rf rfl
theorem z_tgN {x : T} : tgN i x τ Pg = setS τ i ⟨.frz, false, x⟩ Pg := rf rfl
theorem z_gsN : tgsNil [] τ Pg = Pg τ := rf rfl
theorem z_gsC {x : T} {xs : List T} : tgsCons tg tgs (x :: xs) τ Pg = tg x τ (@box _ ⟨fun τ1 => tgs xs τ1 Pg⟩) := rf rfl
theorem z_tgT {n : Nat} {xs : List T} : tgTup n tgs (.tup xs) τ Pg = (xs.length = n ∧ tgs xs τ Pg) := rf rfl
theorem z_asg : ttAsg te tg D τ = te τ (@box _ ⟨fun r τ1 => frzR r τ1 (@box _ ⟨fun t τ2 => tg t τ2 D.nx⟩)⟩) := rf rfl
theorem z_setIx : ttSetIx i te ti D τ = te τ (@box _ ⟨fun r τ1 => frzR r τ1 (@box _ ⟨fun t τ2 => (∃ s, τ2[i]? = some (some s)) ∧ ti τ2 (@box _ ⟨fun ri τ3 => stIx τ3 i (ri.t τ3) t D.nx⟩)⟩)⟩) := rf rfl
theorem z_sf : sf te τ Px = te τ (@box _ ⟨fun r τ1 => frzR r τ1 (@box _ ⟨fun t τ2 => Px t none τ2⟩)⟩) := rf rfl
theorem z_seqs : tiSeq tx τ Pi = tx τ (@box _ ⟨fun t u τ1 => seqI t (@box _ ⟨fun ts => Pi ts u τ1⟩)⟩) := rf rfl
theorem z_rev : tiRev tx τ Pi = tx τ (@box _ ⟨fun t u τ1 => revI t (@box _ ⟨fun ts => Pi ts u τ1⟩)⟩) := rf rfl
theorem z_zip : tiZip tx te τ Pi = tx τ (@box _ ⟨fun t u τ1 => te τ1 (@box _ ⟨fun r τ2 => frzR r τ2 (@box _ ⟨fun t2 τ3 => zipI t t2 (@box _ ⟨fun ts => Pi ts u τ3⟩)⟩)⟩)⟩) := rf rfl
theorem z_rng1 : tiRng1 tl τ Pi = tl τ (@box _ ⟨fun ts τ1 => r1K ts τ1 Pi⟩) := rf rfl
theorem z_rng2 : tiRng2 tl τ Pi = tl τ (@box _ ⟨fun ts τ1 => r2K ts τ1 Pi⟩) := rf rfl
theorem z_yes : ttYes τ Pb = Pb true τ := rf rfl
end
def slK2 (o : Option (Option Sl)) : T := match o with
  | some (some s) => s.t
  | _ => .non
theorem y_sl2 {s : Sl} : slK2 (some (some s)) = s.t := rf rfl
def mkK (j : Nat) (o : Option (Option Sl)) : Sl := match o with
    | some (some ⟨.frz, _, t⟩) => ⟨.frz, false, t⟩
    | some (some ⟨_, _, t⟩) => ⟨.arg j, false, t⟩
    | _ => ⟨.frz, false, .non⟩
theorem y_mkf {j : Nat} {l : Bool} {t : T} : mkK j (some (some ⟨.frz, l, t⟩)) = ⟨.frz, false, t⟩ := rf rfl
theorem y_mko {j : Nat} {l : Bool} {t : T} : mkK j (some (some ⟨.own, l, t⟩)) = ⟨.arg j, false, t⟩ := rf rfl
theorem y_mka {j i : Nat} {l : Bool} {t : T} : mkK j (some (some ⟨.arg i, l, t⟩)) = ⟨.arg j, false, t⟩ := rf rfl
def pbK (o : Option (Option Sl)) (i : Nat) (rs : List R) (t : T) (ts : List T) (τ : TSt) (P : TSt → Prop) : Prop := match o with
    | some (some ⟨.frz, _, _⟩) => putB rs ts τ P
    | some (some ⟨k, false, _⟩) => putB rs ts (τ.set i (some ⟨k, false, t⟩)) P
    | some (some ⟨_, true, u⟩) => u = t ∧ putB rs ts τ P
    | _ => False
def vne (i : Nat) (r : R) : Bool := match r with | .var j => !(i == j) | _ => true
def kpK (k : Kd) (j : Nat) (o : Option (Option Sl)) : Prop := match k with
    | .frz => True
    | _ => match o with
      | some (some ⟨.arg m, _, _⟩) => m = j
      | _ => False
def lckK (o : Option (Option Sl)) (l : Bool) (i : Nat) (τ : TSt) : TSt := match o with
  | some (some s) => τ.set i (some ⟨s.k, l, s.t⟩)
  | _ => τ
def unK (o : Option (Option Sl)) (i : Nat) (τ2 : TSt) : TSt := match o with
    | some (some s) => lckT s.l i τ2
    | _ => τ2
/-! ### the small words, by what they are given -/
section
variable {τ : TSt} {i j m b : Nat} {k : Bool} {t x u : T} {rs : List R} {ts : List T} {as : List Sl} {s : Sl} {l : Bool} {P : TSt → Prop}
theorem y_tv : (R.val k t).t τ = t := rf rfl
theorem y_tn : (R.var i).t τ = slK2 τ[i]? := rf rfl
theorem y_slT : slT τ i = slK2 τ[i]? := rf rfl
theorem y_set {s : Sl} : setS τ i s P = (canS τ[i]? = true ∧ P (τ.set i (some s))) := rf rfl
theorem y_mkN : mkA τ j [] = [] := rf rfl
theorem y_mkV : mkA τ j (.val k t :: rs) = ⟨.frz, false, t⟩ :: mkA τ (j + 1) rs := rf rfl
theorem y_mkn : mkA τ j (.var i :: rs) = mkK j τ[i]? :: mkA τ (j + 1) rs := rf rfl
theorem y_pbV : putB (.val k t :: rs) (x :: ts) τ P = putB rs ts τ P := rf rfl
theorem y_pbn : putB (.var i :: rs) (x :: ts) τ P = pbK τ[i]? i rs x ts τ P := rf rfl
theorem y_pbN : putB [] ts τ P = P τ := rf (by unfold putB; rfl)
theorem y_pbf : pbK (some (some ⟨.frz, l, u⟩)) i rs x ts τ P = putB rs ts τ P := rf rfl
theorem y_pbo : pbK (some (some ⟨.own, false, u⟩)) i rs x ts τ P = putB rs ts (τ.set i (some ⟨.own, false, x⟩)) P := rf rfl
theorem y_pba : pbK (some (some ⟨.arg j, false, u⟩)) i rs x ts τ P = putB rs ts (τ.set i (some ⟨.arg j, false, x⟩)) P := rf rfl
theorem y_pbl : pbK (some (some ⟨.own, true, u⟩)) i rs x ts τ P = (u = x ∧ putB rs ts τ P) := rf rfl
theorem y_pbm : pbK (some (some ⟨.arg j, true, u⟩)) i rs x ts τ P = (u = x ∧ putB rs ts τ P) := rf rfl
theorem y_voN : varsOk [] = true := rf rfl
theorem y_voV : varsOk (.val k t :: rs) = varsOk rs := rf rfl
theorem y_von : varsOk (.var i :: rs) = ((rs.all (vne i)) && varsOk rs) := rf rfl
theorem y_vnV : vne i (.val k t) = true := rf rfl
theorem y_vnn : vne i (.var j) = !(i == j) := rf rfl
theorem y_out : outA as τ = outN τ 0 as := rf rfl
theorem y_onN : outN τ j [] = [] := rf (by unfold outN; rfl)
theorem y_onC : outN τ j (s :: as) = slT τ j :: outN τ (j + 1) as := rf (by conv => lhs; unfold outN)
theorem y_st : startT m as = as.map some ++ List.replicate (m - as.length) none := rf rfl
theorem y_kp : keptA as τ = keptN τ 0 as := rf rfl
theorem y_kpN : keptN τ j [] = True := rf (by unfold keptN; rfl)
theorem y_kpC : keptN τ j (s :: as) = (kpK s.k j τ[j]? ∧ keptN τ (j + 1) as) := by
  conv => lhs; unfold keptN
  unfold kpK
  cases s.k <;> rfl
theorem y_kpf {o : Option (Option Sl)} : kpK .frz j o = True := rf rfl
theorem y_kpa : kpK (.arg i) j (some (some ⟨.arg m, l, t⟩)) = (m = j) := rf rfl
theorem y_lkN : lck none τ = τ := rf rfl
theorem y_lkS : lck (some i) τ = lckK τ[i]? true i τ := rf rfl
theorem y_lkT : lckT l i τ = lckK τ[i]? l i τ := rf rfl
theorem y_lks : lckK (some (some s)) l i τ = τ.set i (some ⟨s.k, l, s.t⟩) := rf rfl
theorem y_unN {τ1 : TSt} : unl none τ1 τ = τ := rf rfl
theorem y_unS {τ1 : TSt} : unl (some i) τ1 τ = unK τ1[i]? i τ := rf rfl
theorem y_uns : unK (some (some s)) i τ = lckT s.l i τ := rf rfl
theorem y_wN : wipeT τ [] = τ := rf (by unfold wipeT; rfl)
theorem y_bN {τ1 : TSt} : backT τ τ1 [] = τ1 := rf (by unfold backT; rfl)
theorem y_bC {τ1 : TSt} {v : Nat} {vs : List Nat} : backT τ τ1 (v :: vs) = (backT τ τ1 vs).set v ((τ[v]?).getD none) := rf (by conv => lhs; unfold backT)
theorem y_wC {v : Nat} {vs : List Nat} : wipeT τ (v :: vs) = (wipeT τ vs).set v none := rf (by conv => lhs; unfold wipeT)
end
/-! ### loops, their source found -/
def forT (g : TTG) (tb : TTS) (D : TEnds) (ts : List T) (u : Lk) (τ1 : TSt) : Prop := ∃ Pv : Nat → TSt → Prop, Pv 0 (lck u τ1) ∧
  (∀ i t τ2, ts[i]? = some t → Pv i τ2 → g t τ2 fun τ3 => tb { D with nx := Pv (i + 1), ct := Pv (i + 1), bk := fun τ4 => D.nx (unl u τ1 τ4) } τ3) ∧ ∀ τ2, Pv ts.length τ2 → D.nx (unl u τ1 τ2)
theorem ttFor_eq {ti : TTI} {g : TTG} {tb : TTS} {D : TEnds} {τ : TSt} : ttFor ti g tb D τ = ti τ (@box _ ⟨fun ts u τ1 => forT g tb D ts u τ1⟩) := rf rfl
theorem forT_p {α : Type} {ts : List T} {u : Lk} {τ1 : TSt} {g : TTG} {tb : TTS} {D : TEnds} (st : α → TSt) (I : Nat → α → Prop) (a0 : α) (e0 : lck u τ1 = st a0) (h0 : I 0 a0)
    (h : ∀ i t a, ts[i]? = some t → I i a → g t (st a) (@box _ ⟨fun τ3 => tb (loopD (fun τ' => ∃ a', τ' = st a' ∧ I (i + 1) a') (@box _ ⟨fun τ4 => D.nx (unl u τ1 τ4)⟩) D) τ3⟩))
    (hd : ∀ a, I ts.length a → D.nx (unl u τ1 (st a))) : forT g tb D ts u τ1 := for_p st I a0 e0 h0 h hd
def lcT (g : TTG) (tt : TTT) (te : TTE) (vs : List Nat) (P : R → TSt → Prop) (ts : List T) (u : Lk) (τ1 : TSt) : Prop := (∀ v ∈ vs, frzAt (lck u τ1) v) ∧ ∃ Pv : Nat → List T → TSt → Prop, Pv 0 [] (wipeT (lck u τ1) vs) ∧
  (∀ i t acc τ2, ts[i]? = some t → Pv i acc τ2 → g t τ2 fun τ3 => tt τ3 fun b τ4 =>
    if b = true then te τ4 fun r τ5 => frzR r τ5 fun y τ6 => acc.length < sizeLine ∧ Pv (i + 1) (acc ++ [y]) (wipeT τ6 vs) else Pv (i + 1) acc (wipeT τ4 vs)) ∧
  ∀ acc τ2, Pv ts.length acc τ2 → P (.val true (.lst acc)) (unl u τ1 (backT (lck u τ1) τ2 vs))
theorem ttLc_eq {ti : TTI} {g : TTG} {tt : TTT} {te : TTE} {vs : List Nat} {τ : TSt} {P : R → TSt → Prop} : ttLc ti g tt te vs τ P = ti τ (@box _ ⟨fun ts u τ1 => lcT g tt te vs P ts u τ1⟩) := rf rfl
theorem frzAt_none {τ : TSt} {i : Nat} (h : τ[i]? = some none) : frzAt τ i := by unfold frzAt; rw [h]; trivial
theorem frzAt_some {τ : TSt} {i : Nat} {t : T} (h : τ[i]? = some (some ⟨.frz, false, t⟩)) : frzAt τ i := by unfold frzAt; rw [h]; trivial
/-- a comprehension whose turns change nothing -/
theorem lcT_p {ts : List T} {u : Lk} {τ1 : TSt} {g : TTG} {tt : TTT} {te : TTE} {vs : List Nat} {P : R → TSt → Prop} (f : T → Option T) (hf : ∀ v ∈ vs, frzAt (lck u τ1) v) (hl : ts.length ≤ sizeLine)
    (h : ∀ t ∈ ts, g t (wipeT (lck u τ1) vs) (@box _ ⟨fun τ3 => tt τ3 (@box _ ⟨fun b τ4 => cnd b (@box _ ⟨fun _ => te τ4 (@box _ ⟨fun r τ5 => frzR r τ5 (@box _ ⟨fun y τ6 => f t = some y ∧ wipeT τ6 vs = wipeT (lck u τ1) vs⟩)⟩)⟩) (@box _ ⟨fun _ => f t = none ∧ wipeT τ4 vs = wipeT (lck u τ1) vs⟩)⟩)⟩))
    (hd : P (.val true (.lst (ts.filterMap f))) (unl u τ1 (backT (lck u τ1) (wipeT (lck u τ1) vs) vs))) : lcT g tt te vs P ts u τ1 :=
  ⟨hf, lc_pure (Q := fun acc τ2 => P (.val true (.lst acc)) (unl u τ1 (backT (lck u τ1) τ2 vs))) f hl h hd⟩
theorem lcT_m {ts : List T} {u : Lk} {τ1 : TSt} {g : TTG} {te : TTE} {vs : List Nat} {P : R → TSt → Prop} (f : T → T) (hf : ∀ v ∈ vs, frzAt (lck u τ1) v) (hl : ts.length ≤ sizeLine)
    (h : ∀ t ∈ ts, g t (wipeT (lck u τ1) vs) (@box _ ⟨fun τ3 => te τ3 (@box _ ⟨fun r τ5 => frzR r τ5 (@box _ ⟨fun y τ6 => f t = y ∧ wipeT τ6 vs = wipeT (lck u τ1) vs⟩)⟩)⟩))
    (hd : P (.val true (.lst (ts.map f))) (unl u τ1 (backT (lck u τ1) (wipeT (lck u τ1) vs) vs))) : lcT g ttYes te vs P ts u τ1 :=
  ⟨hf, lc_map (Q := fun acc τ2 => P (.val true (.lst acc)) (unl u τ1 (backT (lck u τ1) τ2 vs))) f hl h hd⟩
theorem intsT_map {ns : List Int} {k : List Int → Prop} : intsT (ns.map T.int) k = k ns := by
  apply propext
  constructor
  · rintro ⟨ms, e, h⟩
    rw [map_int_inj.mp e]
    exact h
  · exact fun h => ⟨ns, rfl, h⟩
theorem blsT_map {ns : List Bool} {k : List Bool → Prop} : blsT (ns.map T.bl) k = k ns := by
  apply propext
  constructor
  · rintro ⟨ms, e, h⟩
    rw [map_bl_inj.mp e]
    exact h
  · exact fun h => ⟨ns, rfl, h⟩
/-- while, by a family of states -/
theorem while_b {α : Type} {c : TTT} {tb : TTS} {D : TEnds} {τ : TSt} (st : α → TSt) (I : α → Prop) (μ : α → Nat) (a0 : α) (e0 : τ = st a0) (h0 : I a0)
    (h : ∀ a, I a → c (st a) (@box _ ⟨fun b τ1 => cnd b (@box _ ⟨fun _ => tb (loopD (fun τ' => ∃ a', τ' = st a' ∧ I a' ∧ μ a' < μ a) D.nx D) τ1⟩) (@box _ ⟨fun _ => D.nx τ1⟩)⟩)) : ttWhile c tb D τ := while_p st I μ a0 e0 h0 h
/-- a slot that holds nothing, or an owned value -/
def ofO (o : Option T) : Option Sl := o.map fun t => ⟨.own, false, t⟩
theorem canS_ofO {o : Option T} : canS (some (ofO o)) = true := by cases o <;> rfl
theorem ofO_none : ofO none = none := rf rfl
theorem ofO_some {t : T} : ofO (some t) = some ⟨.own, false, t⟩ := rf rfl
/-- a slot that holds nothing, a frozen or an owned value -/
def ofE (o : Option (Bool × T)) : Option Sl := o.map fun p => ⟨if p.1 = true then .own else .frz, false, p.2⟩
theorem canS_ofE {o : Option (Bool × T)} : canS (some (ofE o)) = true := by
  rcases o with _ | ⟨b, t⟩
  · rfl
  · cases b <;> rfl
theorem ofE_none : ofE none = none := rfl
theorem ofE_f {t : T} : ofE (some (false, t)) = some ⟨.frz, false, t⟩ := rfl
theorem ofE_o {t : T} : ofE (some (true, t)) = some ⟨.own, false, t⟩ := rfl
theorem atI_4 {α : Type} {x y z u v : α} {xs : List α} : atI (x :: y :: z :: u :: v :: xs) 4 = some v := atI_nat (j := 4) rfl
theorem atI_5 {α : Type} {x y z u v w : α} {xs : List α} : atI (x :: y :: z :: u :: v :: w :: xs) 5 = some w := atI_nat (j := 5) rfl
theorem isi_int_non  : isiT "int" .non = some false := rf rfl
theorem isi_int_bl {b : Bool} : isiT "int" (.bl b) = some true := rf rfl
theorem isi_int_int {i : Int} : isiT "int" (.int i) = some true := rf rfl
theorem isi_int_str {x : Str} : isiT "int" (.str x) = some false := rf rfl
theorem isi_int_tup {ts : List T} : isiT "int" (.tup ts) = some false := rf rfl
theorem isi_int_lst {ts : List T} : isiT "int" (.lst ts) = some false := rf rfl
theorem isi_bool_non  : isiT "bool" .non = some false := rf rfl
theorem isi_bool_bl {b : Bool} : isiT "bool" (.bl b) = some true := rf rfl
theorem isi_bool_int {i : Int} : isiT "bool" (.int i) = some false := rf rfl
theorem isi_bool_str {x : Str} : isiT "bool" (.str x) = some false := rf rfl
theorem isi_bool_tup {ts : List T} : isiT "bool" (.tup ts) = some false := rf rfl
theorem isi_bool_lst {ts : List T} : isiT "bool" (.lst ts) = some false := rf rfl
theorem isi_str_non  : isiT "str" .non = some false := rf rfl
theorem isi_str_bl {b : Bool} : isiT "str" (.bl b) = some false := rf rfl
theorem isi_str_int {i : Int} : isiT "str" (.int i) = some false := rf rfl
theorem isi_str_str {x : Str} : isiT "str" (.str x) = some true := rf rfl
theorem isi_str_tup {ts : List T} : isiT "str" (.tup ts) = some false := rf rfl
theorem isi_str_lst {ts : List T} : isiT "str" (.lst ts) = some false := rf rfl
theorem isi_tuple_non  : isiT "tuple" .non = some false := rf rfl
theorem isi_tuple_bl {b : Bool} : isiT "tuple" (.bl b) = some false := rf rfl
theorem isi_tuple_int {i : Int} : isiT "tuple" (.int i) = some false := rf rfl
theorem isi_tuple_str {x : Str} : isiT "tuple" (.str x) = some false := rf rfl
theorem isi_tuple_tup {ts : List T} : isiT "tuple" (.tup ts) = some true := rf rfl
theorem isi_tuple_lst {ts : List T} : isiT "tuple" (.lst ts) = some false := rf rfl
theorem isi_list_non  : isiT "list" .non = some false := rf rfl
theorem isi_list_bl {b : Bool} : isiT "list" (.bl b) = some false := rf rfl
theorem isi_list_int {i : Int} : isiT "list" (.int i) = some false := rf rfl
theorem isi_list_str {x : Str} : isiT "list" (.str x) = some false := rf rfl
theorem isi_list_tup {ts : List T} : isiT "list" (.tup ts) = some false := rf rfl
theorem isi_list_lst {ts : List T} : isiT "list" (.lst ts) = some true := rf rfl
/-! ### readings met by what they are given -/
theorem q_add_0 {i j : Int}{k : Bool → T → Prop} : (addT (.int i) (.int j) k) = (k false (.int (i + j))) := rf rfl
theorem q_add_1 {x y : Str}{k : Bool → T → Prop} : (addT (.str x) (.str y) k) = (x.length + y.length ≤ sizeLine ∧ k false (.str (x ++ y))) := rf rfl
theorem q_add_2 {xs ys : List T}{k : Bool → T → Prop} : (addT (.lst xs) (.lst ys) k) = (xs.length + ys.length ≤ sizeLine ∧ k true (.lst (xs ++ ys))) := rf rfl
theorem q_add_3 {xs ys : List T}{k : Bool → T → Prop} : (addT (.tup xs) (.tup ys) k) = (xs.length + ys.length ≤ sizeLine ∧ k false (.tup (xs ++ ys))) := rf rfl
theorem q_sub_0 {i j : Int}{k : Bool → T → Prop} : (subT (.int i) (.int j) k) = (True ∧ k false (.int (i - j))) := rf rfl
theorem q_mul_0 {i j : Int}{k : Bool → T → Prop} : (mulT (.int i) (.int j) k) = (MulOk i j ∧ k false (.int (i * j))) := rf rfl
theorem q_mul_1 {xs : List T} {j : Int}{k : Bool → T → Prop} : (mulT (.lst xs) (.int j) k) = ((-(2 ^ 63) ≤ j ∧ j < 2 ^ 63 ∧ xs.length * j.toNat ≤ sizeLine) ∧ k true (.lst (List.replicate j.toNat xs).flatten)) := rf rfl
theorem q_fdiv_0 {i j : Int}{k : Bool → T → Prop} : (fdivT (.int i) (.int j) k) = ((0 < j ∧ j.natAbs.log2 < 9000) ∧ k false (.int (i / j))) := rf rfl
theorem q_mod_0 {i j : Int}{k : Bool → T → Prop} : (modT (.int i) (.int j) k) = (0 < j ∧ k false (.int (i % j))) := rf rfl
theorem q_pow_0 {i j : Int}{k : Bool → T → Prop} : (powT (.int i) (.int j) k) = ((0 ≤ j ∧ j ≤ 1000000 ∧ i.natAbs < 2 ^ 64) ∧ k false (.int (i ^ j.toNat))) := rf rfl
theorem q_shl_0 {i j : Int}{k : Bool → T → Prop} : (shlT (.int i) (.int j) k) = ((0 ≤ j ∧ j ≤ 1000000 ∧ i.natAbs < 2 ^ 64) ∧ k false (.int (i * 2 ^ j.toNat))) := rf rfl
theorem q_lt_0 {i j : Int}{k : Bool → T → Prop} : (ltT (.int i) (.int j) k) = (k false (.bl (decide (i < j)))) := rf rfl
theorem q_le_0 {i j : Int}{k : Bool → T → Prop} : (leT (.int i) (.int j) k) = (k false (.bl (decide (i ≤ j)))) := rf rfl
theorem q_gt_0 {i j : Int}{k : Bool → T → Prop} : (gtT (.int i) (.int j) k) = (k false (.bl (decide (j < i)))) := rf rfl
theorem q_ge_0 {i j : Int}{k : Bool → T → Prop} : (geT (.int i) (.int j) k) = (k false (.bl (decide (j ≤ i)))) := rf rfl
theorem q_eq_0 {i j : Int}{k : Bool → T → Prop} : (eqT (.int i) (.int j) k) = (k false (.bl (decide (i = j)))) := by unfold eqT; rw [eo_int, eo_int, ev_int]; simp
theorem q_ne_0 {i j : Int}{k : Bool → T → Prop} : (neT (.int i) (.int j) k) = (k false (.bl (!decide (i = j)))) := by unfold neT; rw [eo_int, eo_int, ev_int]; simp
theorem q_eq_1 {i j : Bool}{k : Bool → T → Prop} : (eqT (.bl i) (.bl j) k) = (k false (.bl (decide (i = j)))) := by unfold eqT; rw [eo_bl, eo_bl, ev_bl]; simp
theorem q_ne_1 {i j : Bool}{k : Bool → T → Prop} : (neT (.bl i) (.bl j) k) = (k false (.bl (!decide (i = j)))) := by unfold neT; rw [eo_bl, eo_bl, ev_bl]; simp
theorem q_eq_2 {ns ms : List Int}{k : Bool → T → Prop} : (eqT (.lst (ns.map T.int)) (.lst (ms.map T.int)) k) = (k false (.bl (decide (ns = ms)))) := by unfold eqT; rw [eo_ints, eo_ints, ev_ints]; simp
theorem q_ne_2 {ns ms : List Int}{k : Bool → T → Prop} : (neT (.lst (ns.map T.int)) (.lst (ms.map T.int)) k) = (k false (.bl (!decide (ns = ms)))) := by unfold neT; rw [eo_ints, eo_ints, ev_ints]; simp
theorem q_eq_3 {ns ms : List Int}{k : Bool → T → Prop} : (eqT (.tup (ns.map T.int)) (.tup (ms.map T.int)) k) = (k false (.bl (decide (ns = ms)))) := by unfold eqT; rw [eo_intsT, eo_intsT, ev_intsT]; simp
theorem q_ne_3 {ns ms : List Int}{k : Bool → T → Prop} : (neT (.tup (ns.map T.int)) (.tup (ms.map T.int)) k) = (k false (.bl (!decide (ns = ms)))) := by unfold neT; rw [eo_intsT, eo_intsT, ev_intsT]; simp
theorem q_is_0 {b : Bool}{o : Bool}{k : Bool → T → Prop} : (isT o (.bl b) .non k) = (k false (.bl o)) := by cases o <;> rfl
theorem q_is_1 {o : Bool}{k : Bool → T → Prop} : (isT o .non .non k) = (k false (.bl (!o))) := by cases o <;> rfl
theorem q_is_2 {i : Int}{o : Bool}{k : Bool → T → Prop} : (isT o (.int i) .non k) = (k false (.bl o)) := by cases o <;> rfl
theorem q_is_3 {x : Str}{o : Bool}{k : Bool → T → Prop} : (isT o (.str x) .non k) = (k false (.bl o)) := by cases o <;> rfl
theorem q_is_4 {xs : List T}{o : Bool}{k : Bool → T → Prop} : (isT o (.tup xs) .non k) = (k false (.bl o)) := by cases o <;> rfl
theorem q_is_5 {xs : List T}{o : Bool}{k : Bool → T → Prop} : (isT o (.lst xs) .non k) = (k false (.bl o)) := by cases o <;> rfl
theorem q_is_6 {a b o : Bool}{k : Bool → T → Prop} : (isT o (.bl a) (.bl b) k) = (k false (.bl (o != decide (a = b)))) := rf rfl
theorem q_in_0 {ns : List Int} {n : Int} {o : Bool}{k : Bool → T → Prop} : (inT o (.int n) (.lst (ns.map T.int)) k) = (k false (.bl (o != decide (n ∈ ns)))) := by unfold inT; simp only [eo_int, eo_ints, any_int]; simp
theorem q_in_1 {ns : List Int} {n : Int} {o : Bool}{k : Bool → T → Prop} : (inT o (.int n) (.tup (ns.map T.int)) k) = (k false (.bl (o != decide (n ∈ ns)))) := by unfold inT; simp only [eo_int, eo_intsT, any_int]; simp
theorem q_in_2 {ks : List Key} {ts : List T} {n : Int} {o : Bool}{k : Bool → T → Prop} : (inT o (.int n) (.dct ks ts) k) = (k false (.bl (o != kMem (Sum.inl n) ks))) := rf rfl
theorem q_ix_0 {ts : List T}{i : Int}{k : T → Prop} : (ixT (.lst ts) (.int i) k) = (∃ t, atI ts i = some t ∧ k t) := rf rfl
theorem q_ix_1 {ts : List T}{i : Int}{k : T → Prop} : (ixT (.tup ts) (.int i) k) = (∃ t, atI ts i = some t ∧ k t) := rf rfl
theorem q_ix_2 {ns : List Int}{i : Int}{k : T → Prop} : (ixT (.scr ns) (.int i) k) = (∃ n, atI ns i = some n ∧ k (.int n)) := rf rfl
theorem q_ix_3 {z : Str}{i : Int}{k : T → Prop} : (ixT (.str z) (.int i) k) = (z.length ≤ sizeLine ∧ ∃ c, atI z.cps.toList i = some c ∧ k (.str ⟨#[c]⟩)) := rf rfl
theorem q_sl_0 {ts : List T}{lo hi : Option Int}{k : Bool → T → Prop} : (slT' (.lst ts) lo hi k) = (k true (.lst (cutT ts lo hi))) := rf rfl
theorem q_sl_1 {ts : List T}{lo hi : Option Int}{k : Bool → T → Prop} : (slT' (.tup ts) lo hi k) = (k false (.tup (cutT ts lo hi))) := rf rfl
theorem q_sl_2 {ns : List Int}{lo hi : Option Int}{k : Bool → T → Prop} : (slT' (.scr ns) lo hi k) = (k true (.lst (cutT (ns.map T.int) lo hi))) := rf rfl
theorem q_sl_3 {z : Str}{lo hi : Option Int}{k : Bool → T → Prop} : (slT' (.str z) lo hi k) = (z.length ≤ sizeLine ∧ k false (.str (cutS z lo hi))) := rf rfl
theorem q_len_0 {ts : List T}{k : Bool → T → Prop} : (lenT (.lst ts) k) = (k false (.int ts.length)) := rf rfl
theorem q_len_1 {ts : List T}{k : Bool → T → Prop} : (lenT (.tup ts) k) = (k false (.int ts.length)) := rf rfl
theorem q_len_2 {ns : List Int}{k : Bool → T → Prop} : (lenT (.scr ns) k) = (k false (.int ns.length)) := rf rfl
theorem q_len_3 {z : Str}{k : Bool → T → Prop} : (lenT (.str z) k) = (z.length ≤ sizeLine ∧ k false (.int z.length)) := rf rfl
theorem q_list_0 {ts : List T}{k : Bool → T → Prop} : (listT (.lst ts) k) = (k true (.lst ts)) := rf rfl
theorem q_list_1 {ts : List T}{k : Bool → T → Prop} : (listT (.tup ts) k) = (k true (.lst ts)) := rf rfl
theorem q_list_2 {ns : List Int}{k : Bool → T → Prop} : (listT (.scr ns) k) = (k true (.lst (ns.map T.int))) := rf rfl
theorem q_tuple_0 {ts : List T}{k : Bool → T → Prop} : (tupleT (.lst ts) k) = (k false (.tup ts)) := rf rfl
theorem q_tuple_1 {ts : List T}{k : Bool → T → Prop} : (tupleT (.tup ts) k) = (k false (.tup ts)) := rf rfl
theorem q_tuple_2 {ns : List Int}{k : Bool → T → Prop} : (tupleT (.scr ns) k) = (k false (.tup (ns.map T.int))) := rf rfl
theorem q_int_0 {i : Int}{k : Bool → T → Prop} : (intC (.int i) k) = (k false (.int i)) := rf rfl
theorem q_int_1 {b : Bool}{k : Bool → T → Prop} : (intC (.bl b) k) = (k false (.int (TL.b2i b))) := rf rfl
theorem q_sum_0 {ts : List T}{k : Bool → T → Prop} : (sumT (.lst ts) k) = (intsT ts fun ns => k false (.int ns.sum)) := rf rfl
theorem q_all_0 {ts : List T}{k : Bool → T → Prop} : (allT (.lst ts) k) = (blsT ts fun bs => k false (.bl (bs.all _root_.id))) := rf rfl
theorem q_any_0 {ts : List T}{k : Bool → T → Prop} : (anyT (.lst ts) k) = (blsT ts fun bs => k false (.bl (bs.any _root_.id))) := rf rfl
theorem q_sorted_0 {ts : List T}{k : Bool → T → Prop} : (sortedT (.lst ts) k) = (intsT ts fun ns => k true (.lst ((srt ns).map T.int))) := rf rfl
theorem q_max2_0 {i j : Int}{k : Bool → T → Prop} : (max2T [.int i, .int j] k) = (k false (.int (if j > i then j else i))) := rf rfl
theorem q_min2_0 {i j : Int}{k : Bool → T → Prop} : (min2T [.int i, .int j] k) = (k false (.int (if j < i then j else i))) := rf rfl
theorem q_neg_0 {i : Int}{k : Bool → T → Prop} : (negT (.int i) k) = (k false (.int (-i))) := rf rfl
theorem q_append_0 {us : List T}{x : T}{k : T → T → Prop} : (appendG (.lst us) [x] k) = (us.length < sizeLine ∧ k (.lst (us ++ [x])) .non) := rf rfl
theorem q_extend_0 {us xs : List T}{k : T → T → Prop} : (extendG (.lst us) [.lst xs] k) = (us.length + xs.length ≤ sizeLine ∧ k (.lst (us ++ xs)) .non) := rf rfl
theorem q_insert_0 {us : List T}{x : T}{i : Int}{k : T → T → Prop} : (insertG (.lst us) [.int i, x] k) = ((us.length < sizeLine ∧ 0 ≤ i ∧ i < 2 ^ 63) ∧ k (.lst (us.take i.toNat ++ [x] ++ us.drop i.toNat)) .non) := rf rfl
theorem q_seq_0 {ts : List T}{k : List T → Prop} : (seqI (.lst ts) k) = (k ts) := rf rfl
theorem q_seq_1 {ts : List T}{k : List T → Prop} : (seqI (.tup ts) k) = (k ts) := rf rfl
theorem q_seq_2 {ns : List Int}{k : List T → Prop} : (seqI (.scr ns) k) = (k (ns.map T.int)) := rf rfl
theorem q_rev_0 {ts : List T}{k : List T → Prop} : (revI (.lst ts) k) = (k ts.reverse) := rf rfl
theorem q_rev_1 {ts : List T}{k : List T → Prop} : (revI (.tup ts) k) = (k ts.reverse) := rf rfl
theorem q_zip_0 {xs ys : List T}{k : List T → Prop} : (zipI (.lst xs) (.lst ys) k) = (k (List.zipWith (fun x y => T.tup [x, y]) xs ys)) := rf rfl
theorem q_zip_1 {xs ys : List T}{k : List T → Prop} : (zipI (.tup xs) (.tup ys) k) = (k (List.zipWith (fun x y => T.tup [x, y]) xs ys)) := rf rfl
theorem q_setG_0 {ts : List T}{i : Int}{v : T}{k : T → Prop} : (setG (.lst ts) (.int i) v k) = (∃ j, ixN ts.length i = some j ∧ k (.lst (ts.set j v))) := rf rfl
theorem q_setG_1 {ks : List Key}{ts : List T}{i : Int}{v : T}{k : T → Prop} : (setG (.dct ks ts) (.int i) v k) = (ks.length < sizeLine ∧ k (.dct (dPutK ks (Sum.inl i)) (dPutV ks ts (Sum.inl i) v))) := by simp [setG, keyT]
end TL

namespace TL
open PySem L2
theorem _root_.L2.Room.units65 {k : Nat} {A : Around} (r : Room k A) : A.units + 65 < cLine := by have := r.un; omega
def cls0 : String → Addr := fun _ => 0
/-- the law's own call -/
theorem law_sp {K : PySem.W.Frag} {cls : String → Addr} {S : TSp} {E : XK} (H : Hp) (a : Addr) (ns : List Int) (hl : ns.length ≤ 63) (ho : Only H) (hS : SqL K H a (ns.map V.int))
    (h : S [⟨.frz, false, .scr ns⟩] (fun r _ => r = .val false (.bl true)) fun _ _ => False) : liftSp K cls S [.ref a] H (fun v _ => v = .bl true) E := by
  have rp : Rep K H (.scr ns) (.ref a) := ⟨a, rfl, hS, Nat.le_trans hl (by decide)⟩
  have one : ∀ {j : Nat} {s : Sl}, ([⟨.frz, false, .scr ns⟩] : List Sl)[j]? = some s → j = 0 ∧ s = ⟨.frz, false, .scr ns⟩ := fun {j s} e => by
    cases j with
    | zero => cases e; exact ⟨rfl, rfl⟩
    | succ j => simp at e
  refine ⟨H, _, _, _, ⟨fun _ _ e => e, rfl, fun j s e => ?_, fun j s v e1 e2 hk => ?_, fun j s v e1 e2 hk => ?_, fun i j b e1 e2 => ?_⟩, h, fun r ts F' H' v hr _ rc => ?_, fun _ _ _ _ h _ => h.elim⟩
  · obtain ⟨rfl, rfl⟩ := one e
    rfl
  · obtain ⟨rfl, rfl⟩ := one e1
    cases e2
    exact rp
  · obtain ⟨rfl, rfl⟩ := one e1
    exact absurd rfl hk
  · cases i with
    | zero => cases e1
    | succ i => simp [argA] at e1
  · subst hr
    exact rc
/-- a comprehension whose turns change what stands, by a family of states -/
theorem lcT_f {α : Type} {ts : List T} {u : Lk} {τ1 : TSt} {g : TTG} {tt : TTT} {te : TTE} {vs : List Nat} {P : R → TSt → Prop} (st : α → TSt) (I : Nat → List T → α → Prop) (a0 : α) (hf : ∀ v ∈ vs, frzAt (lck u τ1) v) (e0 : wipeT (lck u τ1) vs = st a0) (h0 : I 0 [] a0)
    (h : ∀ i t acc a, ts[i]? = some t → I i acc a → g t (st a) (@box _ ⟨fun τ3 => tt τ3 (@box _ ⟨fun b τ4 => cnd b (@box _ ⟨fun _ => te τ4 (@box _ ⟨fun r τ5 => frzR r τ5 (@box _ ⟨fun y τ6 => acc.length < sizeLine ∧ ∃ a', wipeT τ6 vs = st a' ∧ I (i + 1) (acc ++ [y]) a'⟩)⟩)⟩) (@box _ ⟨fun _ => ∃ a', wipeT τ4 vs = st a' ∧ I (i + 1) acc a'⟩)⟩)⟩))
    (hd : ∀ acc a, I ts.length acc a → P (.val true (.lst acc)) (unl u τ1 (backT (lck u τ1) (st a) vs))) : lcT g tt te vs P ts u τ1 :=
  ⟨hf, fun i acc τ => ∃ a, τ = st a ∧ I i acc a, ⟨a0, e0, h0⟩, fun i t acc τ2 ht ⟨a, e, ha⟩ => by subst e; exact h i t acc a ht ha, fun acc τ2 ⟨a, e, ha⟩ => by subst e; exact hd acc a ha⟩
/-! ### ints chosen from ints -/
def intF (p : Int → Bool) (g : Int → Int) (t : T) : Option T := match t with
  | .int i => if p i = true then some (.int (g i)) else none
  | _ => none
theorem intF_y {p : Int → Bool} {g : Int → Int} {i : Int} (h : p i = true) : intF p g (.int i) = some (.int (g i)) := by simp [intF, h]
theorem intF_n {p : Int → Bool} {g : Int → Int} {i : Int} (h : p i = false) : intF p g (.int i) = none := by simp [intF, h]
theorem fm_ints {p : Int → Bool} {g : Int → Int} : ∀ {xs : List Int}, (xs.map T.int).filterMap (intF p g) = ((xs.filter p).map g).map T.int
  | [] => rfl
  | x :: xs => by
    rw [List.map_cons, List.filterMap_cons, List.filter_cons]
    cases h : p x with
    | true => rw [intF_y h, if_pos rfl]; simp only [fm_ints, List.map_cons]
    | false => rw [intF_n h, if_neg (by simp)]; simp only [fm_ints]
def rngI (lo : Int) (n : Nat) : List Int := (List.range n).map fun k : Nat => lo + k
theorem rngT_ints {lo : Int} {n : Nat} : rngT lo n = (rngI lo n).map T.int := by
  unfold rngT rngI
  rw [List.map_map]
  rfl
theorem fm_rng {p : Int → Bool} {g : Int → Int} {lo : Int} {n : Nat} : (rngT lo n).filterMap (intF p g) = (((rngI lo n).filter p).map g).map T.int := by rw [rngT_ints, fm_ints]
theorem rngI_len {lo : Int} {n : Nat} : (rngI lo n).length = n := by simp [rngI]
theorem fil_len {p : Int → Bool} {g : Int → Int} {lo : Int} {n : Nat} : (((rngI lo n).filter p).map g).length ≤ n := by
  rw [List.length_map]
  exact Nat.le_trans (List.length_filter_le _ _) (by rw [rngI_len]; exact Nat.le_refl _)
theorem all_true {ts : List T} {k : Bool → T → Prop} : allT (.lst (ts.map fun _ => T.bl true)) k = k false (.bl true) := by
  rw [q_all_0, show (ts.map fun _ => T.bl true) = (ts.map fun _ => true).map T.bl by rw [List.map_map]; rfl, blsT_map]
  congr 2
  simp
theorem atI_bl {bs : List Bool} {j : Int} (h0 : 0 ≤ j) (h1 : j < bs.length) : atI (bs.map T.bl) j = some (.bl (bs.getD j.toNat false)) := by
  rw [atI_map, atI_some h0 h1]
  simp only [Option.map_some]
  rw [List.getD_eq_getElem?_getD, List.getElem?_eq_getElem (by omega)]
  rfl
theorem bls_true {ts : List T} {k : List Bool → Prop} : blsT (ts.map fun _ => T.bl true) k = k (ts.map fun _ => true) := by
  rw [show (ts.map fun _ => T.bl true) = (ts.map fun _ => true).map T.bl by rw [List.map_map]; rfl, blsT_map]
theorem all_id_true {ts : List T} : (ts.map fun _ => true).all _root_.id = true := by simp
end TL

namespace TL
open PySem L2
section
variable {X : Cx}
def absT : C1 := fun t k => match t with
  | .int i => k false (.int (if i < 0 then -i else i))
  | _ => False
theorem c_abs : CalT1 X (.builtin "abs") absT := by
  refine ⟨_, call_abs, fun F H x t G Q s r hg k => ?_⟩
  cases t with
  | int i =>
    rw [r.int]
    exact ⟨i, rfl, k false _ _ F H hg (Grow.refl s) rfl⟩
  | _ => exact hg.elim
theorem q_abs_0 {i : Int} {k : Bool → T → Prop} : absT (.int i) k = k false (.int (if i < 0 then -i else i)) := rf rfl
end
/-! ### maps of ints -/
def itF (g : Int → Int) (t : T) : T := match t with
  | .int i => .int (g i)
  | t => t
def blF (p : Int → Bool) (t : T) : T := match t with
  | .int i => .bl (p i)
  | t => t
theorem map_itF {g : Int → Int} {xs : List Int} : (xs.map T.int).map (itF g) = (xs.map g).map T.int := by
  rw [List.map_map, List.map_map]
  rfl
theorem map_blF {p : Int → Bool} {xs : List Int} : (xs.map T.int).map (blF p) = (xs.map p).map T.bl := by
  rw [List.map_map, List.map_map]
  rfl
theorem cut_drop {xs : List T} {n : Nat} : cutT xs (some (n : Int)) none = xs.drop n := by
  unfold cutT
  rw [HT.sIx_nat xs.length 0 n, HT.sIx_none]
  by_cases h : n ≤ xs.length
  · rw [Nat.min_eq_left h]
    exact List.take_of_length_le (by rw [List.length_drop]; exact Nat.le_refl _)
  · rw [Nat.min_eq_right (by omega), List.drop_of_length_le (Nat.le_refl _), List.drop_of_length_le (by omega)]
    simp
/-- the first that is met -/
theorem find_no {α : Type} {p : α → Bool} {xs : List α} {i : Nat} {x : α} (h : (xs.take i).find? p = none) (hx : xs[i]? = some x) (hp : p x = false) : (xs.take (i + 1)).find? p = none := by
  rw [List.take_add_one, hx, List.find?_append, h]
  simp [hp]
theorem find_yes {α : Type} {p : α → Bool} {xs : List α} {i : Nat} {x : α} (h : (xs.take i).find? p = none) (hx : xs[i]? = some x) (hp : p x = true) : xs.find? p = some x := by
  have e : xs = xs.take i ++ xs.drop i := (List.take_append_drop i xs).symm
  have hi : i < xs.length := (List.getElem?_eq_some_iff.mp hx).1
  have e2 : xs.drop i = x :: xs.drop (i + 1) := by
    rw [List.drop_eq_getElem_cons hi]
    rw [List.getElem?_eq_getElem hi] at hx
    cases hx
    rfl
  rw [e, List.find?_append, h, e2, List.find?_cons_of_pos hp]
  rfl
theorem sorted_drop {xs : List Int} {k : Nat} {x y : Int} (hs : xs.Pairwise (· < ·)) (hx : xs[k]? = some x) : y ∈ xs.drop (k + 1) ↔ (y ∈ xs ∧ x < y) := by
  have hi : k < xs.length := (List.getElem?_eq_some_iff.mp hx).1
  have ex : xs[k] = x := by rw [List.getElem?_eq_getElem hi] at hx; exact Option.some.inj hx
  rw [List.pairwise_iff_getElem] at hs
  constructor
  · intro h
    obtain ⟨j, hj, e⟩ := List.mem_iff_getElem.mp h
    rw [List.getElem_drop] at e
    rw [List.length_drop] at hj
    refine ⟨List.mem_of_mem_drop h, ?_⟩
    have := hs k (k + 1 + j) hi (by omega) (by omega)
    rw [← e, ← ex]
    exact this
  · rintro ⟨h, hlt⟩
    obtain ⟨j, hj, e⟩ := List.mem_iff_getElem.mp h
    have hk : k < j := by
      rcases Nat.lt_trichotomy j k with q | q | q
      · have := hs j k hj hi q
        omega
      · subst q
        omega
      · exact q
    rw [List.mem_iff_getElem]
    refine ⟨j - (k + 1), by rw [List.length_drop]; omega, ?_⟩
    rw [List.getElem_drop]
    rw [← e]
    congr 1
    omega
theorem sorted_drop0 {xs : List Int} {k : Nat} {x y : Int} (hs : xs.Pairwise (· < ·)) (hx : xs[k]? = some x) : y ∈ xs.drop k ↔ (y ∈ xs ∧ x ≤ y) := by
  have hi : k < xs.length := (List.getElem?_eq_some_iff.mp hx).1
  have ex : xs[k] = x := by rw [List.getElem?_eq_getElem hi] at hx; exact Option.some.inj hx
  rw [List.drop_eq_getElem_cons hi, List.mem_cons, sorted_drop hs hx, ex]
  constructor
  · rintro (rfl | ⟨h1, h2⟩)
    · exact ⟨List.mem_of_getElem? hx, Int.le_refl _⟩
    · exact ⟨h1, by omega⟩
  · rintro ⟨h1, h2⟩
    by_cases e : y = x
    · exact .inl e
    · exact .inr ⟨h1, by omega⟩
theorem pw_snoc {xs : List Int} {x : Int} (hs : xs.Pairwise (· < ·)) (h : ∀ y ∈ xs, y < x) : (xs ++ [x]).Pairwise (· < ·) := by
  rw [List.pairwise_append]
  exact ⟨hs, List.pairwise_singleton _ _, fun a ha b hb => by rw [List.mem_singleton.mp hb]; exact h a ha⟩
end TL

namespace TL
open PySem PySem.W L2
section
variable {X : Cx}
def rMaxTD (K : PySem.W.Frag) : List V → Hp → VK → Prop := fun xs H Q => ∃ x d ds m, xs = [x] ∧ Dp K H x (.tuple (d :: ds)) ∧ AlikeAll (d :: ds) ∧ PyData.depthAll (d :: ds) ≤ 60 ∧ maxD d ds = .int m ∧ Q (.int m) H
theorem cr_maxTD (hc : X.calm = true) (hu : X.A.units + 64 < cLine) : CallR X (.builtin "max") (rMaxTD X.K) := by
  intro pins s σ H vs us Q I r h
  obtain ⟨x, d, ds, m, rfl, hd, ha, hp, hm, q⟩ := h
  cases hd with
  | tup hs hall =>
    rw [Vals.ref1 r]
    obtain ⟨its, rv, hl, _⟩ := I.tuple hs
    obtain ⟨as, hr⟩ := Dp.readsAll I _ _ its hall rv
    refine PySem.W.max_tuple_data (vs := its.toArray) (I.ok.hd hc) hl (by simpa using hr) ha (by omega) fun i v h' tk bs hv rd hk => ?_
    rw [hm] at rd
    cases rd with
    | int _ t => exact ⟨.int m, H, I.kept hk, ⟨t, rfl⟩, q⟩
def maxI (n : Int) (ns : List Int) : Int := ns.foldl (fun a b => if a < b then b else a) n
def maxT : C1 := fun t k => match t with
  | .tup ts => ∃ (n : Int) (ns : List Int), ts = (n :: ns).map T.int ∧ k false (.int (maxI n ns))
  | _ => False
theorem Ds_ints : ∀ ns : List Int, T.Ds (ns.map T.int) = ns.map PyData.int
  | [] => rfl
  | n :: ns => by rw [List.map_cons, List.map_cons, T.Ds, Ds_ints ns]; rfl
theorem maxD_ints : ∀ (n : Int) (ns : List Int), maxD (.int n) (ns.map PyData.int) = .int (maxI n ns)
  | n, [] => rfl
  | n, m :: ns => by
    have := maxD_ints (if n < m then m else n) ns
    unfold maxD maxI at this ⊢
    rw [List.map_cons, List.foldl_cons, List.foldl_cons, ← this]
    congr 1
    by_cases h : n < m
    · simp [dataLt_int, h]
    · simp [dataLt_int, h]
theorem dAll_ints : ∀ ns : List Int, PyData.depthAll (ns.map PyData.int) = 0
  | [] => by simp [PyData.depthAll]
  | n :: ns => by simp [PyData.depthAll, PyData.depth, dAll_ints ns]
theorem c_maxT (hc : X.calm = true) (hu : X.A.units + 64 < cLine) : CalT1 X (.builtin "max") maxT := by
  refine ⟨_, cr_maxTD hc hu, fun F H x t G Q s r hg k => ?_⟩
  cases t with
  | tup ts =>
    obtain ⟨n, ns, rfl, hg⟩ := hg
    have ok : eqOk (.tup ((n :: ns).map T.int)) = true := eo_intsT
    have dp := r.dp s (Bool.and_eq_true_iff.mp ok).1
    refine ⟨x, .int n, ns.map PyData.int, maxI n ns, rfl, ?_, ⟨?_, ?_⟩, ?_, maxD_ints n ns, k false _ _ F H hg (Grow.refl s) rfl⟩
    · have e : (T.tup ((n :: ns).map T.int)).D = .tuple (.int n :: ns.map PyData.int) := by rw [T.D, Ds_ints]; rfl
      rw [← e]
      exact dp
    · intro a ha b hb
      have h1 : ∀ a ∈ (PyData.int n :: ns.map PyData.int), ∃ i, a = .int i := fun a ha => by
        rcases List.mem_cons.mp ha with h | h
        · exact ⟨n, h⟩
        · obtain ⟨i, _, rfl⟩ := List.mem_map.mp h
          exact ⟨i, rfl⟩
      obtain ⟨i, rfl⟩ := h1 a ha
      obtain ⟨j, rfl⟩ := h1 b hb
      rfl
    · intro a ha
      rcases List.mem_cons.mp ha with h | h
      · rw [h]; exact fun h => by cases h
      · obtain ⟨i, _, rfl⟩ := List.mem_map.mp h
        exact fun h => by cases h
    · have := dAll_ints (n :: ns)
      rw [List.map_cons] at this
      rw [this]
      decide
  | _ => exact hg.elim
theorem q_maxT_0 {n : Int} {ns : List Int} {k : Bool → T → Prop} : maxT (.tup ((n :: ns).map T.int)) k = k false (.int (maxI n ns)) := by
  apply propext
  constructor
  · rintro ⟨m, ms, e, h⟩
    have := map_int_inj.mp e
    cases this
    exact h
  · exact fun h => ⟨n, ns, rfl, h⟩
theorem maxI_ge : ∀ (n : Int) (ns : List Int), n ≤ maxI n ns ∧ ∀ x ∈ ns, x ≤ maxI n ns
  | n, [] => ⟨Int.le_refl _, fun x h => by cases h⟩
  | n, m :: ns => by
    obtain ⟨h1, h2⟩ := maxI_ge (if n < m then m else n) ns
    have e : maxI n (m :: ns) = maxI (if n < m then m else n) ns := rfl
    rw [e]
    have hq : n ≤ (if n < m then m else n) ∧ m ≤ (if n < m then m else n) := by split <;> omega
    refine ⟨by omega, fun x hx => ?_⟩
    rcases List.mem_cons.mp hx with rfl | hx
    · omega
    · exact h2 x hx
theorem maxI_mem : ∀ (n : Int) (ns : List Int), maxI n ns ∈ n :: ns
  | n, [] => List.mem_cons_self
  | n, m :: ns => by
    have h := maxI_mem (if n < m then m else n) ns
    have e : maxI n (m :: ns) = maxI (if n < m then m else n) ns := rfl
    rw [e]
    rcases List.mem_cons.mp h with h | h
    · rw [h]
      split
      · exact List.mem_cons_of_mem _ List.mem_cons_self
      · exact List.mem_cons_self
    · exact List.mem_cons_of_mem _ (List.mem_cons_of_mem _ h)
end
end TL

namespace TL
open PySem PySem.W PySem.Spec PyProof.Rows L2
open AutoSeq1 (wpAny_loadPart')
/-- enumerate of a tuple, as it is made -/
theorem meets_enum_tup (l : Addr) (items : Array Value) (n : Nat) (dct : Option Addr) (sl : Array (Option Value)) :
    Meets (Builtin.«enumerate.__new__» ⟨[.type "enumerate", .ref l], []⟩) (fun _ R s => s.heap.get? l = some { cls := .type "tuple", dict := dct, data := .seq items n, slots := sl } ∧
      R (.ok (.ret (.ref (s.heap.push { cls := .type "tuple_iterator", data := .fields #[.ref l, .int 0 0] }).objs.size)))
        { s with heap := (s.heap.push { cls := .type "tuple_iterator", data := .fields #[.ref l, .int 0 0] }).push { cls := .type "enumerate", data := .fields #[.none, .bool false, .ref s.heap.objs.size, rawInt 0, .none, .none] } }) :=
  .of_wp fun prog w A R s h => by
    obtain ⟨hp, g, d, tk, os⟩ := s; obtain ⟨hl, h⟩ := h
    have hsub := sub_enumerate
    have hL : Heap.IsTuple (Shared.heap ⟨hp, g, d, tk, os⟩) l items := ⟨_, hl, rfl, n, rfl⟩
    wp_walk using wpAny_loadPart' hl
    refine wpAny_stack_any fun st => wpAny_pure ?_
    split
    · rename_i c _ _ _ _ _
      cases (c == Value.type "enumerate")
      · wp_walk using wpAny_loadPart' hl, wpAny_pyIter_tuple hL
        exact ⟨_, rfl, h⟩
      · wp_walk using wpAny_loadPart' hl, wpAny_pyIter_tuple hL
        exact ⟨_, rfl, h⟩
    · wp_walk using wpAny_loadPart' hl, wpAny_pyIter_tuple hL
      exact ⟨_, rfl, h⟩
theorem call_enum_tup {prog : Program} {w : World} {A : Around} {E : Value → Shared → Prop} {s : Shared} {l : Addr} {items : Array Value} {Q : Value → Shared → Prop} (hL : s.heap.IsTuple l items)
    (h : ∀ h', IsEnum h' (s.heap.objs.size + 1) s.heap.objs.size 0 .none → h'.IsTupleIter s.heap.objs.size l 0 → h'.objs.size = s.heap.objs.size + 2 →
      (∀ b o, s.heap.get? b = some o → h'.get? b = some o) → Q (.ref (s.heap.objs.size + 1)) { s with heap := h' }) :
    wpAny (model prog w) A (call (.type "enumerate") [.ref l]) Q E s := by
  obtain ⟨⟨c, dct, dt, sl⟩, hl, hc, n, hd⟩ := hL
  replace hc : c = .type "tuple" := hc
  replace hd : dt = .seq items n := hd
  subst hc hd
  refine callType_new F.called_enumerate (by decide) (F.typeCall_enumerate_1 _) (F.newCall_enumerate_1 _) (fun obj => F.args_object_init_2 obj _) F.entry_enumerate_new
    (meets_enum_tup l items n dct sl) ⟨hl, ?_⟩
  have hz : (s.heap.push { cls := .type "tuple_iterator", data := .fields #[.ref l, .int 0 0] }).objs.size = s.heap.objs.size + 1 := Heap.size_push ..
  show _ ∧ _
  rw [hz]
  have he : IsEnum ((s.heap.push { cls := .type "tuple_iterator", data := .fields #[.ref l, .int 0 0] }).push
      { cls := .type "enumerate", data := .fields #[.none, .bool false, .ref s.heap.objs.size, rawInt 0, .none, .none] }) (s.heap.objs.size + 1) s.heap.objs.size 0 .none := by
    have := Heap.get?_push_size (s.heap.push { cls := .type "tuple_iterator", data := .fields #[.ref l, .int 0 0] })
      (o := { cls := .type "enumerate", data := .fields #[.none, .bool false, .ref s.heap.objs.size, rawInt 0, .none, .none] }) rfl
    rw [hz] at this; exact this
  refine ⟨⟨_, he, rfl⟩, h _ he ⟨_, Heap.get?_push_of_some _ (Heap.get?_push_size _ rfl), rfl, rfl⟩ (by rw [Heap.size_push, hz]) fun b o x => Heap.get?_push_of_some _ (Heap.get?_push_of_some _ x)⟩
/-! ### walks that hand out new tuples: any such walk of the library's is one of ours -/
/-- at turn i a new tuple of such values, while A stands; n turns -/
def Itw (n : Nat) (A : Hp → Prop) (Pv : Nat → Hp → List V → Prop) : It :=
  ⟨fun i H => i < n ∧ A H, fun i H v H' => ∃ T vs, v = .ref T ∧ H T = none ∧ vs.length ≤ sizeLine ∧ H' = upd H T (.tup vs) ∧ Pv i H vs, fun i H => i = n ∧ A H⟩
theorem turn_gn {P : Program} {w : World} {K : PySem.W.Frag} {tg : Expr} {n : Nat} {A : Hp → Prop} {Pv : Nat → Hp → List V → Prop} {I : Addr} {ft wr : List Addr} {tn : Nat → Heap → Prop}
    (mem : I ∈ ft) (sub : ∀ b ∈ wr, b ∈ ft) (obj : ∀ i h, tn i h → ∀ b ∈ ft, ∃ o, h.get? b = some o ∧ ∀ v, o.data ≠ .cell v) (keep : ∀ i h h', tn i h → (∀ b ∈ ft, ∀ o, h.get? b = some o → h'.get? b = some o) → tn i h')
    (wk : ∀ (X : Cx), X.prog = P → X.w = w → X.K = K → X.calm = true → ∀ (i : Nat) (pins : List (Addr × Obj)) (s : Shared) (σ : L2.St) (H : Hp), Inv X pins σ H s → tn i s.heap → A H →
      ∃ (Y : Nat → Heap → Value → Heap → Prop) (St : Nat → Heap → Prop) (fp : List Addr), GoesN P w X.A tg I fp wr n Y St ∧ St i s.heap ∧ (∀ h', St (i + 1) h' → tn (i + 1) h') ∧
        ∀ v h', Y i s.heap v h' → ∃ T us vs, v = .ref T ∧ s.heap.objs.size ≤ T ∧ h'.IsTuple T (List.toArray us) ∧ Vals vs us ∧ vs.length ≤ sizeLine ∧ Pv i H vs)
    (self : ∀ (A : Around) (i : Nat) (s : Shared) (Q : Value → Shared → Prop) (E : Value → Shared → Prop), tn i s.heap → Q (.ref I) s → wpAny (model P w) A (pyIter (.ref I)) Q E s) :
    Turn P w K tg (Itw n A Pv) ft I tn where
  mem := mem
  obj := obj
  keep := keep
  self := self
  item := by
    intro X hP hw hK hc i pins s σ H E J hf st hg
    subst hP hw hK
    obtain ⟨hi, hA⟩ := hg
    obtain ⟨Y, St, fp, G, hs, nx, yl⟩ := wk X rfl rfl rfl hc i pins s σ H J st hA
    have lt : ∀ b ∈ ft, b < s.heap.objs.size := fun b hb => by
      obtain ⟨o, e, _⟩ := obj i _ st b hb
      exact Heap.lt_size e
    refine wpAny_mono (G.goes i s (fun v s2 => ∃ x H', Inv X pins σ H' s2 ∧ RelV x v ∧ (Itw n A Pv).yld i H x H' ∧ tn (i + 1) s2.heap ∧ ∀ b ∈ ft, H' b = none) E hi hs fun v h' tk hY hS hk _ => ?_) (fun r s1 ⟨v, e, q⟩ => ⟨v, e, q⟩) fun _ _ e => e
    obtain ⟨T, us, vs, rfl, hT, tup, rv, hl, pv⟩ := yl v h' hY
    have nT : H T = none := J.hok.fresh hT
    have ok : ObjOk X.prog X.w (upd H T (.tup vs)) h' T (.tup vs) := ⟨hl, us, rv, tup⟩
    have J2 : Inv X pins σ (upd H T (.tup vs)) { s with heap := h', toks := tk } := J.turnedNew (ch := wr) (t' := tk) hk (fun b hb => hf b (sub b hb)) hT ok
    refine ⟨.ref T, _, J2, rfl, ⟨T, vs, rfl, nT, hl, rfl, pv⟩, nx h' hS, fun b hb => ?_⟩
    rw [upd_ne (Nat.ne_of_lt (Nat.lt_of_lt_of_le (lt b hb) hT))]
    exact (hf b hb).1
  done := by
    intro X hP hw hK hc i pins s σ H E J hf st hg
    subst hP hw hK
    obtain ⟨rfl, hA⟩ := hg
    obtain ⟨Y, St, fp, G, hs, _, _⟩ := wk X rfl rfl rfl hc i pins s σ H J st hA
    refine G.stops s (fun s1 => Inv X pins σ H s1) E hs fun h' tk hk _ => ?_
    have out : ∀ b u, H b = some u → b ∉ wr := fun b u e z => by
      rw [(hf b (sub b z)).1] at e
      cases e
    refine J.step (g' := s.gens) (d' := s.drawn) (ch := wr) ?_ (fun b o _ _ hc e _ => hk b o hc e) (fun b o _ _ hc e _ => ⟨_, hk b o hc e⟩) (fun _ _ _ _ n => n) (fun b o hc e => ⟨o, hk b o hc e⟩) (fun _ _ e => e) (fun _ _ _ e => e) (fun b ps e => ⟨#[], by simpa using e⟩) ?_ ?_ J.bare
    · intro b hb
      obtain ⟨_, f1, _, f3, f4, f5⟩ := hf b (sub b hb)
      exact ⟨f3, f1, f4, f5⟩
    · rintro m ⟨o, es, ep, ho, r⟩
      exact ⟨o, es, ep, hk _ o (fun z => (hf _ (sub _ z)).2.1 rfl) ho, r⟩
    · intro b u e
      refine (J.hok b u e).stay (fun c v hc q => hk c v ?_ q) (fun _ q => q) fun _ _ q => q
      cases hc with
      | inl z => rw [z]; exact out b u e
      | inr z => exact out c _ z
/-! ### a list or a tuple as a source -/
def SrcK (K : PySem.W.Frag) (b : Bool) (H : Hp) (a : Addr) (xs : List V) : Prop := if b = true then SqL K H a xs else SqT K H a xs
def itr (b : Bool) (h : Heap) (it a : Addr) (i : Nat) : Prop := if b = true then h.IsListIter it a i else h.IsTupleIter it a i
def sqn (b : Bool) (h : Heap) (a : Addr) (items : Array Value) : Prop := if b = true then h.IsList a items else h.IsTuple a items
theorem itr_obj {b : Bool} {h : Heap} {it a : Addr} {i : Nat} (x : itr b h it a i) : ∃ o, h.get? it = some o ∧ ∀ v, o.data ≠ .cell v := by
  unfold itr at x
  split at x
  · obtain ⟨o, e, _, d⟩ := x
    exact ⟨o, e, fun v z => by rw [d] at z; cases z⟩
  · obtain ⟨o, e, _, d⟩ := x
    exact ⟨o, e, fun v z => by rw [d] at z; cases z⟩
theorem itr_keep {b : Bool} {h h' : Heap} {it a : Addr} {i : Nat} (x : itr b h it a i) (k : ∀ o, h.get? it = some o → h'.get? it = some o) : itr b h' it a i := by
  unfold itr at x ⊢
  split
  · rename_i e
    rw [if_pos e] at x
    exact x.at k
  · rename_i e
    rw [if_neg e] at x
    exact x.at k
theorem itr_ne {b : Bool} {h : Heap} {it a : Addr} {i : Nat} {items : Array Value} (x : itr b h it a i) (y : sqn b h a items) : a ≠ it := fun z => by
  subst z
  unfold itr at x
  unfold sqn at y
  split at x
  · rename_i e
    rw [if_pos e] at y
    obtain ⟨o1, h1, c1, _⟩ := x
    obtain ⟨o2, h2, c2, _⟩ := y
    rw [h1] at h2
    cases h2
    rw [c1] at c2
    injection c2 with c2
    exact absurd c2 (by decide)
  · rename_i e
    rw [if_neg e] at y
    obtain ⟨o1, h1, c1, _⟩ := x
    obtain ⟨o2, h2, c2, _⟩ := y
    rw [h1] at h2
    cases h2
    rw [c1] at c2
    injection c2 with c2
    exact absurd c2 (by decide)
theorem draws_b {P : Program} {w : World} {A : Around} (b : Bool) (hh : A.handled = none) (it a : Addr) (hne : a ≠ it) (items : Array Value) :
    Draws P w A it [it, a] items.size (fun i v => items[i]? = some v) (fun i h => itr b h it a i ∧ sqn b h a items) := by
  cases b with
  | true => exact Draws.list hh it a hne items
  | false => exact Draws.tuple hh it a hne items
section
variable {X : Cx} {pins : List (Addr × Obj)} {σ : L2.St} {H : Hp} {s : Shared}
theorem src_get {b : Bool} {a : Addr} {xs : List V} (I : Inv X pins σ H s) (h : SrcK X.K b H a xs) : ∃ its, Vals xs its ∧ sqn b s.heap a its.toArray := by
  cases b with
  | true =>
    obtain ⟨its, rv, p, _⟩ := I.list h
    exact ⟨its, rv, p.isList⟩
  | false =>
    obtain ⟨its, rv, p, _⟩ := I.tuple h
    exact ⟨its, rv, p⟩
theorem src_inj {b : Bool} {a : Addr} {xs ys : List V} (I : Inv X pins σ H s) (h : SrcK X.K b H a xs) (h' : SrcK X.K b H a ys) : xs = ys := by
  cases b with
  | true => exact I.list_inj h h'
  | false => exact I.tuple_inj h h'
theorem src_at {xs : List V} {its : List Value} {i : Nat} {v : Value} (r : Vals xs its) (h : its.toArray[i]? = some v) : ∃ x, xs[i]? = some x ∧ RelV x v := by
  rw [List.getElem?_toArray] at h
  have hl := r.length
  have hi : i < xs.length := by
    have := (List.getElem?_eq_some_iff.mp h).1
    omega
  obtain ⟨u, hu, ru⟩ := r.get (List.getElem?_eq_getElem hi)
  rw [h] at hu
  cases hu
  exact ⟨_, List.getElem?_eq_getElem hi, ru⟩
end
/-! ### enumerate -/
theorem turn_en {P : Program} {w : World} {K : PySem.W.Frag} {elts : List Expr} {kk : Nat} {tpos : Pos} (b : Bool) (a e it : Addr) (n : Nat) :
    Turn P w K (.Tuple elts kk tpos) (Itw n (fun H => ∃ xs, SrcK K b H a xs ∧ xs.length = n) fun i H vs => ∃ x, vs = [.int (i : Nat), x] ∧ ∀ xs, SrcK K b H a xs → xs[i]? = some x) [e, it] e
      (fun i h => (∃ old, IsEnum h e it ((0 : Int) + (i : Nat)) old) ∧ itr b h it a i ∧ e ≠ it) := by
  refine turn_gn (wr := [e, it]) (by simp) (fun _ z => z) (fun i h st c hc => ?_) (fun i h h' st k => ?_) (fun X hP hw hK hc i pins s σ H J st hA => ?_) fun A i s Q E st h => ?_
  · obtain ⟨⟨old, he⟩, hi, _⟩ := st
    rcases (show c = e ∨ c = it by simpa using hc) with z | z
    · rw [z]; exact ⟨_, he, fun v q => nomatch q⟩
    · rw [z]; exact itr_obj hi
  · obtain ⟨⟨old, he⟩, hi, ne⟩ := st
    exact ⟨⟨old, k e (by simp) _ he⟩, itr_keep hi fun o q => k it (by simp) o q, ne⟩
  · subst hP hw hK
    obtain ⟨⟨old, he⟩, hi, ne⟩ := st
    obtain ⟨xs, hx, hn⟩ := hA
    obtain ⟨its, rv, p⟩ := src_get J hx
    have hai := itr_ne hi p
    have hae : e ≠ a := fun z => by
      subst z
      unfold sqn at p
      split at p
      all_goals
        obtain ⟨o2, h2, c2, _⟩ := p
        rw [show s.heap.get? e = some _ from he] at h2
        cases h2
        injection c2 with c2
        exact absurd c2 (by decide)
    have en : its.toArray.size = n := by rw [List.size_toArray, ← rv.length, hn]
    have G := GoesN.enumFrom (prog := X.prog) (w := X.w) (elts := elts) (x1 := kk) (pos := tpos) 0 (draws_b b (show X.A.in1.handled = none from by simp [J.ok.hd hc]) it a hai its.toArray) e ne (by simp [ne, hae]) (by simp)
    rw [en] at G
    refine ⟨_, _, _, G, ?_, ?_, ?_⟩
    · exact ⟨⟨old, he⟩, hi, p⟩
    · intro h' hs'
      exact ⟨hs'.1, hs'.2.1, ne⟩
    rintro v h' ⟨T, t, x, rfl, hT, hx', tup⟩
    obtain ⟨y, hy, ry⟩ := src_at rv hx'
    rw [Int.zero_add] at tup
    exact ⟨T, _, [.int (i : Nat), y], rfl, hT, tup, .cons ⟨t, rfl⟩ (.cons ry .nil), by show 2 ≤ sizeLine; decide, y, rfl, fun ys hys => by rw [src_inj J hys hx]; exact hy⟩
  · obtain ⟨⟨old, he⟩, _⟩ := st
    exact wpAny_pyIter_enum he h
def iEnB (K : PySem.W.Frag) (te : TE) : TI := fun σ H R => te σ H fun v H1 => ∃ (b : Bool) (a : Addr) (xs : List V), v = .ref a ∧ SrcK K b H1 a xs ∧
  R (Itw xs.length (fun H => ∃ ys, SrcK K b H a ys ∧ ys.length = xs.length) fun i H vs => ∃ x, vs = [.int (i : Nat), x] ∧ ∀ ys, SrcK K b H a ys → ys[i]? = some x) H1
section
variable {X : Cx} {B : Bs}
theorem pi_en {e : Expr} {te : TE} {p pos tpos : Pos} {elts : List Expr} {kk : Nat} (hg : Gl X "enumerate") (hm : X.mg "enumerate" = none) (he : PE X e te) (hs : starEach [e] X.env = (false, eval e X.env) :: starEach [] X.env := by rfl) :
    PI X (.Tuple elts kk tpos) (.Call (.Name "enumerate" p) [e] [] pos) (iEnB X.K te) := by
  refine ⟨fun pins s σ H R I h => ?_⟩
  refine Call_ (ld_blt I hg hm boot_enumerate (PyProof.Rows.callWith_type1 (args_cons (thn (he.run pins s σ H _ I h) fun u s1 ⟨v, H1, I1, r1, q1⟩ => args_nil ?_) hs) hs rfl))
  obtain ⟨b, a, xs, ev, hq, q⟩ := q1
  subst ev
  obtain rfl : u = Value.ref a := r1
  have fin : ∀ c ∈ [s1.heap.objs.size + 1, s1.heap.objs.size], s1.heap.objs.size ≤ c := fun c z => by
    rcases (show c = s1.heap.objs.size + 1 ∨ c = s1.heap.objs.size by simpa using z) with z | z
    · rw [z]; exact Nat.le_add_right _ _
    · rw [z]; exact Nat.le_refl _
  have go : ∀ h', IsEnum h' (s1.heap.objs.size + 1) s1.heap.objs.size 0 .none → itr b h' s1.heap.objs.size a 0 → (∀ c o, s1.heap.get? c = some o → h'.get? c = some o) →
      wpAny (model X.prog X.w) X.A (pyIter (.ref (s1.heap.objs.size + 1))) (PIE X pins σ (.Tuple elts kk tpos) R) X.xe { s1 with heap := h' } := fun h' he hi hk => by
    have I2 : Inv X pins σ H1 { s1 with heap := h' } := I1.kept (t' := s1.toks) hk
    refine wpAny_pyIter_enum he ⟨_, _, _, _, H1, rfl, I2, turn_en b a (s1.heap.objs.size + 1) s1.heap.objs.size xs.length, ⟨⟨.none, he⟩, hi, Nat.succ_ne_self _⟩, fun c hc => ?_, q⟩
    exact I1.fpOk (fin c hc) (I1.hok.fresh (fin c hc))
  obtain ⟨its, rv, p'⟩ := src_get I1 hq
  cases b with
  | true => exact call_enumerate_list p' fun h' he hi _ hk => go h' he hi hk
  | false => exact call_enum_tup p' fun h' he hi _ hk => go h' he hi hk
/-! ### zip of two lists or tuples -/
theorem turn_zp {P : Program} {w : World} {K : PySem.W.Frag} {elts : List Expr} {kk : Nat} {tpos : Pos} (b1 b2 : Bool) (a1 a2 z TI TO i1 i2 : Addr) (n : Nat) (S : ZipSep2 z TI TO i1 i2 [i1, a1] [i2, a2]) :
    Turn P w K (.Tuple elts kk tpos) (Itw n (fun H => ∃ xs ys, SrcK K b1 H a1 xs ∧ SrcK K b2 H a2 ys ∧ min xs.length ys.length = n) fun i H vs => ∃ x y, vs = [x, y] ∧ (∀ xs, SrcK K b1 H a1 xs → xs[i]? = some x) ∧ ∀ ys, SrcK K b2 H a2 ys → ys[i]? = some y) [z, TI, TO, i1, i2] z
      (fun i h => IsZip h z TI TO .none ∧ IsTupOf2 h TI (.ref i1) (.ref i2) ∧ (∃ x y, IsTupOf2 h TO x y) ∧ itr b1 h i1 a1 i ∧ itr b2 h i2 a2 i) := by
  refine turn_gn (ft := [z, TI, TO, i1, i2]) (wr := [z, TO, i1, i2]) (by simp) (fun c q => by
    simp only [List.mem_cons, List.not_mem_nil, or_false] at q ⊢
    rcases q with q | q | q | q <;> simp [q]) (fun i h st c hc => ?_) (fun i h h' st k => ?_) (fun X hP hw hK hc i pins s σ H J st hA => ?_) fun A i s Q E st h => ?_
  · obtain ⟨q1, q2, ⟨x, y, q3⟩, q4, q5⟩ := st
    simp only [List.mem_cons, List.not_mem_nil, or_false] at hc
    rcases hc with q | q | q | q | q
    · rw [q]; exact ⟨_, q1, fun v q => nomatch q⟩
    · rw [q]; exact ⟨_, q2, fun v q => nomatch q⟩
    · rw [q]; exact ⟨_, q3, fun v q => nomatch q⟩
    · rw [q]; exact itr_obj q4
    · rw [q]; exact itr_obj q5
  · obtain ⟨q1, q2, ⟨x, y, q3⟩, q4, q5⟩ := st
    exact ⟨k z (by simp) _ q1, k TI (by simp) _ q2, ⟨x, y, k TO (by simp) _ q3⟩, itr_keep q4 fun o q => k i1 (by simp) o q, itr_keep q5 fun o q => k i2 (by simp) o q⟩
  · subst hP hw hK
    obtain ⟨q1, q2, q3, q4, q5⟩ := st
    obtain ⟨xs, ys, hx, hy, hn⟩ := hA
    obtain ⟨us, ru, pu⟩ := src_get J hx
    obtain ⟨ws, rw', pw⟩ := src_get J hy
    have hh : X.A.in1.handled = none := by simp [J.ok.hd hc]
    have G := GoesN.zip2 (prog := X.prog) (w := X.w) (elts := elts) (x1 := kk) (pos := tpos) S (draws_b b1 hh i1 a1 (itr_ne q4 pu) us.toArray) (draws_b b2 hh i2 a2 (itr_ne q5 pw) ws.toArray)
    rw [show min us.toArray.size ws.toArray.size = n by rw [List.size_toArray, List.size_toArray, ← ru.length, ← rw'.length, hn]] at G
    refine ⟨_, _, _, G, ?_, ?_, ?_⟩
    · exact ⟨q1, q2, q3, ⟨q4, pu⟩, q5, pw⟩
    · intro h' hs'
      exact ⟨hs'.1, hs'.2.1, hs'.2.2.1, hs'.2.2.2.1.1, hs'.2.2.2.2.1⟩
    · rintro v h' ⟨T, x, y, rfl, hT, hx', hy', tup⟩
      obtain ⟨x', ex, rx⟩ := src_at ru hx'
      obtain ⟨y', ey, ry⟩ := src_at rw' hy'
      exact ⟨T, _, _, rfl, hT, tup, .cons rx (.cons ry .nil), by show 2 ≤ sizeLine; decide, x', y', rfl, fun zs hz => by rw [src_inj J hz hx]; exact ex, fun zs hz => by rw [src_inj J hz hy]; exact ey⟩
  · exact wpAny_pyIter_zip st.1 h
def iZpB (K : PySem.W.Frag) (ta : TA) : TI := fun σ H R => ta σ H fun vs H2 => ∃ (b1 b2 : Bool) (a1 a2 : Addr) (xs ys : List V), vs = [.ref a1, .ref a2] ∧ SrcK K b1 H2 a1 xs ∧ SrcK K b2 H2 a2 ys ∧
  R (Itw (min xs.length ys.length) (fun H => ∃ xs' ys', SrcK K b1 H a1 xs' ∧ SrcK K b2 H a2 ys' ∧ min xs'.length ys'.length = min xs.length ys.length) fun i H vs => ∃ x y, vs = [x, y] ∧ (∀ xs, SrcK K b1 H a1 xs → xs[i]? = some x) ∧ ∀ ys, SrcK K b2 H a2 ys → ys[i]? = some y) H2
def itO (b : Bool) (a : Addr) : Obj := if b = true then { cls := .type "list_iterator", data := .fields #[.ref a, .int 0 0] } else { cls := .type "tuple_iterator", data := .fields #[.ref a, .int 0 0] }
theorem begins_b (b : Bool) (a : Addr) (items : Array Value) : Begins (.ref a) (itO b a) fun h => sqn b h a items := by
  cases b with
  | true => exact begins_list a items
  | false => exact begins_tuple a items
theorem itr_new {b : Bool} {h : Heap} {it a : Addr} (e : h.get? it = some (itO b a)) : itr b h it a 0 := by
  cases b with
  | true => exact ⟨_, e, rfl, rfl⟩
  | false => exact ⟨_, e, rfl, rfl⟩
theorem sqn_lt {b : Bool} {h : Heap} {a : Addr} {items : Array Value} (p : sqn b h a items) : a < h.objs.size := by
  unfold sqn at p
  split at p
  all_goals
    obtain ⟨o, e, _⟩ := p
    exact Heap.lt_size e
theorem pi_zp {X : Cx} {e f : Expr} {ta : TA} {p pos tpos : Pos} {elts : List Expr} {kk : Nat} (hg : Gl X "zip") (hm : X.mg "zip" = none) (ha : PA X [e, f] ta)
    (hs : starEach [e, f] X.env = (false, eval e X.env) :: starEach [f] X.env := by rfl) (hl : (backTo pos (starEach [f] X.env)).any (·.1) = false := by rfl) :
    PI X (.Tuple elts kk tpos) (.Call (.Name "zip" p) [e, f] [] pos) (iZpB X.K ta) := by
  refine ⟨fun pins s σ H R I h => ?_⟩
  refine Call_ (ld_blt I hg hm PyProof.Rows.boot_zip (PyProof.Rows.callWith_type1 (thn (ha.run pos pins s σ H _ I h) fun us s1 ⟨vs, H1, I1, r1, q1⟩ => ?_) hs hl))
  obtain ⟨b1, b2, a1, a2, xs, ys, rfl, hx, hy, q⟩ := q1
  cases r1 with
  | cons e1 r1 =>
  cases r1 with
  | cons e2 r1 =>
  cases r1
  cases e1
  cases e2
  obtain ⟨us, ru, pu⟩ := src_get I1 hx
  obtain ⟨ws, rw', pw⟩ := src_get I1 hy
  refine zip_begins2 (begins_b b1 a1 us.toArray) (begins_b b2 a2 ws.toArray) pu pw fun h' g1 g2 g3 g4 g5 _ hk => wpAny_pyIter_zip g1 ?_
  have I2 : Inv X pins σ H1 { s1 with heap := h' } := I1.kept (t' := s1.toks) hk
  have S := zip_sep2 (N := s1.heap.objs.size) (fp1 := [a1]) (fp2 := [a2]) (fun b hb => by rw [List.mem_singleton.mp hb]; exact sqn_lt pu) (fun b hb => by rw [List.mem_singleton.mp hb]; exact sqn_lt pw)
  refine ⟨_, _, _, _, H1, rfl, I2, turn_zp b1 b2 a1 a2 _ _ _ _ _ _ S, ⟨g1, g2, ⟨_, _, g3⟩, itr_new g4, itr_new g5⟩, fun c hc => ?_, q⟩
  have hle : s1.heap.objs.size ≤ c := by
    simp only [List.mem_cons, List.not_mem_nil, or_false] at hc
    rcases hc with e | e | e | e | e <;> rw [e]
    all_goals first
      | exact Nat.le_add_right _ _
      | exact Nat.le_refl _
  exact I1.fpOk hle (I1.hok.fresh hle)
def numd (ts : List T) : List T := ts.mapIdx fun i t => .tup [.int i, t]
def enumI (t : T) (P : List T → Prop) : Prop := match t with
  | .lst ts => P (numd ts)
  | .tup ts => P (numd ts)
  | _ => False
theorem numd_get {ts : List T} {i : Nat} {t : T} (h : (numd ts)[i]? = some t) : ∃ x, ts[i]? = some x ∧ t = .tup [.int i, x] := by
  unfold numd at h
  rw [List.getElem?_mapIdx] at h
  cases e : ts[i]? with
  | none => rw [e] at h; cases h
  | some x => rw [e] at h; cases h; exact ⟨x, rfl, rfl⟩
theorem numd_len {ts : List T} : (numd ts).length = ts.length := by simp [numd]
theorem pair_grow {K : PySem.W.Frag} {F H : Hp} {t : T} {v : V} {i : Nat} {p : Addr} (s : Same F H) (n : H p = none) (r : Rep K F t v) : ∃ F', Grow F H F' (upd H p (.tup [.int (i : Nat), v])) ∧ Rep K F' (.tup [.int i, t]) (.ref p) := by
  have nF : F p = none := s.free n
  exact ⟨_, Grow.frz s n, p, _, rfl, .inl (.inl upd_same), (by show 2 ≤ sizeLine; decide), _, _, rfl, rfl, _, _, rfl, Rep.mono (same_upd nF) _ _ r, rfl⟩
def tiEnum (tx : TTX) : TTI := fun τ P => tx τ fun t u τ1 => enumI t fun ts => P ts u τ1
/-- the sources of a value that stands -/
theorem SrcV.srcK {K : PySem.W.Frag} {v : V} {t : T} {S : Hp → L2.St → TSt → Prop} {F H : Hp} {σ : L2.St} {τ : TSt} (s : SrcV K v t S) (h : S F σ τ) (w : WF K F H σ τ) {ts : List T} (e : t = .lst ts ∨ t = .tup ts) :
    ∃ b a, v = .ref a ∧ ∀ F H σ τ, S F σ τ → WF K F H σ τ → ∃ vs, SrcK K b H a vs ∧ Reps K F ts vs := by
  obtain ⟨aL, aT⟩ := s.seqAt h w
  rcases e with rfl | rfl
  · obtain ⟨a, rfl, go⟩ := aL ts rfl
    exact ⟨true, a, rfl, go⟩
  · obtain ⟨a, rfl, go⟩ := aT ts rfl
    exact ⟨false, a, rfl, go⟩
theorem tpi_enum {e : Expr} {tx : TTX} {p pos tpos : Pos} {elts : List Expr} {kk : Nat} (hg : Gl X "enumerate") (hm : X.mg "enumerate" = none) (h : TPX X B e tx) (hs : starEach [e] X.env = (false, eval e X.env) :: starEach [] X.env := by rfl) :
    TPI X B (.Tuple elts kk tpos) (.Call (.Name "enumerate" p) [e] [] pos) (tiEnum tx) := ⟨PI.imp (pi_en hg hm h.pe hs) fun σ H R q => by
  obtain ⟨F, τ, P, I, ht, hq⟩ := q
  refine ⟨F, τ, _, I, ht, fun t u τ1 F1 H1 v S h1 I1 s1 sv s0 => ?_⟩
  have w := (lck_inn (u := u) I1).wf
  have two : ∃ ts, (t = .lst ts ∨ t = .tup ts) ∧ P (numd ts) u τ1 := by
    cases t with
    | lst ts => exact ⟨ts, .inl rfl, h1⟩
    | tup ts => exact ⟨ts, .inr rfl, h1⟩
    | _ => exact h1.elim
  obtain ⟨ts, ets, h1⟩ := two
  obtain ⟨b, a, rfl, go⟩ := sv.srcK s0 w ets
  obtain ⟨vs, hl, rp⟩ := go _ _ _ _ s0 w
  have el : ∀ {F ws}, Reps X.K F ts ws → ws.length = vs.length := fun r => by rw [← r.len, rp.len]
  refine ⟨b, a, vs, rfl, hl, hq _ u τ1 F1 H1 _ S h1 I1 s1 ⟨sv.keep, fun i F H σ τ q w hi => ?_, fun F H σ τ q w => ?_, fun i t F H σ τ x H' q w ht y => ?_⟩ s0⟩
  · obtain ⟨ws, hl', rp'⟩ := go _ _ _ _ q w
    exact ⟨by rw [numd_len, rp.len] at hi; exact hi, ws, hl', el rp'⟩
  · obtain ⟨ws, hl', rp'⟩ := go _ _ _ _ q w
    exact ⟨by rw [numd_len, rp.len], ws, hl', el rp'⟩
  · obtain ⟨ws, hl', rp'⟩ := go _ _ _ _ q w
    obtain ⟨T, us, rfl, nT, _, rfl, x', rfl, hx⟩ := y
    obtain ⟨t', ht', rfl⟩ := numd_get ht
    obtain ⟨v, e, r⟩ := rp'.get ht'
    rw [hx ws hl'] at e
    cases e
    exact pair_grow w.sub nT r⟩
/-- zip of two frozen ones -/
def zipP (xs ys : List T) : List T := List.zipWith (fun x y => T.tup [x, y]) xs ys
def sqOf (t : T) (P : List T → Prop) : Prop := match t with
  | .lst ts => P ts
  | .tup ts => P ts
  | _ => False
def zpL (ts : List T) (P : List T → Prop) : Prop := match ts with
  | [a, b] => sqOf a fun xs => sqOf b fun ys => P (zipP xs ys)
  | _ => False
def tiZp (tl : TTL) : TTI := fun τ P => tl τ fun ts τ1 => zpL ts fun us => P us none τ1
theorem sqOf.inv {K : PySem.W.Frag} {F : Hp} {t : T} {v : V} {P : List T → Prop} (h : sqOf t P) (r : Rep K F t v) : ∃ ts b a vs, P ts ∧ v = .ref a ∧ Reps K F ts vs ∧ ∀ F' H, Same F F' → Same F' H → SrcK K b H a vs := by
  cases t with
  | lst ts =>
    obtain ⟨a, vs, rfl, q, _, r⟩ := r
    exact ⟨ts, true, a, vs, h, rfl, r, fun F' H s s' => SqL.of (s' _ _ (s _ _ q))⟩
  | tup ts =>
    obtain ⟨a, vs, rfl, q, _, r⟩ := r
    exact ⟨ts, false, a, vs, h, rfl, r, fun F' H s s' => SqT.mono s' (SqT.mono s q)⟩
  | _ => exact h.elim
theorem zipP_get {xs ys : List T} {i : Nat} {t : T} (h : (zipP xs ys)[i]? = some t) : ∃ x y, xs[i]? = some x ∧ ys[i]? = some y ∧ t = .tup [x, y] := by
  unfold zipP at h
  rw [List.getElem?_zipWith] at h
  cases e1 : xs[i]? with
  | none => rw [e1] at h; cases h
  | some x =>
    cases e2 : ys[i]? with
    | none => rw [e1, e2] at h; cases h
    | some y =>
      rw [e1, e2] at h
      cases h
      exact ⟨x, y, rfl, rfl, rfl⟩
theorem zipP_len {xs ys : List T} : (zipP xs ys).length = min xs.length ys.length := by simp [zipP]
theorem tup2_grow {K : PySem.W.Frag} {F H : Hp} {t u : T} {v w : V} {p : Addr} (s : Same F H) (n : H p = none) (r : Rep K F t v) (q : Rep K F u w) : ∃ F', Grow F H F' (upd H p (.tup [v, w])) ∧ Rep K F' (.tup [t, u]) (.ref p) := by
  have nF : F p = none := s.free n
  exact ⟨_, Grow.frz s n, p, _, rfl, .inl (.inl upd_same), (by show 2 ≤ sizeLine; decide), _, _, rfl, Rep.mono (same_upd nF) _ _ r, _, _, rfl, Rep.mono (same_upd nF) _ _ q, rfl⟩
theorem tpi_zp {e f : Expr} {tl : TTL} {p pos tpos : Pos} {elts : List Expr} {kk : Nat} (hg : Gl X "zip") (hm : X.mg "zip" = none) (h : TPL X B [e, f] tl)
    (hs : starEach [e, f] X.env = (false, eval e X.env) :: starEach [f] X.env := by rfl) (hl : (backTo pos (starEach [f] X.env)).any (·.1) = false := by rfl) :
    TPI X B (.Tuple elts kk tpos) (.Call (.Name "zip" p) [e, f] [] pos) (tiZp tl) := ⟨PI.imp (pi_zp hg hm h.pa hs hl) fun σ H R q => by
  obtain ⟨F, τ, P, I, ht, hq⟩ := q
  refine ⟨F, τ, _, I, ht, fun ts τ1 F1 H1 vs h1 I1 s1 rs => ?_⟩
  match ts, h1 with
  | [t1, t2], h1 =>
  obtain ⟨v1, r1, rfl, e1, v2, r2, rfl, e2, e3⟩ := rs
  cases e3
  obtain ⟨xs, b1, a1, us, h1, rfl, rx, gx⟩ := sqOf.inv h1 e1
  obtain ⟨ys, b2, a2, ws, h1, rfl, ry, gy⟩ := sqOf.inv h1 e2
  have el : ∀ F H σ τ, Same F1 F → WF X.K F H σ τ → SrcK X.K b1 H a1 us ∧ SrcK X.K b2 H a2 ws := fun F H σ τ s w => ⟨gx F H s w.sub, gy F H s w.sub⟩
  have hlen : min us.length ws.length = (zipP xs ys).length := by rw [zipP_len, rx.len, ry.len]
  have g0 := el F1 H1 σ τ1 (fun _ _ h => h) I1.wf
  refine ⟨b1, b2, a1, a2, us, ws, rfl, g0.1, g0.2, hq _ none τ1 F1 H1 _ (fun F _ _ => Same F1 F) h1 I1 s1 ⟨fun F σ τ F' σ' τ' s q => s.trans q.sub, fun i F H σ τ q w hi => ?_, fun F H σ τ q w => ?_, fun i t F H σ τ x H' q w ht y => ?_⟩ fun _ _ h => h⟩
  · have g := el F H σ τ q w
    exact ⟨by rw [hlen]; exact hi, us, ws, g.1, g.2, rfl⟩
  · have g := el F H σ τ q w
    exact ⟨hlen.symm, us, ws, g.1, g.2, rfl⟩
  · have g := el F H σ τ q w
    obtain ⟨T, vs, rfl, nT, _, rfl, x', y', rfl, hx, hy⟩ := y
    obtain ⟨t1, t2, ex, ey, rfl⟩ := zipP_get ht
    obtain ⟨u1, f1, q1⟩ := rx.get ex
    obtain ⟨u2, f2, q2⟩ := ry.get ey
    rw [hx us g.1] at f1
    rw [hy ws g.2] at f2
    cases f1
    cases f2
    exact tup2_grow w.sub nT (Rep.mono q _ _ q1) (Rep.mono q _ _ q2)⟩
end
section
variable {τ : TSt} {Pi : List T → Lk → TSt → Prop} {tx : TTX} {tl : TTL}
theorem z_enum : tiEnum tx τ Pi = tx τ (@box _ ⟨fun t u τ1 => enumI t (@box _ ⟨fun ts => Pi ts u τ1⟩)⟩) := rf rfl
theorem q_enum_0 {ts : List T} {k : List T → Prop} : enumI (.lst ts) k = k (numd ts) := rf rfl
theorem q_enum_1 {ts : List T} {k : List T → Prop} : enumI (.tup ts) k = k (numd ts) := rf rfl
theorem z_zp : tiZp tl τ Pi = tl τ (@box _ ⟨fun ts τ1 => zpL ts (@box _ ⟨fun us => Pi us none τ1⟩)⟩) := rf rfl
theorem q_zpL {a b : T} {k : List T → Prop} : zpL [a, b] k = sqOf a (@box _ ⟨fun xs => sqOf b (@box _ ⟨fun ys => k (zipP xs ys)⟩)⟩) := rf rfl
theorem q_sqOf_0 {ts : List T} {k : List T → Prop} : sqOf (.lst ts) k = k ts := rf rfl
theorem q_sqOf_1 {ts : List T} {k : List T → Prop} : sqOf (.tup ts) k = k ts := rf rfl
end
end TL

namespace TL
open PySem PySem.W PySem.Spec PyProof.Rows L2
/-! ### sorted of tuples of ints -/
def tupI (ns : List Int) : T := .tup (ns.map T.int)
def rleB (a b : List Int) : Bool := decide (a ≤ b)
def srtR (rs : List (List Int)) : List (List Int) := rs.mergeSort rleB
def encR (b : V × List Int) : PyData := .tuple (b.2.map .int)
theorem dataLe_tups : dataLe false encR = fun p q => rleB p.2 q.2 := by
  funext p q
  have e := congrFun (congrFun (dataLe_rows (β := V × List Int) (·.2)) p) q
  unfold rleB
  rw [← e]
  show (!dataLt (.tuple _) (.tuple _)) = (!dataLt (.list _) (.list _))
  rw [dataLt_tuple, dataLt_list]
theorem vals_fst : ∀ {bs : List (V × List Int)} {us : List Value}, Vals (bs.map (·.1)) us → EachIs (fun v b => RelV b.1 v) us bs
  | [], _, r => by cases r; exact .nil
  | b :: bs, _, r => by
    cases r with
    | cons r1 r2 => exact .cons r1 (vals_fst r2)
theorem fst_vals : ∀ {us : List Value} {bs : List (V × List Int)}, EachIs (fun v b => RelV b.1 v) us bs → Vals (bs.map (·.1)) us
  | _, _, .nil => .nil
  | _, _, .cons r1 r2 => .cons r1 (fst_vals r2)
def rSortedR (K : PySem.W.Frag) : List V → Hp → VK → Prop := fun vs H Q => ∃ (a : Addr) (bs : List (V × List Int)), vs = [V.ref a] ∧ SqL K H a (bs.map (·.1)) ∧ DpAll K H (bs.map (·.1)) (bs.map encR) ∧ (∀ b ∈ bs, b.2 ≠ []) ∧
  ∀ p, H p = none → Q (.ref p) (upd H p (.lst ((bs.mergeSort fun p q => rleB p.2 q.2).map (·.1))))
theorem encR_depth (b : V × List Int) : (encR b).depth ≤ 1 := by
  unfold encR
  have := dAll_ints b.2
  simp only [PyData.depth]
  omega
section
variable {X : Cx} {B : Bs}
theorem cr_sortedR (hu : X.A.units + 64 < cLine) : CallR X (.builtin "sorted") (rSortedR X.K) := by
  intro pins s σ H vs us Q I r h
  obtain ⟨a, bs, rfl, hl, dp, ne, q⟩ := h
  obtain ⟨its, rv, p, hz⟩ := I.list hl
  rw [Vals.ref1 r]
  obtain ⟨as, hr⟩ := Dp.readsAll I _ _ its dp rv
  have hz : bs.length ≤ sizeLine := by simpa using hz
  refine sorted_data p.isList (vals_fst rv) (readsAll_each encR hr) (AllAlike.of fun b b' => ?_) (.inl fun d hd => ?_) hz (fun b _ => ?_) fun out ho eo => ?_
  · exact alike_ints _ _
  · obtain ⟨b, hb, rfl⟩ := List.mem_map.mp hd
    obtain ⟨v, ns⟩ := b
    cases ns with
    | nil => exact absurd rfl (ne _ hb)
    | cons n ns => exact ⟨_, _, rfl⟩
  · have := encR_depth b
    omega
  · rw [dataLe_tups] at eo
    obtain ⟨ep, he⟩ := PyProof.Rows.sortedAll_at s.heap its (List.toArray out)
    have hn : H (s.heap.objs.size + 1) = none := I.hok.fresh (Nat.le_succ _)
    have hlen : ((bs.mergeSort fun p q => rleB p.2 q.2).map (·.1)).length ≤ sizeLine := by
      rw [List.length_map, List.length_mergeSort]
      exact hz
    exact ⟨.ref _, upd H (s.heap.objs.size + 1) (.lst ((bs.mergeSort fun p q => rleB p.2 q.2).map (·.1))), I.laid (t' := s.toks) (fun _ _ => PyProof.Rows.sortedAll_old) (Nat.le_succ _) ⟨hlen, out, ep, fst_vals eo, he⟩, rfl, q _ hn⟩
def sortedRT : C1 := fun t k => match t with
  | .lst ts => ∃ rs : List (List Int), ts = rs.map tupI ∧ (∀ r ∈ rs, r ≠ []) ∧ k true (.lst ((srtR rs).map tupI))
  | _ => False
theorem Ds_tupI : ∀ rs : List (List Int), T.Ds (rs.map tupI) = rs.map fun r => .tuple (r.map .int)
  | [] => rfl
  | r :: rs => by
    rw [List.map_cons, List.map_cons, T.Ds, Ds_tupI rs]
    unfold tupI
    rw [T.D, Ds_ints]
theorem plains_ints : ∀ ns : List Int, T.plains (ns.map T.int) = true
  | [] => rfl
  | n :: ns => by rw [List.map_cons, T.plains, plains_ints ns]; rfl
theorem plains_tupI : ∀ rs : List (List Int), T.plains (rs.map tupI) = true
  | [] => rfl
  | r :: rs => by
    rw [List.map_cons, T.plains, plains_tupI rs, Bool.and_true]
    unfold tupI
    rw [T.plain]
    exact plains_ints r
theorem reps_of {K : PySem.W.Frag} {F : Hp} {α : Type} (f : α → T) (g : α → V) : ∀ {l : List α}, (∀ b ∈ l, Rep K F (f b) (g b)) → Reps K F (l.map f) (l.map g)
  | [], _ => rfl
  | b :: l, h => ⟨_, _, rfl, h b List.mem_cons_self, reps_of f g fun b hb => h b (List.mem_cons_of_mem _ hb)⟩
theorem reps_zip {K : PySem.W.Frag} {F : Hp} : ∀ {rs : List (List Int)} {vs : List V}, Reps K F (rs.map tupI) vs → ∀ b ∈ vs.zip rs, Rep K F (tupI b.2) b.1
  | [], _, _, b, hb => by simp at hb
  | r :: rs, _, ⟨v, vr, e, h1, h2⟩, b, hb => by
    subst e
    rw [List.zip_cons_cons] at hb
    rcases List.mem_cons.mp hb with rfl | hb
    · exact h1
    · exact reps_zip h2 b hb
theorem c_sortedR (hu : X.A.units + 64 < cLine) : CalT1 X (.builtin "sorted") sortedRT := by
  refine ⟨_, cr_sortedR hu, fun F H x t G Q s r hg k => ?_⟩
  cases t with
  | lst ts =>
    obtain ⟨rs, rfl, ne, hg⟩ := hg
    obtain ⟨a, vs, rfl, hl, z, rp⟩ := r.lst s
    have el : vs.length = rs.length := by rw [← rp.len, List.length_map]
    have e1 : (vs.zip rs).map (·.1) = vs := List.map_fst_zip (by omega)
    have e2 : (vs.zip rs).map (·.2) = rs := List.map_snd_zip (by omega)
    have e3 : (vs.zip rs).map encR = T.Ds (rs.map tupI) :=
      calc (vs.zip rs).map encR = ((vs.zip rs).map (·.2)).map (fun r => PyData.tuple (r.map .int)) := by rw [List.map_map]; rfl
        _ = T.Ds (rs.map tupI) := by rw [e2, Ds_tupI]
    have e4 : ((vs.zip rs).mergeSort fun p q => rleB p.2 q.2).map (·.2) = srtR rs :=
      calc ((vs.zip rs).mergeSort fun p q => rleB p.2 q.2).map (·.2) = ((vs.zip rs).map (·.2)).mergeSort rleB := List.map_mergeSort fun _ _ _ _ => rfl
        _ = srtR rs := by rw [e2]; rfl
    refine ⟨a, vs.zip rs, rfl, by rw [e1]; exact SqL.of hl, by rw [e1, e3]; exact Reps.dp s _ _ (plains_tupI rs) rp, fun b hb => ne _ (List.of_mem_zip hb).2, fun p np => ?_⟩
    refine k true _ _ _ _ hg (Grow.own s np) ⟨p, rfl, np, s.free np, _, upd_same, ?_, ?_⟩
    · rw [List.length_map, List.length_mergeSort, List.length_zip]
      omega
    · rw [← e4, List.map_map]
      refine reps_of (fun b : V × List Int => tupI b.2) (·.1) fun b hb => ?_
      exact reps_zip rp b ((List.mergeSort_perm _ _).mem_iff.mp hb)
  | _ => exact hg.elim
/-! ### sorted of a dict's int keys -/
theorem keys_ints : ∀ {us : List Value} {vs : List (Key × Value)} {ks : List Int}, us.length = vs.length → vs.map (·.1) = ks.map Sum.inl → (∀ (j : Nat) (v : Value), us[j]? = some v → ∃ (k : Key) (x : Value), vs[j]? = some (k, x) ∧ keyIs k v = true) → IntsAre us ks := by
  intro us vs ks hl e h
  have r := keys_at hl h
  have e2 : vs.map (fun p => kV p.1) = ks.map V.int := by
    have := congrArg (List.map kV) e
    rw [List.map_map, List.map_map] at this
    exact this
  rw [e2] at r
  exact r.ints
theorem cr_sortedDi (hcalm : X.calm = true) : CallR X (.builtin "sorted") (fun xs H Q => ∃ (a : Addr) (kvs : List (Key × V)) (ks : List Int), xs = [.ref a] ∧ Rd H a (.dK kvs) ∧ kvs.map (·.1) = ks.map Sum.inl ∧ ks.length ≤ sizeLine ∧
    ∀ (ns : List Int) (p : Addr), ns.Perm ks → ns.Pairwise (· ≤ ·) → H p = none → Q (.ref p) (upd H p (.lst (ns.map V.int)))) := by
  intro pins s σ H xs us Q I r q
  obtain ⟨a, kvs, ks, rfl, hd, hks, hz, q⟩ := q
  rw [Vals.ref1 r]
  obtain ⟨z, lo, vs, rel, dd⟩ := dk_rd I.hok hd
  obtain ⟨ep, hat⟩ := dd.dictAt
  have hkeys : vs.map (·.1) = ks.map Sum.inl := rel.keys.symm.trans hks
  have hl : vs.length = ks.length := by simpa using congrArg List.length hkeys
  refine Calls.call_function_entry kind_sorted plain_sorted entry_sorted (args_sorted1 _) ?_
  unfold Builtin.«sorted»
  refine wpAny_bind (m := checkCount "sorted" 1 1 _) (wpAny_pure ?_)
  refine wpAny_bind (kdu_collect (A := X.A.in1) (kdl_dict (knd := mixKind X.prog X.w) (kvs := vs) (ep := ep) lo) (I.ok.hd hcalm) hat (by rw [hl]; exact hz) fun h' tk acc hk hacc => ?_)
  have hal : acc.toList.length = ks.length := by rw [Array.length_toList, hacc.1, hl]
  have hS : IntsAre acc.toList ks := keys_ints (by rw [hal, hl]) hkeys fun j v e => hacc.2 j v (by rw [← Array.getElem?_toList]; exact e)
  have I1 : Inv X pins σ H { s with heap := h', toks := tk } := I.kept hk
  refine wpAny_bind (wpAny_newList ?_ (by rw [hal]; exact hz))
  have hoL : (h'.push (seqObj "list" acc.toList.toArray 0)).get? h'.objs.size = some (seqObj "list" acc.toList.toArray 0) := Heap.get?_push_size _ rfl
  refine wpAny_bind (wpAny_holding (wpAny_call_entry slot_list_sort ⟨_, hoL, rfl⟩ entry_list_sort
    (SrtO.list_sort_ord (s := { s with heap := h'.push (seqObj "list" acc.toList.toArray 0), toks := tk }) SrtO.swo_int hoL (by rw [hal]; exact hz) (fun h2 => SrtO.ints_sortable hS h2) fun out h1 h2 => ⟨_, rfl, ?_⟩) (args_list_sort _)))
  obtain ⟨k1, k2, k3⟩ := SrtO.ints_out hS h1 h2
  obtain ⟨e', he'⟩ := sortedHeap_at (vs := acc.toList) (out := out.toArray) hoL
  have hlen : ((out.map SrtO.iv).map V.int).length ≤ sizeLine := by
    rw [List.length_map, k2.length_eq]
    exact hz
  refine wpAny_pure ⟨_, rfl, .ref h'.objs.size, upd H h'.objs.size (.lst ((out.map SrtO.iv).map V.int)), I1.laid (t' := tk) (fun b u e => ?_) (Nat.le_refl _) ⟨hlen, out, e', vals_of_ints k1, he'⟩, rfl, q _ _ k2 k3 (I1.hok.fresh (Nat.le_refl _))⟩
  have hb : b < h'.objs.size := Heap.lt_size e
  rw [sortedHeap_old (Nat.ne_of_lt hb) (by rw [Heap.size_push]; exact Nat.lt_succ_of_lt hb)]
  exact Heap.get?_push_of_some _ e
def sortedDT : C1 := fun t k => match t with
  | .dct ks ts => ∃ ns : List Int, ks = ns.map Sum.inl ∧ k true (.lst ((srt ns).map T.int))
  | _ => False
theorem c_sortedD (hc : X.calm = true) : CalT1 X (.builtin "sorted") sortedDT := by
  refine ⟨_, cr_sortedDi hc, fun F H x t G Q s r hg k => ?_⟩
  cases t with
  | dct ks ts =>
    obtain ⟨ns, rfl, hg⟩ := hg
    obtain ⟨a, kvs, rfl, hd, z, e, rp⟩ := r.dct s
    have el : ns.length = kvs.length := by simpa using (congrArg List.length e).symm
    refine ⟨a, kvs, ns, rfl, hd, e, by omega, fun ms p pm le np => ?_⟩
    rw [srt_uniq pm le]
    refine k true _ _ _ _ hg (Grow.own s np) ⟨p, rfl, np, s.free np, _, upd_same, ?_, Reps.ints.mpr rfl⟩
    rw [List.length_map, (srt_perm ns).length_eq]
    omega
  | _ => exact hg.elim
theorem q_sortedR {ts : List T} {k : Bool → T → Prop} : sortedRT (.lst ts) k = ∃ rs : List (List Int), ts = rs.map tupI ∧ (∀ r ∈ rs, r ≠ []) ∧ k true (.lst ((srtR rs).map tupI)) := rf rfl
theorem q_sortedD {ks : List Key} {ts : List T} {k : Bool → T → Prop} : sortedDT (.dct ks ts) k = ∃ ns : List Int, ks = ns.map Sum.inl ∧ k true (.lst ((srt ns).map T.int)) := rf rfl
end
/-! ### the order of rows -/
theorem rleB_trans (a b c : List Int) (h1 : rleB a b = true) (h2 : rleB b c = true) : rleB a c = true := by
  unfold rleB at *
  exact decide_eq_true (List.le_trans (of_decide_eq_true h1) (of_decide_eq_true h2))
theorem rleB_total (a b : List Int) : (rleB a b || rleB b a) = true := by
  unfold rleB
  rcases List.le_total a b with h | h
  · simp [h]
  · simp [h]
theorem rleB_anti {a b : List Int} (h1 : rleB a b = true) (h2 : rleB b a = true) : a = b := List.le_antisymm (of_decide_eq_true h1) (of_decide_eq_true h2)
theorem srtR_perm (rs : List (List Int)) : (srtR rs).Perm rs := List.mergeSort_perm ..
theorem srtR_sorted (rs : List (List Int)) : (srtR rs).Pairwise fun a b => rleB a b = true := List.pairwise_mergeSort rleB_trans rleB_total rs
theorem srtR_uniq {rs ms : List (List Int)} (p : rs.Perm ms) : srtR rs = srtR ms :=
  ((srtR_perm rs).trans (p.trans (srtR_perm ms).symm)).eq_of_pairwise (fun _ _ _ _ => rleB_anti) (srtR_sorted rs) (srtR_sorted ms)
theorem srtR_ext {rs ms : List (List Int)} (h1 : rs.Nodup) (h2 : ms.Nodup) (h : ∀ r, r ∈ rs ↔ r ∈ ms) : srtR rs = srtR ms := srtR_uniq ((List.perm_ext_iff_of_nodup h1 h2).mpr h)
end TL

namespace TL
open PySem L2
section
variable {u : Lk} {τ1 : TSt} {g : TTG} {tt : TTT} {te : TTE} {vs : List Nat} {P : R → TSt → Prop} {xs : List Int}
/-- comprehensions over ints, by functions of ints -/
theorem lcT_mi (f : Int → Int) (hf : ∀ v ∈ vs, frzAt (lck u τ1) v) (hl : xs.length ≤ sizeLine)
    (h : ∀ x ∈ xs, g (.int x) (wipeT (lck u τ1) vs) (@box _ ⟨fun τ3 => te τ3 (@box _ ⟨fun r τ5 => frzR r τ5 (@box _ ⟨fun y τ6 => T.int (f x) = y ∧ wipeT τ6 vs = wipeT (lck u τ1) vs⟩)⟩)⟩))
    (hd : P (.val true (.lst ((xs.map f).map T.int))) (unl u τ1 (backT (lck u τ1) (wipeT (lck u τ1) vs) vs))) : lcT g ttYes te vs P (xs.map T.int) u τ1 := by
  refine lcT_m (itF f) hf (by rw [List.length_map]; exact hl) (fun t ht => ?_) (by rw [map_itF]; exact hd)
  obtain ⟨x, hx, rfl⟩ := List.mem_map.mp ht
  exact h x hx
theorem lcT_mb (f : Int → Bool) (hf : ∀ v ∈ vs, frzAt (lck u τ1) v) (hl : xs.length ≤ sizeLine)
    (h : ∀ x ∈ xs, g (.int x) (wipeT (lck u τ1) vs) (@box _ ⟨fun τ3 => te τ3 (@box _ ⟨fun r τ5 => frzR r τ5 (@box _ ⟨fun y τ6 => T.bl (f x) = y ∧ wipeT τ6 vs = wipeT (lck u τ1) vs⟩)⟩)⟩))
    (hd : P (.val true (.lst ((xs.map f).map T.bl))) (unl u τ1 (backT (lck u τ1) (wipeT (lck u τ1) vs) vs))) : lcT g ttYes te vs P (xs.map T.int) u τ1 := by
  refine lcT_m (blF f) hf (by rw [List.length_map]; exact hl) (fun t ht => ?_) (by rw [map_blF]; exact hd)
  obtain ⟨x, hx, rfl⟩ := List.mem_map.mp ht
  exact h x hx
theorem lcT_fi (p : Int → Bool) (f : Int → Int) (hf : ∀ v ∈ vs, frzAt (lck u τ1) v) (hl : xs.length ≤ sizeLine)
    (h : ∀ x ∈ xs, g (.int x) (wipeT (lck u τ1) vs) (@box _ ⟨fun τ3 => tt τ3 (@box _ ⟨fun b τ4 => cnd b (@box _ ⟨fun _ => te τ4 (@box _ ⟨fun r τ5 => frzR r τ5 (@box _ ⟨fun y τ6 => intF p f (.int x) = some y ∧ wipeT τ6 vs = wipeT (lck u τ1) vs⟩)⟩)⟩) (@box _ ⟨fun _ => intF p f (.int x) = none ∧ wipeT τ4 vs = wipeT (lck u τ1) vs⟩)⟩)⟩))
    (hd : P (.val true (.lst (((xs.filter p).map f).map T.int))) (unl u τ1 (backT (lck u τ1) (wipeT (lck u τ1) vs) vs))) : lcT g tt te vs P (xs.map T.int) u τ1 := by
  refine lcT_p (intF p f) hf (by rw [List.length_map]; exact hl) (fun t ht => ?_) (by rw [fm_ints]; exact hd)
  obtain ⟨x, hx, rfl⟩ := List.mem_map.mp ht
  exact h x hx
end
theorem pickR {rs : List (List Int)} {i : Int} {p : List Int → Prop} (h0 : 0 ≤ i) (h1 : i < rs.length) (h : ∀ r ∈ rs, p r) : ∃ r, atI (rs.map tupI) i = some (tupI r) ∧ p r := by
  refine ⟨rs[i.toNat]'(by omega), ?_, h _ (List.getElem_mem _)⟩
  rw [atI_map, atI_some h0 h1]
  rfl
theorem rngI_mem {lo : Int} {n : Nat} {x : Int} : x ∈ rngI lo n ↔ lo ≤ x ∧ x < lo + n := by
  unfold rngI
  rw [List.mem_map]
  constructor
  · rintro ⟨k, hk, rfl⟩
    have := List.mem_range.mp hk
    omega
  · rintro ⟨h1, h2⟩
    exact ⟨(x - lo).toNat, List.mem_range.mpr (by omega), by omega⟩
theorem rngT_eq {lo : Int} {n : Nat} : rngT lo n = (rngI lo n).map T.int := rngT_ints
theorem map_take {α β : Type} (f : α → β) (xs : List α) (n : Nat) : (xs.map f).take n = (xs.take n).map f := by rw [List.map_take]
theorem cut_dropI {xs : List Int} {n : Nat} : cutT (xs.map T.int) (some (n : Int)) none = (xs.drop n).map T.int := by rw [cut_drop, List.map_drop]
theorem cut_takeI {xs : List Int} {n : Nat} : cutT (xs.map T.int) none (some (n : Int)) = (xs.take n).map T.int := by
  unfold cutT
  rw [HT.sIx_nat, HT.sIx_none, List.drop_zero, Nat.sub_zero, ← List.map_take]
  by_cases h : n ≤ (xs.map T.int).length
  · rw [Nat.min_eq_left h]
  · rw [Nat.min_eq_right (by omega), List.take_of_length_le (i := n) (by simp at h ⊢; omega), List.take_of_length_le (by simp)]
theorem numd_ints_get {xs : List Int} {i : Nat} {t : T} (h : (numd (xs.map T.int))[i]? = some t) : ∃ x, xs[i]? = some x ∧ t = .tup [.int i, .int x] := by
  obtain ⟨x, hx, rfl⟩ := numd_get h
  obtain ⟨n, hn, rfl⟩ := ints_get hx
  exact ⟨n, hn, rfl⟩
theorem all_ints {xs : List Int} {p : Int → Bool} : (xs.map p).all _root_.id = xs.all p := by simp [List.all_map]
/-! ### dicts by what they hold -/
theorem q_ix_d {ks : List Key} {ts : List T} {i : Int} {k : T → Prop} : ixT (.dct ks ts) (.int i) k = ∃ t, dGetT ks ts (Sum.inl i) = some t ∧ k t := by simp [ixT, keyT]
theorem find_zw (k k' : Key) (v : T) : ∀ (ks : List Key) (ts : List T), ((ks.zip (List.zipWith (fun k'' t => if k'' = k then v else t) ks ts)).find? fun kv => decide (kv.1 = k')).map (·.2) = if k' = k then ((ks.zip ts).find? fun kv => decide (kv.1 = k')).map (fun _ => v) else ((ks.zip ts).find? fun kv => decide (kv.1 = k')).map (·.2)
  | [], _ => by simp
  | _ :: _, [] => by simp
  | x :: ks, t :: ts => by
    have ih := find_zw k k' v ks ts
    rw [List.zipWith_cons_cons, List.zip_cons_cons, List.zip_cons_cons, List.find?_cons, List.find?_cons]
    by_cases h : x = k'
    · subst h
      simp only [decide_true, Option.map_some]
      by_cases h2 : x = k
      · simp [h2]
      · simp [h2]
    · simp only [h, decide_false]
      exact ih
theorem dGetT_put {ks : List Key} {ts : List T} {k k' : Key} {v : T} (hl : ks.length = ts.length) : dGetT (dPutK ks k) (dPutV ks ts k v) k' = if k' = k then some v else dGetT ks ts k' := by
  unfold dGetT dPutK dPutV
  by_cases h : kMem k ks = true
  · rw [if_pos h, if_pos h, find_zw]
    by_cases e : k' = k
    · rw [if_pos e, if_pos e]
      subst e
      have hm := kMem_iff.mp h
      cases q : (ks.zip ts).find? fun kv => decide (kv.1 = k') with
      | some _ => rfl
      | none =>
        obtain ⟨i, hi, ei⟩ := List.mem_iff_getElem.mp hm
        have hz : i < (ks.zip ts).length := by rw [List.length_zip]; omega
        have := List.find?_eq_none.mp q _ (List.getElem_mem hz)
        rw [List.getElem_zip] at this
        simp [ei] at this
    · rw [if_neg e, if_neg e]
  · rw [if_neg h, if_neg h, List.zip_append hl, List.find?_append]
    by_cases e : k' = k
    · subst e
      rw [if_pos rfl]
      have : (ks.zip ts).find? (fun kv => decide (kv.1 = k')) = none := by
        rw [List.find?_eq_none]
        intro x hx
        have hx1 := (List.of_mem_zip (a := x.1) (b := x.2) hx).1
        have : x.1 ≠ k' := fun e => h (kMem_iff.mpr (by rw [← e]; exact hx1))
        simp [this]
      rw [this]
      simp
    · rw [if_neg e]
      have : ([k].zip [v]).find? (fun kv => decide (kv.1 = k')) = none := by
        simp [Ne.symm e]
      rw [this, Option.or_none]
theorem dPut_len {ks : List Key} {ts : List T} {k : Key} {v : T} (hl : ks.length = ts.length) : (dPutK ks k).length = (dPutV ks ts k v).length := by
  unfold dPutK dPutV
  split
  · simp [hl]
  · simp [hl]
theorem dGetT_none {k : Key} : dGetT [] [] k = none := by simp [dGetT]
theorem inl_eq {i j : Int} : (Sum.inl i : Key) = Sum.inl j ↔ i = j := ⟨fun h => Sum.inl.inj h, fun h => by rw [h]⟩
/-! ### comprehensions over ints, by functions to trees -/
def intFT (p : Int → Bool) (g : Int → T) (t : T) : Option T := match t with
  | .int i => if p i = true then some (g i) else none
  | _ => none
theorem intFT_y {p : Int → Bool} {g : Int → T} {i : Int} (h : p i = true) : intFT p g (.int i) = some (g i) := by simp [intFT, h]
theorem intFT_n {p : Int → Bool} {g : Int → T} {i : Int} (h : p i = false) : intFT p g (.int i) = none := by simp [intFT, h]
theorem fm_intsT {p : Int → Bool} {g : Int → T} : ∀ {xs : List Int}, (xs.map T.int).filterMap (intFT p g) = (xs.filter p).map g
  | [] => rfl
  | x :: xs => by
    rw [List.map_cons, List.filterMap_cons, List.filter_cons]
    cases h : p x with
    | true => rw [intFT_y h, if_pos rfl]; simp only [fm_intsT, List.map_cons]
    | false => rw [intFT_n h, if_neg (by simp)]; simp only [fm_intsT]
def itFT (g : Int → T) (t : T) : T := match t with
  | .int i => g i
  | t => t
section
variable {u : Lk} {τ1 : TSt} {g : TTG} {tt : TTT} {te : TTE} {vs : List Nat} {P : R → TSt → Prop} {xs : List Int}
theorem lcT_ft (p : Int → Bool) (f : Int → T) (hf : ∀ v ∈ vs, frzAt (lck u τ1) v) (hl : xs.length ≤ sizeLine)
    (h : ∀ x ∈ xs, g (.int x) (wipeT (lck u τ1) vs) (@box _ ⟨fun τ3 => tt τ3 (@box _ ⟨fun b τ4 => cnd b (@box _ ⟨fun _ => te τ4 (@box _ ⟨fun r τ5 => frzR r τ5 (@box _ ⟨fun y τ6 => intFT p f (.int x) = some y ∧ wipeT τ6 vs = wipeT (lck u τ1) vs⟩)⟩)⟩) (@box _ ⟨fun _ => intFT p f (.int x) = none ∧ wipeT τ4 vs = wipeT (lck u τ1) vs⟩)⟩)⟩))
    (hd : P (.val true (.lst ((xs.filter p).map f))) (unl u τ1 (backT (lck u τ1) (wipeT (lck u τ1) vs) vs))) : lcT g tt te vs P (xs.map T.int) u τ1 := by
  refine lcT_p (intFT p f) hf (by rw [List.length_map]; exact hl) (fun t ht => ?_) (by rw [fm_intsT]; exact hd)
  obtain ⟨x, hx, rfl⟩ := List.mem_map.mp ht
  exact h x hx
theorem lcT_mt (f : Int → T) (hf : ∀ v ∈ vs, frzAt (lck u τ1) v) (hl : xs.length ≤ sizeLine)
    (h : ∀ x ∈ xs, g (.int x) (wipeT (lck u τ1) vs) (@box _ ⟨fun τ3 => te τ3 (@box _ ⟨fun r τ5 => frzR r τ5 (@box _ ⟨fun y τ6 => f x = y ∧ wipeT τ6 vs = wipeT (lck u τ1) vs⟩)⟩)⟩))
    (hd : P (.val true (.lst (xs.map f))) (unl u τ1 (backT (lck u τ1) (wipeT (lck u τ1) vs) vs))) : lcT g ttYes te vs P (xs.map T.int) u τ1 := by
  refine lcT_m (itFT f) hf (by rw [List.length_map]; exact hl) (fun t ht => ?_) (by rw [List.map_map]; exact hd)
  obtain ⟨x, hx, rfl⟩ := List.mem_map.mp ht
  exact h x hx
end
/-- where a known thing is put, by ints -/
theorem pick0 {ts : List T} {i : Int} {p : T → Prop} (h0 : 0 ≤ i) (h1 : i < ts.length) (h : ∀ t ∈ ts, p t) : ∃ t, atI ts i = some t ∧ p t := ⟨_, atI_some h0 h1, h _ (List.getElem_mem _)⟩
end TL

namespace TL
open PySem L2
/-! ### the words of rules -/
theorem eo_evens : eqOk (.str "evens") = true := eo_str (by decide +kernel)
theorem eo_sums : eqOk (.str "sums") = true := eo_str (by decide +kernel)
theorem eo_pairs : eqOk (.str "pairs") = true := eo_str (by decide +kernel)
theorem eo_gaps : eqOk (.str "gaps") = true := eo_str (by decide +kernel)
theorem q_es_evens_evens {k : Bool → T → Prop} : eqT (.str "evens") (.str "evens") k = k false (.bl true) := by unfold eqT; simp only [eo_evens, eo_sums, eo_pairs, eo_gaps, ev_str, Bool.and_self, true_and]; rfl
theorem q_ns_evens_evens {k : Bool → T → Prop} : neT (.str "evens") (.str "evens") k = k false (.bl false) := by unfold neT; simp only [eo_evens, eo_sums, eo_pairs, eo_gaps, ev_str, Bool.and_self, true_and]; rfl
theorem q_es_evens_sums {k : Bool → T → Prop} : eqT (.str "evens") (.str "sums") k = k false (.bl false) := by unfold eqT; simp only [eo_evens, eo_sums, eo_pairs, eo_gaps, ev_str, Bool.and_self, true_and]; rw [show decide (("evens" : Str) = "sums") = false by decide +kernel]
theorem q_ns_evens_sums {k : Bool → T → Prop} : neT (.str "evens") (.str "sums") k = k false (.bl true) := by unfold neT; simp only [eo_evens, eo_sums, eo_pairs, eo_gaps, ev_str, Bool.and_self, true_and]; rw [show decide (("evens" : Str) = "sums") = false by decide +kernel]; rfl
theorem q_es_evens_pairs {k : Bool → T → Prop} : eqT (.str "evens") (.str "pairs") k = k false (.bl false) := by unfold eqT; simp only [eo_evens, eo_sums, eo_pairs, eo_gaps, ev_str, Bool.and_self, true_and]; rw [show decide (("evens" : Str) = "pairs") = false by decide +kernel]
theorem q_ns_evens_pairs {k : Bool → T → Prop} : neT (.str "evens") (.str "pairs") k = k false (.bl true) := by unfold neT; simp only [eo_evens, eo_sums, eo_pairs, eo_gaps, ev_str, Bool.and_self, true_and]; rw [show decide (("evens" : Str) = "pairs") = false by decide +kernel]; rfl
theorem q_es_evens_gaps {k : Bool → T → Prop} : eqT (.str "evens") (.str "gaps") k = k false (.bl false) := by unfold eqT; simp only [eo_evens, eo_sums, eo_pairs, eo_gaps, ev_str, Bool.and_self, true_and]; rw [show decide (("evens" : Str) = "gaps") = false by decide +kernel]
theorem q_ns_evens_gaps {k : Bool → T → Prop} : neT (.str "evens") (.str "gaps") k = k false (.bl true) := by unfold neT; simp only [eo_evens, eo_sums, eo_pairs, eo_gaps, ev_str, Bool.and_self, true_and]; rw [show decide (("evens" : Str) = "gaps") = false by decide +kernel]; rfl
theorem q_es_sums_evens {k : Bool → T → Prop} : eqT (.str "sums") (.str "evens") k = k false (.bl false) := by unfold eqT; simp only [eo_evens, eo_sums, eo_pairs, eo_gaps, ev_str, Bool.and_self, true_and]; rw [show decide (("sums" : Str) = "evens") = false by decide +kernel]
theorem q_ns_sums_evens {k : Bool → T → Prop} : neT (.str "sums") (.str "evens") k = k false (.bl true) := by unfold neT; simp only [eo_evens, eo_sums, eo_pairs, eo_gaps, ev_str, Bool.and_self, true_and]; rw [show decide (("sums" : Str) = "evens") = false by decide +kernel]; rfl
theorem q_es_sums_sums {k : Bool → T → Prop} : eqT (.str "sums") (.str "sums") k = k false (.bl true) := by unfold eqT; simp only [eo_evens, eo_sums, eo_pairs, eo_gaps, ev_str, Bool.and_self, true_and]; rfl
theorem q_ns_sums_sums {k : Bool → T → Prop} : neT (.str "sums") (.str "sums") k = k false (.bl false) := by unfold neT; simp only [eo_evens, eo_sums, eo_pairs, eo_gaps, ev_str, Bool.and_self, true_and]; rfl
theorem q_es_sums_pairs {k : Bool → T → Prop} : eqT (.str "sums") (.str "pairs") k = k false (.bl false) := by unfold eqT; simp only [eo_evens, eo_sums, eo_pairs, eo_gaps, ev_str, Bool.and_self, true_and]; rw [show decide (("sums" : Str) = "pairs") = false by decide +kernel]
theorem q_ns_sums_pairs {k : Bool → T → Prop} : neT (.str "sums") (.str "pairs") k = k false (.bl true) := by unfold neT; simp only [eo_evens, eo_sums, eo_pairs, eo_gaps, ev_str, Bool.and_self, true_and]; rw [show decide (("sums" : Str) = "pairs") = false by decide +kernel]; rfl
theorem q_es_sums_gaps {k : Bool → T → Prop} : eqT (.str "sums") (.str "gaps") k = k false (.bl false) := by unfold eqT; simp only [eo_evens, eo_sums, eo_pairs, eo_gaps, ev_str, Bool.and_self, true_and]; rw [show decide (("sums" : Str) = "gaps") = false by decide +kernel]
theorem q_ns_sums_gaps {k : Bool → T → Prop} : neT (.str "sums") (.str "gaps") k = k false (.bl true) := by unfold neT; simp only [eo_evens, eo_sums, eo_pairs, eo_gaps, ev_str, Bool.and_self, true_and]; rw [show decide (("sums" : Str) = "gaps") = false by decide +kernel]; rfl
theorem q_es_pairs_evens {k : Bool → T → Prop} : eqT (.str "pairs") (.str "evens") k = k false (.bl false) := by unfold eqT; simp only [eo_evens, eo_sums, eo_pairs, eo_gaps, ev_str, Bool.and_self, true_and]; rw [show decide (("pairs" : Str) = "evens") = false by decide +kernel]
theorem q_ns_pairs_evens {k : Bool → T → Prop} : neT (.str "pairs") (.str "evens") k = k false (.bl true) := by unfold neT; simp only [eo_evens, eo_sums, eo_pairs, eo_gaps, ev_str, Bool.and_self, true_and]; rw [show decide (("pairs" : Str) = "evens") = false by decide +kernel]; rfl
theorem q_es_pairs_sums {k : Bool → T → Prop} : eqT (.str "pairs") (.str "sums") k = k false (.bl false) := by unfold eqT; simp only [eo_evens, eo_sums, eo_pairs, eo_gaps, ev_str, Bool.and_self, true_and]; rw [show decide (("pairs" : Str) = "sums") = false by decide +kernel]
theorem q_ns_pairs_sums {k : Bool → T → Prop} : neT (.str "pairs") (.str "sums") k = k false (.bl true) := by unfold neT; simp only [eo_evens, eo_sums, eo_pairs, eo_gaps, ev_str, Bool.and_self, true_and]; rw [show decide (("pairs" : Str) = "sums") = false by decide +kernel]; rfl
theorem q_es_pairs_pairs {k : Bool → T → Prop} : eqT (.str "pairs") (.str "pairs") k = k false (.bl true) := by unfold eqT; simp only [eo_evens, eo_sums, eo_pairs, eo_gaps, ev_str, Bool.and_self, true_and]; rfl
theorem q_ns_pairs_pairs {k : Bool → T → Prop} : neT (.str "pairs") (.str "pairs") k = k false (.bl false) := by unfold neT; simp only [eo_evens, eo_sums, eo_pairs, eo_gaps, ev_str, Bool.and_self, true_and]; rfl
theorem q_es_pairs_gaps {k : Bool → T → Prop} : eqT (.str "pairs") (.str "gaps") k = k false (.bl false) := by unfold eqT; simp only [eo_evens, eo_sums, eo_pairs, eo_gaps, ev_str, Bool.and_self, true_and]; rw [show decide (("pairs" : Str) = "gaps") = false by decide +kernel]
theorem q_ns_pairs_gaps {k : Bool → T → Prop} : neT (.str "pairs") (.str "gaps") k = k false (.bl true) := by unfold neT; simp only [eo_evens, eo_sums, eo_pairs, eo_gaps, ev_str, Bool.and_self, true_and]; rw [show decide (("pairs" : Str) = "gaps") = false by decide +kernel]; rfl
theorem q_es_gaps_evens {k : Bool → T → Prop} : eqT (.str "gaps") (.str "evens") k = k false (.bl false) := by unfold eqT; simp only [eo_evens, eo_sums, eo_pairs, eo_gaps, ev_str, Bool.and_self, true_and]; rw [show decide (("gaps" : Str) = "evens") = false by decide +kernel]
theorem q_ns_gaps_evens {k : Bool → T → Prop} : neT (.str "gaps") (.str "evens") k = k false (.bl true) := by unfold neT; simp only [eo_evens, eo_sums, eo_pairs, eo_gaps, ev_str, Bool.and_self, true_and]; rw [show decide (("gaps" : Str) = "evens") = false by decide +kernel]; rfl
theorem q_es_gaps_sums {k : Bool → T → Prop} : eqT (.str "gaps") (.str "sums") k = k false (.bl false) := by unfold eqT; simp only [eo_evens, eo_sums, eo_pairs, eo_gaps, ev_str, Bool.and_self, true_and]; rw [show decide (("gaps" : Str) = "sums") = false by decide +kernel]
theorem q_ns_gaps_sums {k : Bool → T → Prop} : neT (.str "gaps") (.str "sums") k = k false (.bl true) := by unfold neT; simp only [eo_evens, eo_sums, eo_pairs, eo_gaps, ev_str, Bool.and_self, true_and]; rw [show decide (("gaps" : Str) = "sums") = false by decide +kernel]; rfl
theorem q_es_gaps_pairs {k : Bool → T → Prop} : eqT (.str "gaps") (.str "pairs") k = k false (.bl false) := by unfold eqT; simp only [eo_evens, eo_sums, eo_pairs, eo_gaps, ev_str, Bool.and_self, true_and]; rw [show decide (("gaps" : Str) = "pairs") = false by decide +kernel]
theorem q_ns_gaps_pairs {k : Bool → T → Prop} : neT (.str "gaps") (.str "pairs") k = k false (.bl true) := by unfold neT; simp only [eo_evens, eo_sums, eo_pairs, eo_gaps, ev_str, Bool.and_self, true_and]; rw [show decide (("gaps" : Str) = "pairs") = false by decide +kernel]; rfl
theorem q_es_gaps_gaps {k : Bool → T → Prop} : eqT (.str "gaps") (.str "gaps") k = k false (.bl true) := by unfold eqT; simp only [eo_evens, eo_sums, eo_pairs, eo_gaps, ev_str, Bool.and_self, true_and]; rfl
theorem q_ns_gaps_gaps {k : Bool → T → Prop} : neT (.str "gaps") (.str "gaps") k = k false (.bl false) := by unfold neT; simp only [eo_evens, eo_sums, eo_pairs, eo_gaps, ev_str, Bool.and_self, true_and]; rfl
/-! ### rows of ints, compared -/
theorem ok1_tupI {r : List Int} : Ok1 1 (tupI r) := ok1_tup ok1_ints
theorem ok1_rows {rs : List (List Int)} : ∀ t ∈ rs.map tupI, Ok1 1 t := fun t ht => by
  obtain ⟨r, _, rfl⟩ := List.mem_map.mp ht
  exact ok1_tupI
theorem eo_rows {rs : List (List Int)} : eqOk (.lst (rs.map tupI)) = true := (ok1_lst ok1_rows).eqOk (by decide)
theorem ev_tupI {a b : List Int} : T.eqv (tupI a) (tupI b) = decide (a = b) := ev_intsT
theorem tupI_inj {a b : List Int} : tupI a = tupI b ↔ a = b := by
  unfold tupI
  constructor
  · intro h
    injection h with h
    exact map_int_inj.mp h
  · intro h; rw [h]
theorem map_tupI_inj : ∀ {a b : List (List Int)}, a.map tupI = b.map tupI ↔ a = b
  | [], [] => by simp
  | [], _ :: _ => by simp
  | _ :: _, [] => by simp
  | x :: a, y :: b => by
    rw [List.map_cons, List.map_cons, List.cons.injEq, List.cons.injEq, tupI_inj, map_tupI_inj]
theorem ev_rows {a b : List (List Int)} : T.eqv (.lst (a.map tupI)) (.lst (b.map tupI)) = decide (a = b) := by
  rw [ev_lst, Bool.eq_iff_iff, eqvAll_iff, map_tupI_inj, decide_eq_true_eq]
  intro x hx y hy
  obtain ⟨i, _, rfl⟩ := List.mem_map.mp hx
  obtain ⟨j, _, rfl⟩ := List.mem_map.mp hy
  rw [ev_tupI, decide_eq_true_eq, tupI_inj]
theorem q_eq_rows {a b : List (List Int)} {k : Bool → T → Prop} : eqT (.lst (a.map tupI)) (.lst (b.map tupI)) k = k false (.bl (decide (a = b))) := by unfold eqT; rw [eo_rows, eo_rows, ev_rows]; simp
theorem q_ne_rows {a b : List (List Int)} {k : Bool → T → Prop} : neT (.lst (a.map tupI)) (.lst (b.map tupI)) k = k false (.bl (!decide (a = b))) := by unfold neT; rw [eo_rows, eo_rows, ev_rows]; simp
theorem q_eq_rows0 {a : List (List Int)} {k : Bool → T → Prop} : eqT (.lst (a.map tupI)) (.lst []) k = k false (.bl (decide (a = []))) := q_eq_rows (b := [])
theorem q_ne_rows0 {a : List (List Int)} {k : Bool → T → Prop} : neT (.lst (a.map tupI)) (.lst []) k = k false (.bl (!decide (a = []))) := q_ne_rows (b := [])
theorem q_eq_t0 {a : List Int} {k : Bool → T → Prop} : eqT (.tup (a.map T.int)) (.tup []) k = k false (.bl (decide (a = []))) := q_eq_3 (ms := [])
theorem q_ne_t0 {a : List Int} {k : Bool → T → Prop} : neT (.tup (a.map T.int)) (.tup []) k = k false (.bl (!decide (a = []))) := q_ne_3 (ms := [])
theorem q_eq_l0 {a : List Int} {k : Bool → T → Prop} : eqT (.lst (a.map T.int)) (.lst []) k = k false (.bl (decide (a = []))) := q_eq_2 (ms := [])
/-! ### a list unpacked -/
theorem map_row {α : Type} (f : α → List Int) (xs : List α) : xs.map (fun x => tupI (f x)) = (xs.map f).map tupI := by rw [List.map_map]; rfl
theorem q_is_r {w : List Int} {o : Bool} {k : Bool → T → Prop} : isT o (tupI w) .non k = k false (.bl o) := q_is_4
theorem isi_tuple_r {w : List Int} : isiT "tuple" (tupI w) = some true := isi_tuple_tup
theorem isi_list_r {w : List Int} : isiT "list" (tupI w) = some false := isi_list_tup
/-- a list or a tuple of ints -/
def sqT (b : Bool) (xs : List Int) : T := if b = true then .lst (xs.map T.int) else .tup (xs.map T.int)
theorem sqT_t {xs : List Int} : sqT true xs = .lst (xs.map T.int) := rfl
theorem sqT_f {xs : List Int} : sqT false xs = .tup (xs.map T.int) := rfl
/-- put behind where it is new -/
def addI (zs : List Int) (v : Int) : List Int := if v ∈ zs then zs else zs ++ [v]
theorem addI_mem {zs : List Int} {v x : Int} : x ∈ addI zs v ↔ x ∈ zs ∨ x = v := by
  unfold addI
  by_cases h : v ∈ zs
  · rw [if_pos h]
    exact ⟨.inl, fun q => q.elim id fun e => e ▸ h⟩
  · rw [if_neg h, List.mem_append, List.mem_singleton]
theorem addI_nd {zs : List Int} {v : Int} (q : zs.Nodup) : (addI zs v).Nodup := by
  unfold addI
  by_cases h : v ∈ zs
  · rw [if_pos h]; exact q
  · rw [if_neg h, List.nodup_append]
    exact ⟨q, by simp, fun x hx y hy e => by rw [List.mem_singleton.mp hy] at e; exact h (e ▸ hx)⟩
theorem addI_len {zs : List Int} {v : Int} : (addI zs v).length ≤ zs.length + 1 := by
  unfold addI
  split
  · omega
  · simp
theorem addI_pos {zs : List Int} {v : Int} : 0 < (addI zs v).length := List.length_pos_iff.mpr (List.ne_nil_of_mem (addI_mem.mpr (.inr rfl)))
theorem dPutK_ints {zs : List Int} {v : Int} : dPutK (zs.map Sum.inl) (Sum.inl v) = (addI zs v).map Sum.inl := by
  unfold dPutK addI
  have e : kMem (Sum.inl v) (zs.map Sum.inl) = decide (v ∈ zs) := by
    rw [Bool.eq_iff_iff, kMem_iff, decide_eq_true_eq, List.mem_map]
    constructor
    · rintro ⟨a, ha, e⟩
      rw [← Sum.inl.inj e]
      exact ha
    · exact fun h => ⟨v, h, rfl⟩
  rw [e]
  by_cases h : v ∈ zs
  · simp [h]
  · simp [h]
theorem srt_lt {zs : List Int} (h : zs.Nodup) : (srt zs).Pairwise (· < ·) := by
  have h1 := srt_le zs
  have h2 : (srt zs).Nodup := (srt_perm zs).nodup_iff.mpr h
  rw [List.nodup_iff_pairwise_ne] at h2
  exact (List.Pairwise.and h1 h2).imp fun h => by omega
theorem srt_id {zs : List Int} (h : zs.Pairwise (· ≤ ·)) : srt zs = zs := (srt_uniq (List.Perm.refl _) h).symm
/-! ### rules -/
inductive Rl where
  | evens | sums | pairs | gaps (ss : List Int)
def ruleT : Rl → T
  | .evens => .tup [.str "evens"]
  | .sums => .tup [.str "sums"]
  | .pairs => .tup [.str "pairs"]
  | .gaps ss => .tup [.str "gaps", .tup (ss.map T.int)]
theorem q_r0_e {k : T → Prop} : ixT (ruleT .evens) (.int 0) k = k (.str "evens") := by unfold ruleT; rw [q_ix_1, atI_0, ex_some]
theorem q_r0_s {k : T → Prop} : ixT (ruleT .sums) (.int 0) k = k (.str "sums") := by unfold ruleT; rw [q_ix_1, atI_0, ex_some]
theorem q_r0_p {k : T → Prop} : ixT (ruleT .pairs) (.int 0) k = k (.str "pairs") := by unfold ruleT; rw [q_ix_1, atI_0, ex_some]
theorem q_r0_g {ss : List Int} {k : T → Prop} : ixT (ruleT (.gaps ss)) (.int 0) k = k (.str "gaps") := by unfold ruleT; rw [q_ix_1, atI_0, ex_some]
theorem q_r1_g {ss : List Int} {k : T → Prop} : ixT (ruleT (.gaps ss)) (.int 1) k = k (.tup (ss.map T.int)) := by unfold ruleT; rw [q_ix_1, atI_1, ex_some]
theorem b2i_t : TL.b2i true = 1 := rf rfl
theorem b2i_f : TL.b2i false = 0 := rf rfl
/-! ### rising lists -/
theorem rngI_pw {lo : Int} {n : Nat} : (rngI lo n).Pairwise (· < ·) := by
  unfold rngI
  rw [List.pairwise_map]
  exact List.pairwise_lt_range.imp fun h => by omega
theorem map_pw {f : Int → Int} {xs : List Int} (h : xs.Pairwise (· < ·)) (hf : ∀ a ∈ xs, ∀ b ∈ xs, a < b → f a < f b) : (xs.map f).Pairwise (· < ·) := by
  rw [List.pairwise_map]
  exact h.imp_of_mem fun ha hb hab => hf _ ha _ hb hab
/-! ### any rule's word -/
def rnm : Rl → Str
  | .evens => "evens"
  | .sums => "sums"
  | .pairs => "pairs"
  | .gaps _ => "gaps"
def isS : Rl → Bool
  | .sums => true
  | _ => false
def isP : Rl → Bool
  | .pairs => true
  | _ => false
theorem q_rg0 {r : Rl} {k : T → Prop} : ixT (ruleT r) (.int 0) k = k (.str (rnm r)) := by
  cases r
  · exact q_r0_e
  · exact q_r0_s
  · exact q_r0_p
  · exact q_r0_g
theorem q_rgs {r : Rl} {k : Bool → T → Prop} : eqT (.str (rnm r)) (.str "sums") k = k false (.bl (isS r)) := by
  cases r
  · exact q_es_evens_sums
  · exact q_es_sums_sums
  · exact q_es_pairs_sums
  · exact q_es_gaps_sums
theorem q_rgsn {r : Rl} {k : Bool → T → Prop} : neT (.str (rnm r)) (.str "sums") k = k false (.bl (!isS r)) := by
  cases r
  · exact q_ns_evens_sums
  · exact q_ns_sums_sums
  · exact q_ns_pairs_sums
  · exact q_ns_gaps_sums
theorem q_rgp {r : Rl} {k : Bool → T → Prop} : eqT (.str (rnm r)) (.str "pairs") k = k false (.bl (isP r)) := by
  cases r
  · exact q_es_evens_pairs
  · exact q_es_sums_pairs
  · exact q_es_pairs_pairs
  · exact q_es_gaps_pairs
theorem q_rgpn {r : Rl} {k : Bool → T → Prop} : neT (.str (rnm r)) (.str "pairs") k = k false (.bl (!isP r)) := by
  cases r
  · exact q_ns_evens_pairs
  · exact q_ns_sums_pairs
  · exact q_ns_pairs_pairs
  · exact q_ns_gaps_pairs
theorem b2i_01 (b : Bool) : 0 ≤ TL.b2i b ∧ TL.b2i b ≤ 1 := by cases b <;> decide
end TL

namespace TL
open PySem L2
section
variable {X : Cx} {B : Bs} {pos : Pos}
/-! ### a list taken apart -/
def tgLst (n : Nat) (gs : TTGs) : TTG := fun t τ P => match t with
  | .lst ts => ts.length = n ∧ gs ts τ P
  | _ => False
theorem z_tgL {n : Nat} {xs : List T} {tgs : TTGs} {τ : TSt} {Pg : TSt → Prop} : tgLst n tgs (.lst xs) τ Pg = (xs.length = n ∧ tgs xs τ Pg) := rf rfl
theorem tpg_lst {es : List Expr} {k : Nat} {gs : TTGs} {n : Nat} {is : List Nat} (hc : X.calm = true) (h : TPGs X B is es gs) (hn : (assignEach es X.env).length = n := by rfl) (hst : (assignEach es X.env).findIdx? (·.1) = none := by rfl) :
    TPG X B is (.Tuple es k pos) (tgLst n gs) := ⟨PG.imp (pg_lst hc h.pgs hn hst) fun v σ H Q h => by
  obtain ⟨F, τ, t, P, I, r, h, q⟩ := h
  cases t with
  | lst ts =>
    obtain ⟨a, vs, rfl, sq, z, rs⟩ := r
    exact ⟨a, vs, rfl, .inl (.inl (I.wf.sub _ _ sq)), by rw [← rs.len]; exact h.1, F, τ, ts, P, I, rs, h.2, q⟩
  | _ => exact h.elim⟩
/-! ### a, b = x, y -/
def parK (ts : List T) (τ : TSt) (i j : Nat) (P : TSt → Prop) : Prop := match ts with
  | [a, b] => setS τ i ⟨.frz, false, a⟩ fun τ1 => setS τ1 j ⟨.frz, false, b⟩ P
  | _ => False
def ttPar (i j : Nat) (tl : TTL) : TTS := fun D τ => tl τ fun ts τ1 => parK ts τ1 i j D.nx
theorem parK_2 {a b : T} {τ : TSt} {i j : Nat} {P : TSt → Prop} : parK [a, b] τ i j P = setS τ i ⟨.frz, false, a⟩ (@box _ ⟨fun τ1 => setS τ1 j ⟨.frz, false, b⟩ P⟩) := rf rfl
theorem z_par {i j : Nat} {tl : TTL} {D : TEnds} {τ : TSt} : ttPar i j tl D τ = tl τ (@box _ ⟨fun ts τ1 => parK ts τ1 i j D.nx⟩) := rf rfl
theorem tps_par {i j : Nat} {x y : Str} {a b : Expr} {tl : TTL} {px py pt : Pos} {kt k2 pt2} (hc : X.calm = true) (hN : X.N.Nodup) (hi : X.N[i]? = some x) (hj : X.N[j]? = some y) (hij : i ≠ j)
    (hx : X.env.scope.names.lookup x = some .local) (hy : X.env.scope.names.lookup y = some .local) (ha : TPL X B [a, b] tl)
    (hw : swappedStores [.Tuple [.Name x px, .Name y py] kt pt] (.Tuple [a, b] k2 pt2) X.env = pure (some [x, y]))
    (hs : swapsWithSole [.Tuple [.Name x px, .Name y py] kt pt] (.Tuple [a, b] k2 pt2) pos.line X.env = pure false := by rfl) :
    TPS X B (.Assign [.Tuple [.Name x px, .Name y py] kt pt] (.Tuple [a, b] k2 pt2) pos) (ttPar i j tl) :=
  ⟨PS.imp (ps_par hc hN hi hj hij hx hy ha.pa hw hs) fun D σ H h => by
  obtain ⟨F, τ, TD, I, h, ok⟩ := h
  refine ⟨F, τ, _, I, h, fun ts τ1 F1 H1 vs h1 I1 s1 r1 => ?_⟩
  match ts, vs, r1, h1 with
  | [a, b], _, ⟨v, _, rfl, ra, w, _, rfl, rb, rfl⟩, h1 =>
    have h1 : setS τ1 i ⟨.frz, false, a⟩ (fun τ2 => setS τ2 j ⟨.frz, false, b⟩ TD.nx) := h1
    obtain ⟨h2, hi1, nl1⟩ := setS.inv h1
    have h2 : setS (τ1.set i (some ⟨.frz, false, a⟩)) j ⟨.frz, false, b⟩ TD.nx := h2
    obtain ⟨h3, hi2, nl2⟩ := setS.inv h2
    have I2 := store_frz I1 hi1 ra
    have I3 := store_frz I2 hi2 rb
    exact ⟨v, w, rfl, ok.nx F1 H1 _ _ I3 (s1.ss.trans ((store_ss nl1).trans (store_ss nl2))) h3⟩⟩
end
/-! ### a row among rows -/
theorem any_tupI {rs : List (List Int)} {w : List Int} : ((rs.map tupI).any fun t => T.eqv t (tupI w)) = decide (w ∈ rs) := by
  induction rs with
  | nil => simp
  | cons r rs ih =>
    rw [List.map_cons, List.any_cons, ih, ev_tupI, Bool.eq_iff_iff]
    simp only [Bool.or_eq_true, decide_eq_true_eq, List.mem_cons]
    exact or_congr_left eq_comm
theorem q_in_rows {o : Bool} {rs : List (List Int)} {w : List Int} {k : Bool → T → Prop} : inT o (tupI w) (.lst (rs.map tupI)) k = k false (.bl (o != decide (w ∈ rs))) := by
  unfold inT
  rw [show eqOk (tupI w) = true from ok1_tupI.eqOk (by decide), eo_rows]
  simp only [any_tupI]
  simp
/-! ### a thing is as itself -/
theorem eqv_self {t : T} (h : eqOk t = true) : T.eqv t t = true := PySem.SeqAt.eqv_refl _ (PySem.SeqAt.canLay_of_shaped (Bool.and_eq_true_iff.mp h).2)
theorem q_eq_self {t : T} {k : Bool → T → Prop} (h : eqOk t = true) : eqT t t k = k false (.bl true) := by
  unfold eqT
  rw [h, eqv_self h]
  simp
theorem q_ne_self {t : T} {k : Bool → T → Prop} (h : eqOk t = true) : neT t t k = k false (.bl false) := by
  unfold neT
  rw [h, eqv_self h]
  simp
end TL

namespace TL
open PySem PySem.Spec PyProof.Rows L2
theorem nodup_len : ∀ {l m : List Int}, l.Nodup → (∀ x ∈ l, x ∈ m) → l.length ≤ m.length
  | [], _, _, _ => Nat.zero_le _
  | x :: l, m, hn, h => by
    have hx := h x List.mem_cons_self
    have h2 : l.length ≤ (m.erase x).length := nodup_len (List.nodup_cons.mp hn).2 fun y hy => (List.mem_erase_of_ne (fun e => (List.nodup_cons.mp hn).1 (by subst e; exact hy))).mpr (h y (List.mem_cons_of_mem _ hy))
    rw [List.length_erase_of_mem hx] at h2
    have := List.length_pos_of_mem hx
    rw [List.length_cons]
    omega
/-! ### len(set(list)), sorted(set(tuple)) -/
def metI (ns : List Int) : List Int := firstMet (fun i => ns.getD i 0) ns.length
section
variable {X : Cx} {a : Expr} {ta : TE} {p p2 q pos : Pos}
def rLenSet (K : PySem.W.Frag) : List V → Hp → VK → Prop := fun xs H Q => ∃ (l : Addr) (ns : List Int), xs = [V.ref l] ∧ SqL K H l (ns.map V.int) ∧ ns.length ≤ 4000 ∧ Q (.int (metI ns).length) H
theorem pe_lenSetG (hc : X.calm = true) (hg : Gl X "len") (hm : X.mg "len" = none) (hg2 : Gl X "set") (hm2 : X.mg "set" = none) (ha : PE X a ta)
    (na : starEach [a] X.env = (false, eval a X.env) :: starEach [] X.env := by rfl) : PE X (.Call (.Name "len" p) [.Call (.Name "set" p2) [a] [] q] [] pos) (fun σ H Q => ta σ H fun x H1 => rLenSet X.K [x] H1 Q) := by
  refine ⟨fun pins s σ H Q I h => ?_⟩
  refine Call_ (ld_blt I hg hm PySem.boot_len ?_)
  refine callWith_builtin1 (args_cons ?_ rfl) rfl rfl
  refine Call_ (ld_blt I hg2 hm2 PyProof.Rows.boot_set ?_)
  refine callWith_type1 (args_cons (thn (ha.run pins s σ H _ I h) fun v s1 ⟨x, H1, I1, r1, q1⟩ => args_nil ?_) na) na rfl
  obtain ⟨l, ns, ex, hq, h1, q1⟩ := q1
  cases ex
  cases r1
  obtain ⟨its, r, pl, hz⟩ := I1.list hq
  have hl : its.toArray.size = ns.length := by rw [List.size_toArray, ← r.length, List.length_map]
  refine call_set_list (I1.ok.hd hc) pl.isList (ns := ns) (by simpa using r.ints) (by unfold scanBound; omega) fun h' tk hS hk => ?_
  rw [hl] at hS
  refine args_nil ?_
  obtain ⟨o, es, ep, t, ho, hex, hd, _, _, _, hf, hn⟩ := hS
  have I2 : Inv X pins σ H1 { s1 with heap := h', toks := tk } := I1.kept fun b o e => hk b o (Heap.lt_size e) e
  have hle := firstMet_length_le (fun i => ns.getD i 0) ns.length
  refine call_len_set ho hex hd hf (by rw [hn] <;> omega) ⟨.int (metI ns).length, H1, I2.tok _, ⟨_, by rw [hn]; rfl⟩, q1⟩
theorem sorted_set_ok {pins : List (Addr × Obj)} {σ : L2.St} {H : Hp} {s : Shared} {b : Addr} {S : Int → Bool} {n : Nat} {Q : VK} (hc : X.calm = true) (I : Inv X pins σ H s) (R : SetR X.w s.heap b S n) (h64 : n < 64)
    (q : ∀ (ms : List Int) (p : Addr), ms.Pairwise (· < ·) → (∀ k, k ∈ ms ↔ S k = true) → H p = none → Q (.ref p) (upd H p (.lst (ms.map V.int)))) :
    wpAny (model X.prog X.w) X.A (call (.builtin "sorted") [.ref b]) (EP X pins σ Q) X.xe s := by
  refine sorted_set R (I.ok.hd hc) h64 fun s' p out c ns k g o hp hg hi hs hm hl => ?_
  have hlen : (ns.map V.int).length ≤ sizeLine := by rw [List.length_map, hl, sizeLine_eq]; omega
  have hn : H p = none := I.hok.fresh hp
  have J : Inv X pins σ (upd H p (.lst (ns.map V.int))) { s with heap := s'.heap, gens := s'.gens, drawn := s'.drawn, toks := s'.toks } :=
    I.call (ch := []) (Un.laid k hp hn) (I.hok.laid k hp ⟨hlen, out.toList, c, vals_of_ints hi, hg⟩) (by rw [g]; exact I.bare) (fun _ z => nomatch z)
  have e : s' = { s with heap := s'.heap, gens := s'.gens, drawn := s'.drawn, toks := s'.toks } := by
    cases s'
    cases s
    cases o
    rfl
  rw [e]
  exact ⟨.ref p, _, J, rfl, q ns p hs hm hn⟩
def rSortSet (K : PySem.W.Frag) : List V → Hp → VK → Prop := fun xs H Q => ∃ (l : Addr) (ns : List Int), xs = [V.ref l] ∧ SqT K H l (ns.map V.int) ∧ ns.length < 64 ∧
  ∀ (ms : List Int) (p : Addr), ms.Pairwise (· < ·) → (∀ k, k ∈ ms ↔ k ∈ ns) → H p = none → Q (.ref p) (upd H p (.lst (ms.map V.int)))
theorem pe_sortSet (hc : X.calm = true) (hg : Gl X "sorted") (hm : X.mg "sorted" = none) (hg2 : Gl X "set") (hm2 : X.mg "set" = none) (ha : PE X a ta)
    (na : starEach [a] X.env = (false, eval a X.env) :: starEach [] X.env := by rfl) : PE X (.Call (.Name "sorted" p) [.Call (.Name "set" p2) [a] [] q] [] pos) (fun σ H Q => ta σ H fun x H1 => rSortSet X.K [x] H1 Q) := by
  refine ⟨fun pins s σ H Q I h => ?_⟩
  refine Call_ (ld_blt I hg hm PyProof.Rows.boot_sorted ?_)
  refine callWith_builtin1 (args_cons ?_ rfl) rfl rfl
  refine Call_ (ld_blt I hg2 hm2 PyProof.Rows.boot_set ?_)
  refine callWith_type1 (args_cons (thn (ha.run pins s σ H _ I h) fun v s1 ⟨x, H1, I1, r1, q1⟩ => args_nil ?_) na) na rfl
  obtain ⟨l, ns, ex, hq, h1, q1⟩ := q1
  cases ex
  cases r1
  obtain ⟨its, r, pl, hz⟩ := I1.tuple hq
  refine call_set_tupI ns (I1.ok.hd hc) pl (by simpa using r.ints) (by unfold scanBound; omega) fun h' tk c R hcn hk => ?_
  refine args_nil ?_
  have I2 : Inv X pins σ H1 { s1 with heap := h', toks := tk } := I1.kept hk
  exact sorted_set_ok hc I2 R (by omega) fun ms p hp hm np => q1 ms p hp (fun k => by rw [hm k, decide_eq_true_eq]) np
end
section
variable {X : Cx} {B : Bs} {e : Expr} {te : TTE} {p p2 q pos : Pos}
def lenSetT : C1 := fun t k => match t with
  | .lst ts => intsT ts fun ns => ns.length ≤ 4000 ∧ k false (.int (metI ns).length)
  | _ => False
def sortSetT : C1 := fun t k => match t with
  | .tup ts => intsT ts fun ns => ns.length < 64 ∧ ∀ ms : List Int, ms.Pairwise (· < ·) → (∀ x, x ∈ ms ↔ x ∈ ns) → k true (.lst (ms.map T.int))
  | _ => False
theorem tpe_lenSet (hc : X.calm = true) (hg : Gl X "len") (hm : X.mg "len" = none) (hg2 : Gl X "set") (hm2 : X.mg "set" = none) (he : TPE X B e te)
    (na : starEach [e] X.env = (false, eval e X.env) :: starEach [] X.env := by rfl) : TPE X B (.Call (.Name "len" p) [.Call (.Name "set" p2) [e] [] q] [] pos) (ttC1 lenSetT te) :=
  ⟨PE.imp (pe_lenSetG hc hg hm hg2 hm2 he.pe na) fun σ H Q h => by
    refine c1_imp (r := rLenSet X.K) (fun F H x t G Q s r hg k => ?_) σ H Q h
    cases t with
    | lst ts =>
      obtain ⟨ns, rfl, hl, hg⟩ := hg
      obtain ⟨a, vs, rfl, hd, z, rp⟩ := r.lst s
      rw [Reps.ints.mp rp] at hd
      exact ⟨a, ns, rfl, SqL.of hd, hl, k false _ _ F H hg (Grow.refl s) rfl⟩
    | _ => exact hg.elim⟩
theorem tpe_sortSet (hc : X.calm = true) (hg : Gl X "sorted") (hm : X.mg "sorted" = none) (hg2 : Gl X "set") (hm2 : X.mg "set" = none) (he : TPE X B e te)
    (na : starEach [e] X.env = (false, eval e X.env) :: starEach [] X.env := by rfl) : TPE X B (.Call (.Name "sorted" p) [.Call (.Name "set" p2) [e] [] q] [] pos) (ttC1 sortSetT te) :=
  ⟨PE.imp (pe_sortSet hc hg hm hg2 hm2 he.pe na) fun σ H Q h => by
    refine c1_imp (r := rSortSet X.K) (fun F H x t G Q s r hg k => ?_) σ H Q h
    cases t with
    | tup ts =>
      obtain ⟨ns, rfl, hl, hg⟩ := hg
      obtain ⟨a, vs, rfl, hd, z, rp⟩ := r.tup
      rw [Reps.ints.mp rp] at hd
      refine ⟨a, ns, rfl, SqT.mono s hd, hl, fun ms p hp hm np => ?_⟩
      refine k true _ _ _ _ (hg ms hp hm) (Grow.own s np) ⟨p, rfl, np, s.free np, _, upd_same, ?_, Reps.ints.mpr rfl⟩
      rw [List.length_map]
      have := nodup_len (l := ms) (m := ns) (hp.imp fun h => by omega) fun x hx => (hm x).mp hx
      have := sizeLine_val
      omega
    | _ => exact hg.elim⟩
theorem q_lenSet {ns : List Int} {k : Bool → T → Prop} : lenSetT (.lst (ns.map T.int)) k = (ns.length ≤ 4000 ∧ k false (.int (metI ns).length)) := by
  show intsT _ _ = _
  rw [intsT_map]
theorem q_sortSet {ns : List Int} {k : Bool → T → Prop} : sortSetT (.tup (ns.map T.int)) k = (ns.length < 64 ∧ ∀ ms : List Int, ms.Pairwise (· < ·) → (∀ x, x ∈ ms ↔ x ∈ ns) → k true (.lst (ms.map T.int))) := by
  show intsT _ _ = _
  rw [intsT_map]
end
end TL

namespace TL
open PySem PySem.Spec PyProof.Rows L2
/-! ### sorted(set(list of ints)) -/
abbrev newSetO (w : World) : Obj := { cls := .type "set", dict := none, data := .set #[] 0 (.fresh 0 0 (!w.params.followText "set-order")) }
section
variable {P : Program} {w : World} {A : Around} {E : Value → Shared → Prop} {z : Shared}
theorem set_of_lst {p : Addr} {vs : Array Value} (js : List Int) {Q : Value → Shared → Prop} (hn : A.handled = none) (L : z.heap.IsList p vs) (ij : IntsAre vs.toList js) (room : js.length + 1 < scanBound)
    (fin : ∀ (g : Heap) (tt m : Nat), SetR w g z.heap.objs.size (fun j => decide (j ∈ js)) m → m ≤ js.length → (∀ b o, z.heap.get? b = some o → g.get? b = some o) → Q (.ref z.heap.objs.size) { z with heap := g, toks := tt }) :
    wpAny (model P w) A (call (.type "set") [.ref p]) Q E z := by
  have size : vs.size = js.length := by have := ij.length; rw [Array.length_toList] at this; exact this
  obtain ⟨mc, mt, mro⟩ := F.called_set.mro
  have x1 := F.called_set.made; have x2 := F.called_set.sub
  refine wpAny_call (codeAny_of_tree ?_)
  show wpAny _ _ (callAny (Value.type "set") _) _ _ _
  refine wpAny_pure ⟨Code.quiet_builtin _ (by decide +kernel), ?_⟩
  refine codeAny_builtin F.entry_type_call ?_
  rw [Around.under_plain (weight_type_call_type _ [.ref p] []) rfl]
  have x3 := F.called_set.notType; have x4 := F.called_set.canCreate; have x5 := F.typeCall_set_1 (.ref p)
  repeat (any_goals (first | assumption | wp_step))
  refine codeAny_mono (code_set_led1 (.ref p) (E := E) (Q₁ := fun ob z1 => ob = .ref z.heap.objs.size ∧ z1 = { z with heap := z.heap.push (newSetO w) }) ⟨rfl, rfl⟩) fun r1 z1 e1 => ?_
  cases r1 with
  | error x => exact e1
  | ok fl1 =>
   cases fl1 with
   | ret ob =>
    obtain ⟨rfl, rfl⟩ := e1
    have y1 : (z.heap.push (newSetO w)).get? z.heap.objs.size = some (newSetO w) := Heap.get?_push_size _ rfl
    have y2 : Shared.TypeIs { z with heap := z.heap.push (newSetO w) } (.ref z.heap.objs.size) "set" := ⟨_, y1, rfl⟩
    have y3 := F.called_set.init.lookup; have y4 := F.called_set.init.bind (.ref z.heap.objs.size)
    repeat (any_goals (first | assumption | wp_step))
    refine codeAny_mono (codeAny_call_builtin (R := wants (fun r z2 => r = .none ∧ ∃ g tt m, z2 = { z with heap := g, toks := tt } ∧ SetR w g z.heap.objs.size (fun j => decide (j ∈ js)) m ∧ m ≤ js.length ∧ (∀ b o, z.heap.get? b = some o → g.get? b = some o)) E)
        F.called_set.init.plain F.entry_set_init (check_set_init_1 y2 ?_)) fun r2 z2 e2 => ?_
    · obtain ⟨lo, lo1, lo2, ln, lo3⟩ := L
      cases lo with
      | mk c1 c2 c3 c4 =>
      simp only at lo2 lo3
      subst lo2; subst lo3
      have lo4 : (z.heap.push (newSetO w)).get? p = some { cls := .type "list", dict := c2, data := .seq vs ln, slots := c4 } := Heap.get?_push_of_some _ lo1
      have s1 := F.sub_list_set; have s2 := F.sub_list_frozenset
      have s3 : ((Value.type "list") == (Value.type "dict")) = false := by decide
      have L1 : (z.heap.push (newSetO w)).IsList p vs := ⟨_, lo4, rfl, ln, rfl⟩
      unfold Builtin.«set.__init__» noKeywords Builtin.Frozenset.updateFrom
      generalize hpi : pyIter = pi'
      wp_walk
      subst hpi
      refine wpAny_pyIter_list L1 ?_
      refine wpAny_bind (wpAny_runValue ?_)
      have pl : p < z.heap.objs.size := Heap.lt_size lo1
      have h3 : A.in1.in1.in1.handled = none := by simp [hn]
      have sz1 : (z.heap.push (newSetO w)).objs.size = z.heap.objs.size + 1 := Heap.size_push _ _
      have ne1 : p ≠ (z.heap.push (newSetO w)).objs.size := by rw [sz1]; exact Nat.ne_of_lt (Nat.lt_succ_of_lt pl)
      have ne2 : z.heap.objs.size ∉ [(z.heap.push (newSetO w)).objs.size, p] := by
        rw [sz1]
        intro hm
        rcases List.mem_cons.mp hm with q | q
        · exact absurd q (Nat.ne_of_lt (Nat.lt_succ_self _))
        · exact absurd (List.mem_singleton.mp q) (Nat.ne_of_gt pl)
      have each : ∀ (i : Nat) (v : Value), vs[i]? = some v → ∃ k t, js[i]? = some k ∧ v = .int k t := fun i v hv => by
        have hi : i < js.length := by rw [← size]; exact (Array.getElem?_eq_some_iff.mp hv).1
        obtain ⟨t, e⟩ := ij.int_at i v (by rw [Array.getElem?_toList]; exact hv)
        refine ⟨js[i], t, List.getElem?_eq_getElem hi, ?_⟩
        rw [e, List.getD_eq_getElem?_getD, List.getElem?_eq_getElem hi]
        rfl
      refine set_update_ints ((Walks.list h3 _ p ne1 vs).toS) z.heap.objs.size ne2 js size room each (vs.size - 0) 0 _ (by omega) (Nat.zero_le _) ⟨⟨_, Heap.get?_push_size _ rfl, rfl, rfl⟩, (L1.push _)⟩ ?c1 ?c2
      case c1 => exact ⟨0, Nat.le_refl 0, setR_new_at (Heap.get?_push_of_some _ y1)⟩
      case c2 =>
        rintro ⟨g, gg, gd, gt, go⟩ m mv hm R
        have e1 : gg = z.gens := mv.gens
        have e2 : gd = z.drawn := mv.drawn
        have e3 : go = z.os := mv.os
        subst e1 e2 e3
        show wpAny _ _ _ _ _ _
        refine wpAny_pure ?_
        show wpAny _ _ (ret _) _ _ _
        refine wpAny_pure ⟨rfl, g, gt, m, rfl, R, size ▸ hm, fun b o e => ?_⟩
        have hb := Heap.lt_size e
        refine mv.heap b o (fun hmem => ?_) (Heap.get?_push_of_some _ (Heap.get?_push_of_some _ e))
        rw [sz1] at hmem
        rcases List.mem_cons.mp hmem with q | q
        · exact absurd q (Nat.ne_of_lt hb)
        · exact absurd (List.mem_singleton.mp q) (Nat.ne_of_lt (Nat.lt_succ_of_lt hb))
    · cases r2 with
      | error x => exact e2
      | ok fl2 =>
        cases fl2 with
        | ret rr =>
          obtain ⟨rfl, g, tt, m, rfl, R, hm, hk⟩ := e2
          repeat (any_goals (first | assumption | wp_step))
          exact fin _ _ _ R hm hk
        | _ => exact e2.elim
   | _ => exact e1.elim
end
section
variable {X : Cx} {a : Expr} {ta : TE} {p p2 q pos : Pos}
def rSortSetL (K : PySem.W.Frag) : List V → Hp → VK → Prop := fun xs H Q => ∃ (l : Addr) (ns : List Int), xs = [V.ref l] ∧ SqL K H l (ns.map V.int) ∧ ns.length < 64 ∧
  ∀ (ms : List Int) (p : Addr), ms.Pairwise (· < ·) → (∀ k, k ∈ ms ↔ k ∈ ns) → H p = none → Q (.ref p) (upd H p (.lst (ms.map V.int)))
theorem pe_sortSetL (hc : X.calm = true) (hg : Gl X "sorted") (hm : X.mg "sorted" = none) (hg2 : Gl X "set") (hm2 : X.mg "set" = none) (ha : PE X a ta)
    (na : starEach [a] X.env = (false, eval a X.env) :: starEach [] X.env := by rfl) : PE X (.Call (.Name "sorted" p) [.Call (.Name "set" p2) [a] [] q] [] pos) (fun σ H Q => ta σ H fun x H1 => rSortSetL X.K [x] H1 Q) := by
  refine ⟨fun pins s σ H Q I h => ?_⟩
  refine Call_ (ld_blt I hg hm PyProof.Rows.boot_sorted ?_)
  refine callWith_builtin1 (args_cons ?_ rfl) rfl rfl
  refine Call_ (ld_blt I hg2 hm2 PyProof.Rows.boot_set ?_)
  refine callWith_type1 (args_cons (thn (ha.run pins s σ H _ I h) fun v s1 ⟨x, H1, I1, r1, q1⟩ => args_nil ?_) na) na rfl
  obtain ⟨l, ns, ex, hq, h1, q1⟩ := q1
  cases ex
  cases r1
  obtain ⟨its, r, pl, hz⟩ := I1.list hq
  refine set_of_lst ns (I1.ok.hd hc) pl.isList (by simpa using r.ints) (by unfold scanBound; omega) fun h' tk c R hcn hk => ?_
  refine args_nil ?_
  have I2 : Inv X pins σ H1 { s1 with heap := h', toks := tk } := I1.kept hk
  exact sorted_set_ok hc I2 R (by omega) fun ms p hp hm np => q1 ms p hp (fun k => by rw [hm k, decide_eq_true_eq]) np
end
section
variable {X : Cx} {B : Bs} {e : Expr} {te : TTE} {p p2 q pos : Pos}
def sortSetLT : C1 := fun t k => match t with
  | .lst ts => intsT ts fun ns => ns.length < 64 ∧ ∀ ms : List Int, ms.Pairwise (· < ·) → (∀ x, x ∈ ms ↔ x ∈ ns) → k true (.lst (ms.map T.int))
  | _ => False
theorem tpe_sortSetL (hc : X.calm = true) (hg : Gl X "sorted") (hm : X.mg "sorted" = none) (hg2 : Gl X "set") (hm2 : X.mg "set" = none) (he : TPE X B e te)
    (na : starEach [e] X.env = (false, eval e X.env) :: starEach [] X.env := by rfl) : TPE X B (.Call (.Name "sorted" p) [.Call (.Name "set" p2) [e] [] q] [] pos) (ttC1 sortSetLT te) :=
  ⟨PE.imp (pe_sortSetL hc hg hm hg2 hm2 he.pe na) fun σ H Q h => by
    refine c1_imp (r := rSortSetL X.K) (fun F H x t G Q s r hg k => ?_) σ H Q h
    cases t with
    | lst ts =>
      obtain ⟨ns, rfl, hl, hg⟩ := hg
      obtain ⟨a, vs, rfl, hd, z, rp⟩ := r.lst s
      rw [Reps.ints.mp rp] at hd
      refine ⟨a, ns, rfl, SqL.of hd, hl, fun ms p hp hm np => ?_⟩
      refine k true _ _ _ _ (hg ms hp hm) (Grow.own s np) ⟨p, rfl, np, s.free np, _, upd_same, ?_, Reps.ints.mpr rfl⟩
      rw [List.length_map]
      have := nodup_len (l := ms) (m := ns) (hp.imp fun h => by omega) fun x hx => (hm x).mp hx
      have := sizeLine_val
      omega
    | _ => exact hg.elim⟩
theorem q_sortSetL {ns : List Int} {k : Bool → T → Prop} : sortSetLT (.lst (ns.map T.int)) k = (ns.length < 64 ∧ ∀ ms : List Int, ms.Pairwise (· < ·) → (∀ x, x ∈ ms ↔ x ∈ ns) → k true (.lst (ms.map T.int))) := by
  show intsT _ _ = _
  rw [intsT_map]
end
end TL

namespace TL
open PySem PySem.Spec PyProof.Rows L2
section
variable {X : Cx} {B : Bs} {e a b : Expr} {te ta tb : TTE} {p p2 q pos : Pos}
/-! ### a module's constants -/
theorem tpe_const {x : Str} {t : T} (hg : Gl X x) (h : ∃ v u, X.mg x = some u ∧ RelV v u ∧ ∀ F, Rep X.K F t v) (hd : (x == ("__debug__" : Str)) = false := by decide) : TPE X B (.Name x pos) (tk t) := by
  obtain ⟨v, u, hm, r, rp⟩ := h
  refine ⟨PE.imp (pe_glob hg hm r hd) fun σ H Q h => ?_⟩
  obtain ⟨F, τ, P, I, ht, hq⟩ := h
  exact hq (.val false t) τ F H v ht I Stp.refl (rp F) trivial
theorem rep_tupK {K : PySem.W.Frag} {a : Addr} {od : Option Addr} {its : Array Value} {n : Nat} {sl : Array (Option Value)} {vs : List V} {ts : List T} (h : K.lookup a = some ⟨.type "tuple", od, .seq its n, sl⟩) (hz : its.size ≤ 1000) (hv : Vals vs its.toList) (hr : ∀ F, Reps K F ts vs) (F : Hp) :
    Rep K F (.tup ts) (.ref a) := by
  have sz := sizeLine_val
  refine ⟨a, vs, rfl, .inr ⟨_, its, n, h, rfl, rfl, by omega, hv⟩, ?_, hr F⟩
  rw [hv.length, Array.length_toList]
  omega
/-! ### list(range) -/
def ttLRg1 (te : TTE) : TTE := fun τ P => te τ fun r τ1 => inK (r.t τ1) fun n => RgOk 0 n ∧ P (.val true (.lst (rngT 0 n.toNat))) τ1
def ttLRg2 (ta tb : TTE) : TTE := fun τ P => ta τ fun ra τ1 => tb τ1 fun rb τ2 => inK (ra.t τ2) fun i => inK (rb.t τ2) fun j => RgOk i j ∧ P (.val true (.lst (rngT i (j - i).toNat))) τ2
theorem inK_inv {t : T} {k : Int → Prop} (h : inK t k) : ∃ i, t = .int i ∧ k i := by
  cases t with
  | int i => exact ⟨i, rfl, h⟩
  | _ => exact h.elim
theorem rg_rep {K : PySem.W.Frag} {F : Hp} {i j : Int} : Reps K F (rngT i (j - i).toNat) (rgV i j) := by
  have e : rngT i (j - i).toNat = ((List.range (j - i).toNat).map fun k : Nat => i + (k : Int)).map T.int := by
    unfold rngT
    rw [List.map_map]
    rfl
  have e2 : rgV i j = ((List.range (j - i).toNat).map fun k : Nat => i + (k : Int)).map V.int := by
    unfold rgV
    rw [List.map_map]
    rfl
  rw [e, e2]
  exact Reps.ints.mpr rfl
theorem rg_fin {F H : Hp} {σ : L2.St} {τ : TSt} {i j : Int} {Q : VK} {q : Addr} (I : Inn X.K B F H σ τ) (ok : RgOk i j) (nq : H q = none)
    (k : ∀ F' H', Inn X.K B F' H' σ τ → Stp F H σ τ F' H' τ → RR X.K F' H' σ τ (.ref q) (.val true (.lst (rngT i (j - i).toNat))) → Fresh H (.ref q) (.val true (.lst (rngT i (j - i).toNat))) → Q (.ref q) H') : Q (.ref q) (upd H q (.lst (rgV i j))) := by
  have g : Grow F H F (upd H q (.lst (rgV i j))) := Grow.own I.wf.sub nq
  have hl : (rgV i j).length ≤ sizeLine := by
    rw [rgV_length]
    have := ok.2.2.2.2
    have := sizeLine_val
    omega
  obtain ⟨rr, fr⟩ := RG.rr (v := .ref q) (k := true) (t := .lst (rngT i (j - i).toNat)) I.wf g ⟨q, rfl, nq, I.wf.sub.free nq, rgV i j, upd_same, hl, rg_rep⟩
  exact k _ _ (I.step (g.wf I.wf) g.step) g.step rr fr
theorem tpe_lrg1 (hc : X.calm = true) (hg : Gl X "list") (hm : X.mg "list" = none) (hg2 : Gl X "range") (hm2 : X.mg "range" = none) (he : TPE X B e te)
    (na : starEach [e] X.env = (false, eval e X.env) :: starEach [] X.env := by rfl) (na2 : starEach [.Call (.Name "range" p2) [e] [] q] X.env = (false, eval (.Call (.Name "range" p2) [e] [] q) X.env) :: starEach [] X.env := by rfl) :
    TPE X B (.Call (.Name "list" p) [.Call (.Name "range" p2) [e] [] q] [] pos) (ttLRg1 te) := by
  refine ⟨PE.imp (pe_listRg hc hg hm (prg_1 hg2 hm2 he.pe na) na2) fun σ H Q h => ?_⟩
  obtain ⟨F, τ, P, I, ht, hq⟩ := h
  refine lift.go I ht fun r τ1 F1 H1 v h1 I1 s1 r1 f1 => ?_
  obtain ⟨n, en, ok, hp⟩ := inK_inv h1
  have rd := r1.rd I1.wf
  rw [en] at rd
  refine ⟨n, rd.int, ok, fun q nq => rg_fin (i := 0) I1 ok nq fun F' H' I2 s2 r2 f2 => ?_⟩
  rw [show n - 0 = n by omega] at r2 f2
  exact hq _ _ _ _ _ hp I2 (s1.trans s2) r2 (Fresh.step s1 f2)
theorem tpe_lrg2 (hc : X.calm = true) (hg : Gl X "list") (hm : X.mg "list" = none) (hg2 : Gl X "range") (hm2 : X.mg "range" = none) (ha : TPE X B a ta) (hb : TPE X B b tb)
    (na : starEach [a, b] X.env = (false, eval a X.env) :: starEach [b] X.env := by rfl) (nb : starEach [b] X.env = (false, eval b X.env) :: starEach [] X.env := by rfl) (hp : (backTo q (starEach [b] X.env)).any (·.1) = false := by rfl)
    (na2 : starEach [.Call (.Name "range" p2) [a, b] [] q] X.env = (false, eval (.Call (.Name "range" p2) [a, b] [] q) X.env) :: starEach [] X.env := by rfl) :
    TPE X B (.Call (.Name "list" p) [.Call (.Name "range" p2) [a, b] [] q] [] pos) (ttLRg2 ta tb) := by
  refine ⟨PE.imp (pe_listRg hc hg hm (prg_2 hg2 hm2 ha.pe hb.pe na nb hp) na2) fun σ H Q h => ?_⟩
  obtain ⟨F, τ, P, I, ht, hq⟩ := h
  refine lift.go I ht fun ra τ1 F1 H1 x h1 I1 s1 r1 f1 => ?_
  refine lift.go I1 h1 fun rb τ2 F2 H2 y h2 I2 s2 r2 f2 => ?_
  have rx := (r1.step s2).rd I2.wf
  have ry := r2.rd I2.wf
  obtain ⟨i, ei, h2⟩ := inK_inv h2
  obtain ⟨j, ej, ok, hp⟩ := inK_inv h2
  rw [ei] at rx
  rw [ej] at ry
  refine ⟨i, j, rx.int, ry.int, ok, fun q nq => rg_fin I2 ok nq fun F' H' I3 s3 r3 f3 => ?_⟩
  exact hq _ _ _ _ _ hp I3 ((s1.trans s2).trans s3) r3 (Fresh.step (s1.trans s2) f3)
/-! ### d.get(k, x) -/
def dgK (d k z : T) (P : T → Prop) : Prop := match d with
  | .dct ks ts => match keyT k with
    | some key => P ((dGetT ks ts key).getD z)
    | none => False
  | _ => False
def isDT : T → Prop
  | .dct _ _ => True
  | _ => False
def ttGet2 (td tk' tx : TTE) : TTE := fun τ P => td τ fun rd τ1 => isDT (rd.t τ1) ∧ tk' τ1 fun rk τ2 => tx τ2 fun rx τ3 => frzR rx τ3 fun z τ4 => dgK (rd.t τ4) (rk.t τ4) z fun t => P (.val false t) τ4
theorem dget_non {K : PySem.W.Frag} {F : Hp} : ∀ {kvs : List (Key × V)} {ks : List Key} {ts : List T} {k : Key}, kvs.map (·.1) = ks → Reps K F ts (kvs.map (·.2)) → dGetT ks ts k = none → valV kvs k = none := by
  intro kvs ks ts k hk hr h
  cases e : valV kvs k with
  | none => rfl
  | some v =>
    exfalso
    subst hk
    induction kvs generalizing ts with
    | nil => simp [valV] at e
    | cons kv r ih =>
      cases ts with
      | nil =>
        have : (kv :: r).map (·.2) = [] := hr
        simp at this
      | cons t ts =>
        obtain ⟨v', r', e1, h1, h2⟩ := hr
        simp only [List.map_cons, List.cons.injEq] at e1
        obtain ⟨rfl, rfl⟩ := e1
        unfold dGetT at h
        unfold valV at e
        rw [List.map_cons, List.zip_cons_cons, List.find?_cons] at h
        rw [List.find?_cons] at e
        by_cases hq : kv.1 = k
        · rw [show (decide (kv.1 = k)) = true from decide_eq_true hq] at h
          cases h
        · rw [show (decide (kv.1 = k)) = false from decide_eq_false hq] at h e
          exact ih h2 e h
theorem dgK_inv {d k z : T} {P : T → Prop} (h : dgK d k z P) : ∃ ks ts key, d = .dct ks ts ∧ keyT k = some key ∧ P ((dGetT ks ts key).getD z) := by
  unfold dgK at h
  split at h
  · split at h
    · exact ⟨_, _, _, rfl, ‹_›, h⟩
    · exact h.elim
  · exact h.elim
theorem tpe_dget2 {o e f : Expr} {td tk' tx : TTE} {apos cpos : Pos} (hu : X.A.units + 1 < cLine) (ho : TPE X B o td) (he : TPE X B e tk') (hf : TPE X B f tx) (m : M2 X o "get" apos e f cpos) :
    TPE X B (.Call (.Attribute o "get" apos) [e, f] [] cpos) (ttGet2 td tk' tx) := by
  refine ⟨PE.imp (pe_dget2 hu ho.pe he.pe hf.pe m) fun σ H Q h => ?_⟩
  obtain ⟨F, τ, P, I, ht, hq⟩ := h
  refine lift.go I ht fun ra τ1 F1 H1 x h1 I1 s1 r1 f1 => ?_
  have rd1 := r1.rd I1.wf
  obtain ⟨hd1, h1⟩ := h1
  obtain ⟨a, ex, hd⟩ : ∃ a, x = .ref a ∧ IsD H1 a := by
    cases e1 : ra.t τ1 with
    | dct ks ts =>
      rw [e1] at rd1
      obtain ⟨a, kvs, e, hr, _⟩ := rd1.dct I1.wf.sub
      exact ⟨a, e, .inl ⟨kvs, hr⟩⟩
    | _ => rw [e1] at hd1; exact hd1.elim
  refine ⟨a, ex, hd, ?_⟩
  refine lift.go I1 h1 fun rb τ2 F2 H2 y h2 I2 s2 r2 f2 => ?_
  refine lift.go I2 h2 fun rc τ3 F3 H3 z h3 I3 s3 r3 f3 => ?_
  obtain ⟨u, τ4, F4, hp, I4, s4, rep, _⟩ := freeze I2 I3 s3 r3 f3 h3
  obtain ⟨ks, ts, key, ed, ek, hp⟩ := dgK_inv hp
  have rdd := (r1.step (s2.trans s4)).rd I4.wf
  have rdk := (r2.step s4).rd I4.wf
  rw [ed] at rdd
  obtain ⟨a', kvs, e', hr, z', hk, rp⟩ := rdd.dct I4.wf.sub
  rw [ex] at e'
  cases e'
  refine ⟨valV kvs key, .inl ⟨kvs, key, hr, keyT_rep rdk ek, rfl⟩, ?_⟩
  refine hq _ _ _ _ _ hp I4 ((s1.trans s2).trans s4) ?_ trivial
  cases eg : dGetT ks ts key with
  | none =>
    rw [dget_non hk rp eg]
    exact rep
  | some t =>
    obtain ⟨v, hv, rv⟩ := dGet_rep hk rp eg
    rw [hv]
    exact rv
/-! ### min, max of a list of ints; divmod -/
def minLT : C1 := fun t k => match t with
  | .lst ts => intsT ts fun ns => 0 < ns.length ∧ ∀ m : Int, m ∈ ns → (∀ y ∈ ns, m ≤ y) → k false (.int m)
  | _ => False
def maxLT : C1 := fun t k => match t with
  | .lst ts => intsT ts fun ns => 0 < ns.length ∧ ∀ m : Int, m ∈ ns → (∀ y ∈ ns, y ≤ m) → k false (.int m)
  | _ => False
theorem c_minL (hc : X.calm = true) : CalT1 X (.builtin "min") minLT := by
  refine ⟨_, cr_min hc, fun F H x t G Q s r hg k => ?_⟩
  cases t with
  | lst ts =>
    obtain ⟨ns, rfl, hl, hg⟩ := hg
    obtain ⟨a, vs, rfl, hd, z, rp⟩ := r.lst s
    rw [Reps.ints.mp rp] at hd
    exact ⟨a, ns, rfl, SqL.of hd, hl, fun m h1 h2 => k false _ _ F H (hg m h1 h2) (Grow.refl s) rfl⟩
  | _ => exact hg.elim
theorem c_maxL (hc : X.calm = true) : CalT1 X (.builtin "max") maxLT := by
  refine ⟨_, cr_max hc, fun F H x t G Q s r hg k => ?_⟩
  cases t with
  | lst ts =>
    obtain ⟨ns, rfl, hl, hg⟩ := hg
    obtain ⟨a, vs, rfl, hd, z, rp⟩ := r.lst s
    rw [Reps.ints.mp rp] at hd
    exact ⟨a, ns, rfl, SqL.of hd, hl, fun m h1 h2 => k false _ _ F H (hg m h1 h2) (Grow.refl s) rfl⟩
  | _ => exact hg.elim
theorem q_minL {ns : List Int} {k : Bool → T → Prop} : minLT (.lst (ns.map T.int)) k = (0 < ns.length ∧ ∀ m : Int, m ∈ ns → (∀ y ∈ ns, m ≤ y) → k false (.int m)) := by
  show intsT _ _ = _
  rw [intsT_map]
theorem q_maxL {ns : List Int} {k : Bool → T → Prop} : maxLT (.lst (ns.map T.int)) k = (0 < ns.length ∧ ∀ m : Int, m ∈ ns → (∀ y ∈ ns, y ≤ m) → k false (.int m)) := by
  show intsT _ _ = _
  rw [intsT_map]
def divmodT : CN := fun ts k => match ts with
  | [.int i, .int j] => (0 < j ∧ j.natAbs.log2 < 9000) ∧ k false (.tup [.int (i / j), .int (i % j)])
  | _ => False
theorem c_divmod : CalTn X (.builtin "divmod") divmodT := by
  refine ⟨_, call_divmodW, fun F H xs ts G Q s r hg k => ?_⟩
  unfold divmodT at hg
  split at hg
  · obtain ⟨v, vr, rfl, e1, v2, vr2, rfl, e2, e3⟩ := r
    cases e1
    cases e2
    cases e3
    obtain ⟨⟨h1, h2⟩, hg⟩ := hg
    refine ⟨_, _, rfl, ⟨h1, PyProof.noPylong_of_log2 h2⟩, fun p np => ?_⟩
    have nF : F p = none := s.free np
    refine k false _ _ _ _ hg (Grow.frz s np) ⟨p, _, rfl, .inl (.inl upd_same), (by show 2 ≤ sizeLine; decide), ⟨_, _, rfl, rfl, _, _, rfl, rfl, rfl⟩⟩
  · exact hg.elim
theorem q_divmod {i j : Int} {k : Bool → T → Prop} : divmodT [.int i, .int j] k = ((0 < j ∧ j.natAbs.log2 < 9000) ∧ k false (.tup [.int (i / j), .int (i % j)])) := rf rfl
variable {τ : TSt} {P : R → TSt → Prop} {td tk' tx : TTE}
theorem z_lrg1 : ttLRg1 te τ P = te τ (@box _ ⟨fun r τ1 => inK (r.t τ1) (@box _ ⟨fun n => RgOk 0 n ∧ P (.val true (.lst (rngT 0 n.toNat))) τ1⟩)⟩) := rf rfl
theorem z_lrg2 : ttLRg2 ta tb τ P = ta τ (@box _ ⟨fun ra τ1 => tb τ1 (@box _ ⟨fun rb τ2 => inK (ra.t τ2) (@box _ ⟨fun i => inK (rb.t τ2) (@box _ ⟨fun j => RgOk i j ∧ P (.val true (.lst (rngT i (j - i).toNat))) τ2⟩)⟩)⟩)⟩) := rf rfl
theorem isD_d {ks : List Key} {ts : List T} : isDT (.dct ks ts) = True := rf rfl
theorem z_get2 : ttGet2 td tk' tx τ P = td τ (@box _ ⟨fun rd τ1 => isDT (rd.t τ1) ∧ tk' τ1 (@box _ ⟨fun rk τ2 => tx τ2 (@box _ ⟨fun rx τ3 => frzR rx τ3 (@box _ ⟨fun z τ4 => dgK (rd.t τ4) (rk.t τ4) z (@box _ ⟨fun t => P (.val false t) τ4⟩)⟩)⟩)⟩)⟩) := rf rfl
theorem dgK_i {ks : List Key} {ts : List T} {i : Int} {z : T} {P : T → Prop} : dgK (.dct ks ts) (.int i) z P = P ((dGetT ks ts (Sum.inl i)).getD z) := rf rfl
end
end TL

namespace TL
open PySem L2
theorem kMem_ints {m : Int} {zs : List Int} : kMem (Sum.inl m) (zs.map Sum.inl) = decide (m ∈ zs) := by
  rw [Bool.eq_iff_iff, kMem_iff, decide_eq_true_eq]
  constructor
  · intro h
    obtain ⟨x, hx, e⟩ := List.mem_map.mp h
    cases e
    exact hx
  · exact fun h => List.mem_map.mpr ⟨m, h, rfl⟩
/-- for y in ys: d[y] = b, the keys being ints -/
theorem forPut {ys zs : List Int} {ts : List T} {o : Option T} {u : Lk} {τ : TSt} {D : TEnds} {i j : Nat} {kd : Kd} {b : T} (hi : (lck u τ)[i]? = some (some ⟨kd, false, .dct (zs.map Sum.inl) ts⟩)) (hk : kd = .own ∨ ∃ m, kd = .arg m) (hj : (lck u τ)[j]? = some (ofT o)) (hij : i ≠ j)
    (room : zs.length + ys.length < sizeLine) (hn : zs.Nodup)
    (k : ∀ (zs' : List Int) (ts' : List T) (o' : Option T), (∀ m, m ∈ zs' ↔ m ∈ zs ∨ m ∈ ys) → zs'.length ≤ zs.length + ys.length → zs'.Nodup → D.nx (unl u τ (((lck u τ).set i (some ⟨kd, false, .dct (zs'.map Sum.inl) ts'⟩)).set j (ofT o')))) :
    forT (tgN j) (ttSetIx i (tk b) (tv j)) D (ys.map T.int) u τ := by
  have li := (List.getElem?_eq_some_iff.mp hi).1
  have lj := (List.getElem?_eq_some_iff.mp hj).1
  refine forT_p (α := List Int × List T × Option T) (fun x => ((lck u τ).set i (some ⟨kd, false, .dct (x.1.map Sum.inl) x.2.1⟩)).set j (ofT x.2.2))
    (fun n x => (∀ m, m ∈ x.1 ↔ m ∈ zs ∨ m ∈ ys.take n) ∧ x.1.length ≤ zs.length + n ∧ x.1.Nodup) (zs, ts, o) ?_ ⟨fun m => by simp, Nat.le_refl _, hn⟩ (fun n t x ht hx => ?_) (fun x hx => ?_)
  · refine List.ext_getElem? fun m => ?_
    rw [List.getElem?_set, List.getElem?_set]
    by_cases e : j = m
    · subst e; simp [lj, (List.getElem?_eq_some_iff.mp hj).2]
    · by_cases e' : i = m
      · subst e'; simp [e, li, (List.getElem?_eq_some_iff.mp hi).2]
      · simp [e, e']
  · obtain ⟨zs1, ts1, o1⟩ := x
    obtain ⟨h1, h2, h3⟩ := hx
    simp only at h1 h2 h3
    obtain ⟨y, hy, rfl⟩ := ints_get ht
    have hny : n < ys.length := (List.getElem?_eq_some_iff.mp hy).1
    refine ⟨?_, ?_⟩
    · rw [List.getElem?_set_self (by rw [List.length_set]; exact lj)]
      exact canS_of
    · have e1 : ∀ (A B : Option Sl), ((((lck u τ).set i A).set j B).set j (some ⟨.frz, false, T.int y⟩))[i]? = some A := fun A B => by
        rw [List.getElem?_set_ne (Ne.symm hij), List.getElem?_set_ne (Ne.symm hij), List.getElem?_set_self li]
      have e2 : ∀ (A B C : Option Sl), ((((lck u τ).set i A).set j B).set j C)[j]? = some C := fun A B C => List.getElem?_set_self (by rw [List.length_set, List.length_set]; exact lj)
      have hkey : keyT (T.int y) = some (Sum.inl y) := rfl
      have fin : ∃ a' : List Int × List T × Option T, ((((((lck u τ).set i (some ⟨kd, false, .dct (zs1.map Sum.inl) ts1⟩)).set j (ofT o1)).set j (some ⟨.frz, false, T.int y⟩))).set i (some ⟨kd, false, .dct (dPutK (zs1.map Sum.inl) (Sum.inl y)) (dPutV (zs1.map Sum.inl) ts1 (Sum.inl y) b)⟩))
          = ((lck u τ).set i (some ⟨kd, false, .dct (a'.1.map Sum.inl) a'.2.1⟩)).set j (ofT a'.2.2) ∧ (∀ m, m ∈ a'.1 ↔ m ∈ zs ∨ m ∈ ys.take (n + 1)) ∧ a'.1.length ≤ zs.length + (n + 1) ∧ a'.1.Nodup := by
        refine ⟨(addI zs1 y, dPutV (zs1.map Sum.inl) ts1 (Sum.inl y) b, some (.int y)), ?_, fun m => ?_, ?_, addI_nd h3⟩
        · rw [dPutK_ints]
          simp only [ofT_some]
          refine List.ext_getElem? fun m => ?_
          simp only [List.getElem?_set, List.length_set]
          by_cases e : j = m
          · subst e; simp [hij, lj]
          · by_cases e' : i = m
            · subst e'; simp [e, li]
            · simp [e, e']
        · show m ∈ addI zs1 y ↔ _
          rw [addI_mem, h1, List.take_add_one, hy, List.mem_append]
          simp [or_assoc]
        · have := addI_len (zs := zs1) (v := y)
          show (addI zs1 y).length ≤ _
          omega
      refine ⟨⟨_, e1 _ _⟩, ⟨_, e2 _ _ _⟩, ?_⟩
      show stIx _ i (R.t _ (.var j)) b _
      have et : R.t ((((lck u τ).set i (some ⟨kd, false, .dct (zs1.map Sum.inl) ts1⟩)).set j (ofT o1)).set j (some ⟨.frz, false, T.int y⟩)) (.var j) = .int y := by
        simp only [R.t, slT, e2]
      rw [et]
      unfold stIx
      rw [e1]
      rcases hk with rfl | ⟨m, rfl⟩
      · exact ⟨Sum.inl y, hkey, by rw [List.length_map]; show zs1.length < _; omega, fin⟩
      · exact ⟨Sum.inl y, hkey, by rw [List.length_map]; show zs1.length < _; omega, fin⟩
  · obtain ⟨zs1, ts1, o1⟩ := x
    obtain ⟨h1, h2, h3⟩ := hx
    rw [List.length_map] at h1 h2
    simp only [List.take_length] at h1 h2 h3
    exact k zs1 ts1 o1 h1 h2 h3
end TL

namespace TL
open PySem L2
/-! ### fields of frozen objects -/
def fldG : List Str → List T → Str → Option T
  | n :: ns, t :: ts, f => if f = n then some t else fldG ns ts f
  | _, _, _ => none
def fldK (t : T) (f : Str) (k : T → Prop) : Prop := match t with
  | .ins ns ts => ∃ u, fldG ns ts f = some u ∧ k u
  | _ => False
def ttFld (f : Str) (te : TTE) : TTE := fun τ P => te τ fun r τ1 => fldK (r.t τ1) f fun t => P (.val false t) τ1
theorem fldG_get {K : PySem.W.Frag} {F : Hp} {f : Str} {u : T} : ∀ {ns : List Str} {ts : List T} {vs : List V}, Reps K F ts vs → fldG ns ts f = some u → f ∈ ns ∧ ∃ v, (ns.zip vs).lookup f = some v ∧ Rep K F u v
  | [], _, _, _, h => by simp [fldG] at h
  | n :: ns, [], _, _, h => by simp [fldG] at h
  | n :: ns, t :: ts, _, ⟨v, r, e, h1, h2⟩, h => by
    subst e
    unfold fldG at h
    rw [List.zip_cons_cons, List.lookup_cons]
    by_cases hq : f = n
    · rw [if_pos hq] at h
      cases h
      rw [show (f == n) = true by rw [hq]; exact beq_self_eq_true n]
      exact ⟨by rw [hq]; exact List.mem_cons_self, v, rfl, h1⟩
    · rw [if_neg hq] at h
      obtain ⟨hm, w, e, rp⟩ := fldG_get h2 h
      rw [show (f == n) = false from beq_eq_false_iff_ne.mpr hq]
      exact ⟨List.mem_cons_of_mem _ hm, w, e, rp⟩
section
variable {X : Cx} {B : Bs} {e : Expr} {te : TTE} {pos : Pos} {f : Str}
theorem tpe_fld (he : TPE X B e te) (hb : attributeBase e f X.env (eval e X.env) = eval e X.env := by rfl) : TPE X B (.Attribute e f pos) (ttFld f te) := by
  refine ⟨PE.imp (pe_fld he.pe hb) fun σ H Q h => ?_⟩
  obtain ⟨F, τ, P, I, ht, hq⟩ := h
  refine lift.go I ht fun r τ1 F1 H1 v h1 I1 s1 r1 f1 => ?_
  have rd := r1.rd I1.wf
  cases e : r.t τ1 with
  | ins ns ts =>
    rw [e] at h1 rd
    obtain ⟨u, eu, hp⟩ := h1
    rcases rd with ⟨a, C, dx, vs, rfl, hF, hc, hn, hl, hr⟩ | ⟨_, _, _, z⟩
    · obtain ⟨hm, w, hw, rp⟩ := fldG_get hr eu
      exact ⟨a, C, dx, _, w, rfl, I1.wf.sub a _ hF, hc, hn f hm, hw, hq _ _ _ _ _ hp I1 s1 rp trivial⟩
    · exact z.elim
  | _ => rw [e] at h1; exact h1.elim
variable {τ : TSt} {P : R → TSt → Prop}
theorem z_fld : ttFld f te τ P = te τ (@box _ ⟨fun r τ1 => fldK (r.t τ1) f (@box _ ⟨fun t => P (.val false t) τ1⟩)⟩) := rf rfl
theorem fldK_i {ns : List Str} {ts : List T} {k : T → Prop} : fldK (.ins ns ts) f k = (∃ u, fldG ns ts f = some u ∧ k u) := rf rfl
end
/-- the fields of a growth -/
abbrev gNs : List Str := ["rule", "numbers", "barred"]
theorem gn1 : ¬("numbers" : Str) = "rule" := by decide +kernel
theorem gn2 : ¬("barred" : Str) = "rule" := by decide +kernel
theorem gn3 : ¬("barred" : Str) = "numbers" := by decide +kernel
theorem fg_r {a b c : T} : fldG gNs [a, b, c] "rule" = some a := by unfold fldG; rw [if_pos rfl]
theorem fg_n {a b c : T} : fldG gNs [a, b, c] "numbers" = some b := by unfold fldG; rw [if_neg gn1]; unfold fldG; rw [if_pos rfl]
theorem fg_b {a b c : T} : fldG gNs [a, b, c] "barred" = some c := by unfold fldG; rw [if_neg gn2]; unfold fldG; rw [if_neg gn3]; unfold fldG; rw [if_pos rfl]
end TL

namespace TL
open PySem L2
/-! ### comprehensions over zipped ints -/
abbrev zT (p : Int × Int) : T := .tup [.int p.1, .int p.2]
theorem zipP_ints : ∀ {xs ys : List Int}, zipP (xs.map T.int) (ys.map T.int) = (xs.zip ys).map zT
  | [], ys => by cases ys <;> simp [zipP]
  | x :: xs, [] => by simp [zipP]
  | x :: xs, y :: ys => by
    have := zipP_ints (xs := xs) (ys := ys)
    unfold zipP at this ⊢
    simp at this ⊢
    exact this
def zF (f : Int → Int → T) (t : T) : T := match t with
  | .tup [.int x, .int y] => f x y
  | t => t
section
variable {u : Lk} {τ1 : TSt} {g : TTG} {tt : TTT} {te : TTE} {vs : List Nat} {P : R → TSt → Prop} {xs ys : List Int}
theorem lcT_z (f : Int → Int → T) (hf : ∀ v ∈ vs, frzAt (lck u τ1) v) (hl : xs.length ≤ sizeLine)
    (h : ∀ x y, (x, y) ∈ xs.zip ys → g (.tup [.int x, .int y]) (wipeT (lck u τ1) vs) (@box _ ⟨fun τ3 => te τ3 (@box _ ⟨fun r τ5 => frzR r τ5 (@box _ ⟨fun z τ6 => f x y = z ∧ wipeT τ6 vs = wipeT (lck u τ1) vs⟩)⟩)⟩))
    (hd : P (.val true (.lst ((xs.zip ys).map fun p => f p.1 p.2))) (unl u τ1 (backT (lck u τ1) (wipeT (lck u τ1) vs) vs))) : lcT g ttYes te vs P (zipP (xs.map T.int) (ys.map T.int)) u τ1 := by
  rw [zipP_ints]
  refine lcT_m (zF f) hf (by rw [List.length_map, List.length_zip]; omega) (fun t ht => ?_) (by rw [List.map_map]; exact hd)
  obtain ⟨⟨x, y⟩, hp, rfl⟩ := List.mem_map.mp ht
  exact h x y hp
theorem lcT_zb (f : Int → Int → Bool) (hf : ∀ v ∈ vs, frzAt (lck u τ1) v) (hl : xs.length ≤ sizeLine)
    (h : ∀ x y, (x, y) ∈ xs.zip ys → g (.tup [.int x, .int y]) (wipeT (lck u τ1) vs) (@box _ ⟨fun τ3 => te τ3 (@box _ ⟨fun r τ5 => frzR r τ5 (@box _ ⟨fun z τ6 => T.bl (f x y) = z ∧ wipeT τ6 vs = wipeT (lck u τ1) vs⟩)⟩)⟩))
    (hd : P (.val true (.lst (((xs.zip ys).map fun p => f p.1 p.2).map T.bl))) (unl u τ1 (backT (lck u τ1) (wipeT (lck u τ1) vs) vs))) : lcT g ttYes te vs P (zipP (xs.map T.int) (ys.map T.int)) u τ1 :=
  lcT_z (fun x y => .bl (f x y)) hf hl h (by rw [List.map_map] at hd; exact hd)
end
theorem all_id {bs : List Bool} : bs.all _root_.id = true ↔ ∀ b ∈ bs, b = true := by simp
/-- neighbours of a rising list -/
theorem zip_tail {xs : List Int} {x y : Int} (h : (x, y) ∈ xs.zip (xs.drop 1)) : ∃ i, xs[i]? = some x ∧ xs[i + 1]? = some y := by
  obtain ⟨i, hi⟩ := List.mem_iff_getElem?.mp h
  rw [List.getElem?_zip_eq_some] at hi
  exact ⟨i, hi.1, by rw [List.getElem?_drop] at hi; rw [show i + 1 = 1 + i by omega]; exact hi.2⟩
theorem pw_tail : ∀ {xs : List Int}, xs.Pairwise (· < ·) ↔ ∀ p ∈ xs.zip (xs.drop 1), p.1 < p.2
  | [] => by simp
  | [x] => by simp
  | x :: y :: r => by
    have ih := pw_tail (xs := y :: r)
    simp only [List.drop_succ_cons, List.drop_zero] at ih ⊢
    rw [List.pairwise_cons, ih, List.zip_cons_cons]
    constructor
    · rintro ⟨h1, h2⟩ p hp
      rcases List.mem_cons.mp hp with rfl | hp
      · exact h1 y List.mem_cons_self
      · exact h2 p hp
    · intro h
      have h2 : ∀ p ∈ (y :: r).zip r, p.1 < p.2 := fun p hp => h p (List.mem_cons_of_mem _ hp)
      refine ⟨fun z hz => ?_, h2⟩
      have hxy := h (x, y) List.mem_cons_self
      rcases List.mem_cons.mp hz with rfl | hz
      · exact hxy
      · have := (List.pairwise_cons.mp (ih.mpr h2)).1 z hz
        have hxy : x < y := hxy
        omega
end TL

namespace TL
open PySem L2
section
variable {X : Cx} {B : Bs} {ta tb tc : TTE} {a b c : Expr} {pos : Pos}
theorem chn_imp {g g' : G2} {r r' : R2} (hg : ∀ (F H : Hp) (x y : V) (tx ty : T) (G : Bool → T → Prop) (Q : VK), Same F H → RdT X.K F H x tx → RdT X.K F H y ty → g tx ty G →
    (∀ k t v F' H', G k t → Grow F H F' H' → RG X.K H F' H' v k t → Q v H') → r x y H Q)
    (hg' : ∀ (F H : Hp) (x y : V) (tx ty : T) (G : Bool → T → Prop) (Q : VK), Same F H → RdT X.K F H x tx → RdT X.K F H y ty → g' tx ty G →
    (∀ k t v F' H', G k t → Grow F H F' H' → RG X.K H F' H' v k t → Q v H') → r' x y H Q) (σ : St) (H : Hp) (Q : VK) (h : lift X.K B (ttChain g g' ta tb tc) σ H Q) : tChain r r' (lift X.K B ta) (lift X.K B tb) (lift X.K B tc) σ H Q := by
  obtain ⟨F, τ, P, I, ht, hq⟩ := h
  refine lift.go I ht fun ra τ1 F1 H1 x h1 I1 s1 r1 f1 => ?_
  refine lift.go I1 h1 fun rb τ2 F2 H2 y h2 I2 s2 r2 f2 => ?_
  refine hg F2 H2 x y _ _ _ _ I2.wf.sub ((r1.step s2).rd I2.wf) (r2.rd I2.wf) h2 fun k t v F' H' gk gr rg => ?_
  have I3 := I2.step (gr.wf I2.wf) gr.step
  cases t with
  | bl b =>
    have ev : v = .bl b := by
      cases k with
      | false => exact rg
      | true =>
        obtain ⟨_, _, _, _, z⟩ := rg
        exact z.elim
    subst ev
    refine ⟨b, rfl, ?_⟩
    cases b with
    | true =>
      rw [if_pos rfl]
      refine lift.go I3 gk fun rc τ3 F3 H3 z h3 I4 s3 r3 f3 => ?_
      obtain ⟨_, h3⟩ := h3
      refine hg' F3 H3 y z _ _ _ Q I4.wf.sub ((r2.step (gr.step.trans s3)).rd I4.wf) (r3.rd I4.wf) h3 fun k t v F' H' gk gr' rg => ?_
      obtain ⟨rr, fr⟩ := RG.rr I4.wf gr' rg
      exact hq _ _ _ _ _ gk (I4.step (gr'.wf I4.wf) gr'.step) ((((s1.trans s2).trans gr.step).trans s3).trans gr'.step) rr (Fresh.step (((s1.trans s2).trans gr.step).trans s3) fr)
    | false =>
      rw [if_neg Bool.false_ne_true]
      exact hq _ _ _ _ _ gk I3 ((s1.trans s2).trans gr.step) rfl trivial
  | _ => exact gk.elim
/-- a chain as a test -/
theorem tpt_chn {op op' : CmpOp} {g g' : G2} (ho : OpT X (compareOp op) g) (ho' : OpT X (compareOp op') g') (ha : TPE X B a ta) (hb : TPE X B b tb) (hc : TPE X B c tc) (hm : lastMarks [op, op'] [b, c] = false := by with_unfolding_all rfl) :
    TPT X B (.Compare a [op, op'] [b, c] pos) (ttB (ttChain g g' ta tb tc)) := by
  obtain ⟨r, hr, hg⟩ := ho
  obtain ⟨r', hr', hg'⟩ := ho'
  exact ⟨PT.imp (pt_chain hr hr' ha.pe hb.pe hc.pe hm) fun σ H Q h => chn_imp hg hg' σ H _ (test_imp σ H Q h)⟩
end
end TL

namespace TL
open PySem L2
/-- t < u, tuples of ints -/
def ltI : G2 := fun a b k => ∃ ns ms : List Int, a = .tup (ns.map T.int) ∧ b = .tup (ms.map T.int) ∧ k false (.bl (HT.lexLt ns ms))
theorem o_ltI {X : Cx} (hu : X.A.units + 64 < cLine) : OpT X (compareOp .Lt) ltI := by
  refine ⟨_, op_ltT (by omega), fun F H x y tx ty G Q s rx ry hg k => ?_⟩
  obtain ⟨ns, ms, rfl, rfl, hg⟩ := hg
  obtain ⟨a, vs, rfl, h1, _, e1⟩ := rx.tup
  obtain ⟨b, ws, rfl, h2, _, e2⟩ := ry.tup
  rw [Reps.ints] at e1 e2
  subst e1 e2
  exact ⟨a, b, ns, ms, rfl, rfl, SqT.mono s h1, SqT.mono s h2, k false _ _ F H hg (Grow.refl s) rfl⟩
end TL

namespace TL
open PySem L2
/-! ### comprehensions over things of one form -/
section
variable {u : Lk} {τ1 : TSt} {g : TTG} {tt : TTT} {te : TTE} {vs : List Nat} {P : R → TSt → Prop} {α : Type}
theorem lcT_e (E : α → T) (inj : ∀ x y, E x = E y → x = y) {as : List α} (f : α → Option T) (hf : ∀ v ∈ vs, frzAt (lck u τ1) v) (hl : as.length ≤ sizeLine)
    (h : ∀ x ∈ as, g (E x) (wipeT (lck u τ1) vs) (@box _ ⟨fun τ3 => tt τ3 (@box _ ⟨fun b τ4 => cnd b (@box _ ⟨fun _ => te τ4 (@box _ ⟨fun r τ5 => frzR r τ5 (@box _ ⟨fun y τ6 => f x = some y ∧ wipeT τ6 vs = wipeT (lck u τ1) vs⟩)⟩)⟩) (@box _ ⟨fun _ => f x = none ∧ wipeT τ4 vs = wipeT (lck u τ1) vs⟩)⟩)⟩))
    (hd : P (.val true (.lst (as.filterMap f))) (unl u τ1 (backT (lck u τ1) (wipeT (lck u τ1) vs) vs))) : lcT g tt te vs P (as.map E) u τ1 := by
  classical
  obtain ⟨f', e⟩ : ∃ f' : T → Option T, ∀ x, f' (E x) = f x := ⟨fun t => if h : ∃ x, E x = t then f (Classical.choose h) else none, fun x => by
    have h : ∃ y, E y = E x := ⟨x, rfl⟩
    show (if h : ∃ y, E y = E x then _ else _) = _
    rw [dif_pos h, inj _ _ (Classical.choose_spec h)]⟩
  refine lcT_p f' hf (by rw [List.length_map]; exact hl) (fun t ht => ?_) ?_
  · obtain ⟨x, hx, rfl⟩ := List.mem_map.mp ht
    rw [e]
    exact h x hx
  · rw [List.filterMap_map, show f' ∘ E = f from funext e]
    exact hd
theorem lcT_em (E : α → T) (inj : ∀ x y, E x = E y → x = y) {as : List α} (f : α → T) (hf : ∀ v ∈ vs, frzAt (lck u τ1) v) (hl : as.length ≤ sizeLine)
    (h : ∀ x ∈ as, g (E x) (wipeT (lck u τ1) vs) (@box _ ⟨fun τ3 => te τ3 (@box _ ⟨fun r τ5 => frzR r τ5 (@box _ ⟨fun y τ6 => f x = y ∧ wipeT τ6 vs = wipeT (lck u τ1) vs⟩)⟩)⟩))
    (hd : P (.val true (.lst (as.map f))) (unl u τ1 (backT (lck u τ1) (wipeT (lck u τ1) vs) vs))) : lcT g ttYes te vs P (as.map E) u τ1 := by
  classical
  obtain ⟨f', e⟩ : ∃ f' : T → T, ∀ x, f' (E x) = f x := ⟨fun t => if h : ∃ x, E x = t then f (Classical.choose h) else .non, fun x => by
    have h : ∃ y, E y = E x := ⟨x, rfl⟩
    show (if h : ∃ y, E y = E x then _ else _) = _
    rw [dif_pos h, inj _ _ (Classical.choose_spec h)]⟩
  refine lcT_m f' hf (by rw [List.length_map]; exact hl) (fun t ht => ?_) ?_
  · obtain ⟨x, hx, rfl⟩ := List.mem_map.mp ht
    rw [e]
    exact h x hx
  · rw [List.map_map, show f' ∘ E = f from funext e]
    exact hd
end
theorem map_if_some {α : Type} {p : α → Bool} {f : α → T} : ∀ {xs : List α}, xs.filterMap (fun x => if p x = true then some (f x) else none) = (xs.filter p).map f
  | [] => rfl
  | x :: xs => by
    rw [List.filterMap_cons, List.filter_cons]
    cases h : p x with
    | true => simp only [if_pos, List.map_cons, map_if_some]
    | false => simp only [Bool.false_eq_true, if_false, map_if_some]
end TL

namespace TL
open PySem PySem.W L2
/-! ### min of a tuple of ints -/
section
variable {X : Cx}
def rMinTD (K : PySem.W.Frag) : List V → Hp → VK → Prop := fun xs H Q => ∃ x d ds m, xs = [x] ∧ Dp K H x (.tuple (d :: ds)) ∧ AlikeAll (d :: ds) ∧ PyData.depthAll (d :: ds) ≤ 60 ∧ minD d ds = .int m ∧ Q (.int m) H
theorem cr_minTD (hc : X.calm = true) (hu : X.A.units + 64 < cLine) : CallR X (.builtin "min") (rMinTD X.K) := by
  intro pins s σ H vs us Q I r h
  obtain ⟨x, d, ds, m, rfl, hd, ha, hp, hm, q⟩ := h
  cases hd with
  | tup hs hall =>
    rw [Vals.ref1 r]
    obtain ⟨its, rv, hl, _⟩ := I.tuple hs
    obtain ⟨as, hr⟩ := Dp.readsAll I _ _ its hall rv
    refine PySem.W.min_tuple_data (vs := its.toArray) (I.ok.hd hc) hl (by simpa using hr) ha (by omega) fun i v h' tk bs hv rd hk => ?_
    rw [hm] at rd
    cases rd with
    | int _ t => exact ⟨.int m, H, I.kept hk, ⟨t, rfl⟩, q⟩
def minI (n : Int) (ns : List Int) : Int := ns.foldl (fun a b => if b < a then b else a) n
def minT : C1 := fun t k => match t with
  | .tup ts => ∃ (n : Int) (ns : List Int), ts = (n :: ns).map T.int ∧ k false (.int (minI n ns))
  | _ => False
theorem minD_int : ∀ (n : Int) (ns : List Int), minD (.int n) (ns.map PyData.int) = .int (minI n ns)
  | n, [] => rfl
  | n, m :: ns => by
    have := minD_int (if m < n then m else n) ns
    unfold minD minI at this ⊢
    rw [List.map_cons, List.foldl_cons, List.foldl_cons, ← this]
    congr 1
    by_cases h : m < n
    · simp [dataLt_int, h]
    · simp [dataLt_int, h]
theorem c_minT (hc : X.calm = true) (hu : X.A.units + 64 < cLine) : CalT1 X (.builtin "min") minT := by
  refine ⟨_, cr_minTD hc hu, fun F H x t G Q s r hg k => ?_⟩
  cases t with
  | tup ts =>
    obtain ⟨n, ns, rfl, hg⟩ := hg
    have ok : eqOk (.tup ((n :: ns).map T.int)) = true := eo_intsT
    have dp := r.dp s (Bool.and_eq_true_iff.mp ok).1
    refine ⟨x, .int n, ns.map PyData.int, minI n ns, rfl, ?_, ⟨?_, ?_⟩, ?_, minD_int n ns, k false _ _ F H hg (Grow.refl s) rfl⟩
    · have e : (T.tup ((n :: ns).map T.int)).D = .tuple (.int n :: ns.map PyData.int) := by rw [T.D, Ds_ints]; rfl
      rw [← e]
      exact dp
    · intro a ha b hb
      have h1 : ∀ a ∈ (PyData.int n :: ns.map PyData.int), ∃ i, a = .int i := fun a ha => by
        rcases List.mem_cons.mp ha with h | h
        · exact ⟨n, h⟩
        · obtain ⟨i, _, rfl⟩ := List.mem_map.mp h
          exact ⟨i, rfl⟩
      obtain ⟨i, rfl⟩ := h1 a ha
      obtain ⟨j, rfl⟩ := h1 b hb
      rfl
    · intro a ha
      rcases List.mem_cons.mp ha with h | h
      · rw [h]; exact fun h => by cases h
      · obtain ⟨i, _, rfl⟩ := List.mem_map.mp h
        exact fun h => by cases h
    · have := dAll_ints (n :: ns)
      rw [List.map_cons] at this
      rw [this]
      decide
  | _ => exact hg.elim
theorem q_minT2 {n m : Int} {k : Bool → T → Prop} : minT (.tup [.int n, .int m]) k = k false (.int (if m < n then m else n)) := by
  apply propext
  constructor
  · rintro ⟨a, ms, e, h⟩
    have := map_int_inj (xs := [n, m]) (ys := a :: ms) |>.mp e
    cases this
    exact h
  · exact fun h => ⟨n, [m], rfl, h⟩
end
end TL

namespace TL
open PySem PySem.Spec PyProof.Rows L2
/-! ### what is raised -/
def Thr (X : Cx) (B : Bs) (cls : String → Addr) (XT : String → TSt → Prop) : Prop := ∃ W : WX, Takes X W ∧ ∀ c F H σ τ, Inn X.K B F H σ τ → XT c τ → W (.ref (cls c)) none σ H
def ttRaise (c : String) (XT : String → TSt → Prop) : TTS := fun _ τ => XT c τ
/-- a class of the text whose instances are raised, and asked -/
structure ExF (K : PySem.W.Frag) (mg : Str → Option Value) (cls : String → Addr) (c : String) (y : Str) : Prop where
  g : mg y = some (.ref (cls c))
  x : PySem.W.excIn K (cls c) [.type "ValueError", .type "Exception", .type "BaseException", .type "object"] "ValueError.__new__" = true
  k : PySem.W.keepIn K (.ref (cls c)) = true
  b : PySem.W.subIn K (.ref (cls c)) (.type "BaseException") = some true
  t : PySem.W.typeIn K (.ref (cls c)) = some (.type "type")
/-- a class that is asked alone -/
structure ExG (K : PySem.W.Frag) (mg : Str → Option Value) (cls : String → Addr) (c : String) (y : Str) : Prop where
  g : mg y = some (.ref (cls c))
section
variable {X : Cx} {B : Bs} {cls : String → Addr} {XT : String → TSt → Prop} {c : String} {e : Expr} {pos p p2 : Pos} {y m : Str} {j : Nat}
theorem tps_raise {p3 : Pos} (hc : X.calm = true) (T : Thr X B cls XT) (E : ExF X.K X.mg cls c y) (hg : Gl X y) (hdb : (y == ("__debug__" : Str)) = false := by decide) : TPS X B (.Raise (some (.Call (.Name y p) [.Constant (.str m) j p2] [] p3)) none pos) (ttRaise c XT) := by
  obtain ⟨W, tk, hW⟩ := T
  exact ⟨PS.imp (ps_raise hc tk (pmk_own PySem.F.excBase_ValueError E.x E.g E.k (raises_own E.b E.t) hg hdb)) fun D σ H h => by
    obtain ⟨F, τ, TD, I, h, ok⟩ := h
    exact hW c F H σ τ I h⟩
end
/-! ### a call that may raise -/
section
variable {X : Cx} {B : Bs} {k : Nat} {ps : List Str} {cls : String → Addr} {S : TSp} {XT : String → TSt → Prop} {ta : TTA} {E : XK} {x : Str} {p pos : Pos} {e : Expr} {es : List Expr}
theorem call_impS {W : WX} (hE : ∀ c F H σ τ, Inn X.K B F H σ τ → XT c τ → W (.ref (cls c)) none σ H) (σ : L2.St) (H : Hp) (Q : VK) (h : lift X.K B (ttCall S XT ta) σ H Q) : tCallS (liftSp X.K cls S) (WE W) (liftA X.K B ta) σ H Q := by
  obtain ⟨F, τ, P, I, h, hq⟩ := h
  refine ⟨F, τ, _, I, h, fun rs τ1 F1 H1 vs ⟨ok, h1⟩ I1 s1 r1 => ?_⟩
  obtain ⟨ao, key⟩ := call_args I1.wf r1 ok
  refine ⟨F1, mkA τ1 0 rs, _, _, ao, h1, fun r ts F' H' v ⟨hl, hp⟩ c rc => ?_, fun cn ts F' H' ⟨hl, hp⟩ c => ?_⟩
  · obtain ⟨τ2, hp2, po⟩ := putB_ok ok hp
    obtain ⟨w, st⟩ := call_back I1.wf r1 ok c po
    have I2 := I1.step w st
    cases r with
    | var i => exact rc.elim
    | val kk t =>
      refine hq _ _ F' H' v hp2 I2 (s1.trans st) ?_ ?_
      · cases kk with
        | false => exact rc
        | true =>
          obtain ⟨q, ev, n, nF, o⟩ := rc
          refine ⟨q, ev, nF, o, fun i k' z => ?_⟩
          obtain ⟨l, t', h1, h2, h3⟩ := st.own i k' q z
          obtain ⟨a, e4, _, o4⟩ := I1.wf.own i k' l t' h1 h2
          rw [h3] at e4
          cases e4
          obtain ⟨ob, ho⟩ := o4.ex
          rw [n] at ho
          cases ho
      · cases kk with
        | false => trivial
        | true =>
          obtain ⟨q, ev, n, nF, o⟩ := rc
          refine ⟨q, ev, ?_⟩
          cases z : H q with
          | none => rfl
          | some ob => exact absurd n (s1.dom q (by rw [z]; simp))
  · obtain ⟨τ2, hp2, po⟩ := putB_ok ok hp
    obtain ⟨w, st⟩ := call_back I1.wf r1 ok c po
    exact hE cn F' H' σ τ2 (I1.step w st) hp2
theorem tpe_callX (C : Cal X.prog X.w X.K X.mg X.base (L2.CX X.prog X.w) cls x ps k S) (hr : Room k X.A) (hg : Gl X x) (T : Thr X B cls XT) (ha : TPA X B (e :: es) ta) (hdb : (x == ("__debug__" : Str)) = false := by decide)
    (he : starEach (e :: es) X.env = (false, eval e X.env) :: starEach es X.env := by rfl) (hpl : (backTo pos (starEach es X.env)).any (·.1) = false := by rfl) : TPE X B (.Call (.Name x p) (e :: es) [] pos) (ttCall S XT ta) := by
  obtain ⟨f, fd, F, hm, hk, hb⟩ := C.ex
  obtain ⟨W, tk, hW⟩ := T
  exact ⟨PE.imp (pe_callS F hr hg hm hk hb (fun σ => passAt tk σ) ha.pa hdb he hpl) (call_impS hW)⟩
end
/-! ### try: body, except X as n: suite -/
def noLk (τ : TSt) : Bool := τ.all fun o => match o with
  | some s => !s.l
  | none => true
def offD (i : Nat) (D : TEnds) : TEnds := ⟨fun τ => D.nx (τ.set i none), D.rt, fun τ => D.bk (τ.set i none), fun τ => D.ct (τ.set i none)⟩
def tryX (i : Nat) (cs : List String) (ts : String → V → TTS) (D : TEnds) : String → TSt → Prop := fun c τ1 => cs.contains c = true ∧ ∀ a : Addr, setS τ1 i ⟨.frz, false, .oth (.ref a)⟩ fun τ2 => ts c (.ref a) (offD i D) τ2
def ttTry (i : Nat) (cs : List String) (tb : (String → TSt → Prop) → TTS) (ts : String → V → TTS) : TTS := fun D τ => noLk τ = true ∧ tb (tryX i cs ts D) D τ
theorem noLk_get {τ : TSt} (h : noLk τ = true) {i : Nat} {k : Kd} {t : T} : τ[i]? ≠ some (some ⟨k, true, t⟩) := fun e => by
  have := List.all_eq_true.mp h _ (List.mem_of_getElem? e)
  cases this
section
variable {K : PySem.W.Frag} {B : Bs} {F F' H H' : Hp} {σ σ' : L2.St} {τ τ' : TSt} {TD : TEnds} {D : Ends}
theorem Inn.base (I : Inn K B F H σ τ) : Inn K ⟨F, B.H, B.args⟩ F H σ τ := ⟨I.wf, fun _ _ h => h, fun _ h => .inl h, I.fr, I.dom, I.ow, I.ar⟩
theorem Inn.unbase (I0 : Inn K B F H σ τ) (I : Inn K ⟨F, B.H, B.args⟩ F' H' σ' τ') : Inn K B F' H' σ' τ' := ⟨I.wf, I0.sub.trans I.sub, fun a h => (I.new a h).elim (fun q => I0.new a q) .inr, I.fr, I.dom, I.ow, I.ar⟩
theorem ends_base (I0 : Inn K B F H σ τ) (ok : EndsOk K B F σ τ TD D) : EndsOk K ⟨F, B.H, B.args⟩ F σ τ TD D :=
  ⟨fun _ _ _ _ I s h => ok.nx _ _ _ _ (I0.unbase I) s h, fun _ _ _ _ I s h => ok.bk _ _ _ _ (I0.unbase I) s h, fun _ _ _ _ I s h => ok.ct _ _ _ _ (I0.unbase I) s h, fun _ _ _ _ _ _ I r f h => ok.rt _ _ _ _ _ _ (I0.unbase I) r f h⟩
theorem off_inn {i : Nat} (I : Inn K B F H σ τ) : Inn K B F H (σ.set i none) (τ.set i none) :=
  wipe_inn (vs := [i]) I (List.length_set ..) fun j hj => by rw [List.getElem?_set_ne (fun e => hj (by rw [e]; exact List.mem_singleton.mpr rfl))]
end
section
variable {X : Cx} {B : Bs} {x n : Str} {C : Addr} {i : Nat} {body suite : List Stmt} {b₀ : Stmt} {np pos pos' : Pos} {cls : String → Addr} {cs : List String} {tb : (String → TSt → Prop) → TTS} {ts : String → V → TTS} {Wout : WX}
theorem tps_try (hs : X.stack = X.env :: X.outer) (hf : X.env.frame = some X.env.locals) (hN : X.N.Nodup) (hi : X.N[i]? = some n) (hln : X.env.kindOf n = some .local) (hc : Names X x (.ref C)) (tk : Takes X Wout)
    (hx : ∀ c, cs.contains c = true → PySem.W.exmOne X.K (.ref (cls c)) (.ref C) = some true)
    (hb : ∀ (B : Bs) (pn : List (Addr × Obj)) (xe : Value → Shared → Prop) (XT : String → TSt → Prop), Thr (X.tr pn xe) B cls XT → TPSs (X.tr pn xe) B body (tb XT))
    (hsu : ∀ (B : Bs) (a : Addr) (oe : Obj) (c : String) (pn : List (Addr × Obj)), cs.contains c = true → Zc (.ref (cls c)) none oe → (∃ vs, oe.data = .fields vs) → TPSs (X.suite a ((a, oe) :: pn)) B (b₀ :: suite) (ts c (.ref a))) :
    TPS X B (.Try body [.ExceptHandler (some (.Name x np)) (some n) (b₀ :: suite) pos'] [] [] pos) (ttTry i cs tb ts) := by
  refine ⟨PS.imp (ps_try_as (Wout := Wout) (tb := fun W D σ H => ∃ B F τ TD XT, Inn X.K B F H σ τ ∧ tb XT TD τ ∧ EndsOk X.K B F σ τ TD D ∧ ∀ c F' H' σ' τ', Inn X.K B F' H' σ' τ' → XT c τ' → W (.ref (cls c)) none σ' H')
    (ts := fun a cv d D σ H => ∃ c B, cs.contains c = true ∧ cv = .ref (cls c) ∧ d = none ∧ liftS X.K B (ts c (.ref a)) D σ H) hs hf hN hi hln hc tk (fun W pn xe tk' _ => ⟨fun pins s σ H D I h => ?_⟩) (fun a oe cv d pn hz hv => ⟨fun pins s σ H D I h => ?_⟩)) fun D σ H h => ?_⟩
  · obtain ⟨B', F, τ, TD, XT, I', ht, ok, hW⟩ := h
    exact (hb B' pn xe XT ⟨W, tk', hW⟩).pss.run pins s σ H D I ⟨F, τ, TD, I', ht, ok⟩
  · obtain ⟨c, B', h1, rfl, rfl, h⟩ := h
    exact (hsu B' a oe c pn h1 hz hv).pss.run pins s σ H D I h
  · obtain ⟨F, τ, TD, I, ⟨nl, ht⟩, ok⟩ := h
    have ok' := ends_base I ok
    refine ⟨⟨F, B.H, B.args⟩, F, τ, TD, _, I.base, ht, ok', fun c F' H' σ' τ' I1 hxt => ?_⟩
    obtain ⟨h1, h2⟩ := hxt
    refine ⟨true, hx c h1, fun _ a na => ?_, fun e => nomatch e⟩
    obtain ⟨h3, hlt, _⟩ := (h2 a).inv
    have ss : ∀ {F2 : Hp} {σ2 : L2.St} {τ2 : TSt}, Same F F2 → SS F σ τ F2 σ2 τ2 := fun s => ⟨s, fun j k t e => absurd e (noLk_get nl)⟩
    refine ⟨c, ⟨F, B.H, B.args⟩, h1, rfl, rfl, F', _, offD i TD, store_frz I1 hlt (show Rep X.K F' (.oth (.ref a)) (.ref a) from rfl), h3, ⟨fun F2 H2 σ2 τ2 I2 s2 q => ?_, fun F2 H2 σ2 τ2 I2 s2 q => ?_, fun F2 H2 σ2 τ2 I2 s2 q => ?_, fun F2 H2 σ2 τ2 r v I2 rr f q => ok'.rt _ _ _ _ _ _ I2 rr f q⟩⟩
    · exact ok'.nx F2 H2 _ _ (off_inn I2) (ss I2.sub) q
    · exact ok'.bk F2 H2 _ _ (off_inn I2) (ss I2.sub) q
    · exact ok'.ct F2 H2 _ _ (off_inn I2) (ss I2.sub) q
end
/-! ### isinstance of the error that an except clause holds -/
theorem call_isEt {X : Cx} {a D : Addr} {oe : Obj} {pn : List (Addr × Obj)} (C : ExcC X.K D) (hz : Zc (.ref D) none oe) (hf : ∃ vs, oe.data = .fields vs) : CallR (X.suite a ((a, oe) :: pn)) (.builtin "isinstance")
    (fun xs H Q => ∃ (tp : Addr) (cs : List V) (us : List Value) (b : Bool), xs = [.ref a, .ref tp] ∧ H tp = some (.tup cs) ∧ Paired ClsV cs us ∧ PySem.W.kitAny X.K (.ref D) us = some b ∧ Q (.bl b) H) := by
  intro pins s σ H xs us Q I r h
  obtain ⟨tp, cs, ws, b, rfl, hT, k, e, q⟩ := h
  cases r with
  | cons rx rr =>
    cases rr with
    | cons rt rr =>
      cases rr
      cases rx
      cases (show _ = Value.ref tp from rt)
      obtain ⟨hget, _⟩ := I.pin (a, oe) (List.mem_append.mpr (.inl List.mem_cons_self))
      obtain ⟨vs, hv⟩ := hf
      have J : PySem.W.InstAt s.heap a oe D none := by
        obtain ⟨oc, od, oda, osl⟩ := oe
        obtain ⟨h1, h2⟩ := hz
        dsimp only at h1 h2 hv
        subst h1 h2 hv
        exact ⟨hget, rfl, rfl, trivial⟩
      obtain ⟨_, its, rv, o, h1, h2, n, h3⟩ := (show ObjOk X.prog X.w H s.heap tp (.tup cs) from I.hok tp _ hT)
      have e3 := ClsV.all k rv
      subst e3
      obtain ⟨oc, od, dt, sl⟩ := o
      simp only at h2 h3
      subst h2 h3
      exact PySem.W.kia_tup (PySem.W.handS_kitx_exc C.hg C.hk C.hs C.hd C.ha C.hn C.ht C.hm) I.kIn J h1 e (fun z => nomatch z) fun tk => ⟨.bl b, H, I.kept (t' := tk) fun _ _ z => z, rfl, q⟩
def isEK (o : Option (Option Sl)) (v : V) (p : Prop) : Prop := match o with
  | some (some ⟨.frz, _, .oth u⟩) => u = v ∧ p
  | _ => False
def ttIsE (i : Nat) (v : V) (b : Bool) : TTE := fun τ P => isEK τ[i]? v (P (.val false (.bl b)) τ)
theorem isEK.inv {o : Option (Option Sl)} {v : V} {p : Prop} (h : isEK o v p) : (∃ l, o = some (some ⟨.frz, l, .oth v⟩)) ∧ p := by
  unfold isEK at h
  split at h
  · rename_i l u
    obtain ⟨rfl, h⟩ := h
    exact ⟨⟨l, rfl⟩, h⟩
  · exact h.elim
theorem isEK_o {l : Bool} {v : V} {p : Prop} : isEK (some (some ⟨.frz, l, .oth v⟩)) v p = p := propext ⟨fun h => h.2, fun h => ⟨rfl, h⟩⟩
theorem z_isE {i : Nat} {v : V} {b : Bool} {τ : TSt} {P : R → TSt → Prop} : ttIsE i v b τ P = isEK τ[i]? v (P (.val false (.bl b)) τ) := rf rfl
/-- a class by its name -/
def ClN (X : Cx) (y : Str) (u : Value) : Prop := ∃ cv, ClsV cv u ∧ ∀ pos, PE X (.Name y pos) (tC cv)
section
variable {X : Cx} {y : Str} {C : Addr} {c : String}
theorem cln_own (hg : Gl X y) (hm : X.mg y = some (.ref C)) (hd : (y == ("__debug__" : Str)) = false := by decide) : ClN X y (.ref C) := ⟨.ref C, .own C, fun _ => pe_glob hg hm rfl hd⟩
theorem cln_ty (hg : Gl X y) (hm : X.mg y = none) (hv : bootBuiltins y = some (.type c)) (hn : y ≠ "__name__" := by decide) (hd : (y == ("__debug__" : Str)) = false := by decide) : ClN X y (.type c) := ⟨.ty c, .ty c, fun _ => pe_bltn hg hm hv rfl hn hd⟩
end
inductive ClNs (X : Cx) : List Expr → List Value → Prop where
  | nil : ClNs X [] []
  | cons {y : Str} {p : Pos} {u : Value} {es : List Expr} {us : List Value} (h : ClN X y u) (t : ClNs X es us) (hs : starEach (.Name y p :: es) X.env = (false, eval (.Name y p) X.env) :: starEach es X.env := by rfl) : ClNs X (.Name y p :: es) (u :: us)
theorem ClNs.pa {X : Cx} : ∀ {es : List Expr} {us : List Value}, ClNs X es us → ∃ cs, Paired ClsV cs us ∧ cs.length = es.length ∧ PA X es (fun _ H Q => Q cs H)
  | _, _, .nil => ⟨[], .nil, rfl, PA.imp pa_nil fun _ _ _ h => h⟩
  | _, _, .cons (es := es) h t hs => by
    obtain ⟨cs, h1, h2, h3⟩ := t.pa
    obtain ⟨cv, h4, h5⟩ := h
    exact ⟨cv :: cs, .cons h4 h1, by rw [List.length_cons, List.length_cons, h2], PA.imp (pa_cons (h5 _) h3 hs) fun _ _ _ h => h⟩
section
variable {X : Cx} {B : Bs} {a : Addr} {oe : Obj} {pn : List (Addr × Obj)} {cls : String → Addr} {c : String} {i : Nat} {n y : Str} {u : Value} {b : Bool} {p p1 p2 pos tpos : Pos} {es : List Expr} {us : List Value} {kk : Nat}
theorem tpe_isE (E : ExcC X.K (cls c)) (hz : Zc (.ref (cls c)) none oe) (hv : ∃ vs, oe.data = .fields vs) (hg : Gl (X.suite a ((a, oe) :: pn)) "isinstance") (hm : X.mg "isinstance" = none) (hN : X.N[i]? = some n) (hvis : Vis X.env.scope n) (cn : ClN (X.suite a ((a, oe) :: pn)) y u)
    (hk : PySem.W.kitOne X.K (.ref (cls c)) u = some b) (hd : (n == ("__debug__" : Str)) = false := by decide) (hcd : (n == ("__classdict__" : Str)) = false := by decide)
    (hs : starEach [.Name n p1, .Name y p2] X.env = (false, eval (.Name n p1) X.env) :: starEach [.Name y p2] X.env := by rfl) (hs2 : starEach [.Name y p2] X.env = (false, eval (.Name y p2) X.env) :: starEach [] X.env := by rfl) (hpl : (backTo pos (starEach [.Name y p2] X.env)).any (·.1) = false := by rfl) :
    TPE (X.suite a ((a, oe) :: pn)) B (.Call (.Name "isinstance" p) [.Name n p1, .Name y p2] [] pos) (ttIsE i (.ref a) b) := by
  obtain ⟨cv, h4, h5⟩ := cn
  refine ⟨PE.imp (pe_callB (call_isE E hz hv) hg hm (by decide +kernel) (pa_cons (pe_var hN hvis hd hcd) (pa_cons (h5 p2) pa_nil hs2) hs) (by decide) (by decide) hs hpl) fun σ H Q h => ?_⟩
  obtain ⟨F, τ, P, I, ht, hq⟩ := h
  obtain ⟨⟨l, e1⟩, ht⟩ := ht.inv
  obtain ⟨v, e2, rp⟩ := I.wf.frz i l _ e1
  cases (show v = V.ref a from rp)
  exact ⟨.ref a, e2, cv, u, b, rfl, fun w r => h4.eq r, hk, hq _ _ _ _ _ ht I Stp.refl rfl trivial⟩
theorem tpe_isEt (E : ExcC X.K (cls c)) (hz : Zc (.ref (cls c)) none oe) (hv : ∃ vs, oe.data = .fields vs) (hg : Gl (X.suite a ((a, oe) :: pn)) "isinstance") (hm : X.mg "isinstance" = none) (hN : X.N[i]? = some n) (hvis : Vis X.env.scope n) (cn : ClNs (X.suite a ((a, oe) :: pn)) es us)
    (hl : es.length ≤ 100) (hk : PySem.W.kitAny X.K (.ref (cls c)) us = some b) (hd : (n == ("__debug__" : Str)) = false := by decide) (hcd : (n == ("__classdict__" : Str)) = false := by decide)
    (hs : starEach [.Name n p1, .Tuple es kk tpos] X.env = (false, eval (.Name n p1) X.env) :: starEach [.Tuple es kk tpos] X.env := by rfl) (hs2 : starEach [.Tuple es kk tpos] X.env = (false, eval (.Tuple es kk tpos) X.env) :: starEach [] X.env := by rfl) (hpl : (backTo pos (starEach [.Tuple es kk tpos] X.env)).any (·.1) = false := by rfl) :
    TPE (X.suite a ((a, oe) :: pn)) B (.Call (.Name "isinstance" p) [.Name n p1, .Tuple es kk tpos] [] pos) (ttIsE i (.ref a) b) := by
  obtain ⟨cs, h4, h6, h5⟩ := cn.pa
  refine ⟨PE.imp (pe_callB (call_isEt E hz hv) hg hm (by decide +kernel) (pa_cons (pe_var hN hvis hd hcd) (pa_cons (pe_tup h5) pa_nil hs2) hs) (by decide) (by decide) hs hpl) fun σ H Q h => ?_⟩
  obtain ⟨F, τ, P, I, ht, hq⟩ := h
  obtain ⟨⟨l, e1⟩, ht⟩ := ht.inv
  obtain ⟨v, e2, rp⟩ := I.wf.frz i l _ e1
  cases (show v = V.ref a from rp)
  refine ⟨.ref a, e2, by rw [h6, sizeLine_val]; omega, fun q nq => ⟨q, cs, us, b, rfl, upd_same, h4, hk, ?_⟩⟩
  have g := Grow.own (o := .tup cs) I.wf.sub nq
  exact hq _ _ _ _ _ ht (I.step (g.wf I.wf) g.step) g.step rfl trivial
end
theorem FnOk_cls {P : Program} {w : World} {K : PySem.W.Frag} {mg : Str → Option Value} {base : Heap} {CX : CXT} {k : Nat} {f : Addr} {fd : FuncData} {ps : List Str} {S : TSp} {cls cls' : String → Addr} (F : FnOk P w K mg base CX k f fd ps (liftSp K cls S)) (h : ∀ as PR PX, S as PR PX → S as PR fun _ _ => False) : FnOk P w K mg base CX k f fd ps (liftSp K cls' S) :=
  F.imp fun vs H Q E q => by
    obtain ⟨Fh, as, PR, PX, ao, hs, hq, _⟩ := q
    exact ⟨Fh, as, PR, _, ao, h as PR PX hs, hq, fun _ _ _ _ z _ => z.elim⟩
end TL
namespace TL
open PySem PySem.Spec PyProof.Rows L2
/-! ### what the walk uses -/
def isSub (c : String) : List String → Bool
  | [] => false
  | n :: ns => (n == c || n == "ValueError" || n == "ShunError") || isSub c ns
theorem cs_two {c : String} : ∀ {cs : List String}, cs.contains c = true → c ∈ cs
  | x :: xs, h => by simpa using h
theorem kitAny_n {K : PySem.W.Frag} {t : Value} {c : String} : PySem.W.kitAny K t [] = some (isSub c []) := rfl
theorem kitAny_c {K : PySem.W.Frag} {t u : Value} {us : List Value} {c n : String} {ns : List String} (h : PySem.W.kitOne K t u = some (isSub c [n])) (k : PySem.W.kitAny K t us = some (isSub c ns)) : PySem.W.kitAny K t (u :: us) = some (isSub c (n :: ns)) := by
  have e0 : isSub c (n :: ns) = (isSub c [n] || isSub c ns) := by
    show (_ || _) = ((_ || false) || _)
    rw [Bool.or_false]
  refine kitAny_cons h (fun e => ?_) (fun e => ?_)
  · rw [k, e0, e, Bool.false_or]
  · rw [e0, e, Bool.true_or]
/-! ### a text once or not at all -/
section
variable {X : Cx}
theorem op_mulS : OpR X (binaryOp .Mult) (fun x y H Q => ∃ z n, x = V.str z ∧ y = V.int n ∧ ((n = 0 ∧ Q (.str Str.empty) H) ∨ (n = 1 ∧ Q (.str z) H))) := by
  intro pins s σ H x y v u Q I rx ry h
  obtain ⟨z, n, rfl, rfl, q⟩ := h
  obtain ⟨t, rfl⟩ := rx
  obtain ⟨t2, rfl⟩ := ry
  rcases q with ⟨rfl, q⟩ | ⟨rfl, q⟩
  · refine PySem.SB.mul ⟨by decide, fun h => absurd (by decide) h, fun h => absurd (by decide) h⟩ fun t' k => ?_
    exact ⟨.str Str.empty, H, I.tok k, ⟨t', rfl⟩, q⟩
  · refine PySem.SB.mul ⟨by decide, fun _ h => (by cases h), fun _ h => (by cases h)⟩ fun t' k => ?_
    exact ⟨.str z, H, I.tok k, ⟨t', rfl⟩, q⟩
def mulST : G2 := fun a b k => match a, b with
  | .str z, .int n => (n = 0 ∧ k false (.str Str.empty)) ∨ (n = 1 ∧ k false (.str z))
  | _, _ => False
theorem o_mulS : OpT X (binaryOp .Mult) mulST := by
  refine ⟨_, op_mulS, fun F H x y tx ty G Q s rx ry hg k => ?_⟩
  unfold mulST at hg
  split at hg
  · refine ⟨_, _, rx.str, ry.int, ?_⟩
    rcases hg with ⟨e, hg⟩ | ⟨e, hg⟩
    · exact .inl ⟨e, k false _ _ F H hg (Grow.refl s) rfl⟩
    · exact .inr ⟨e, k false _ _ F H hg (Grow.refl s) rfl⟩
  · exact hg.elim
theorem q_mulS {z : Str} {b : Bool} {k : Bool → T → Prop} : mulST (.str z) (.int (b2i b)) k = k false (.str (if b = true then z else Str.empty)) := by
  apply propext
  cases b with
  | true => exact ⟨fun h => h.elim (fun q => by cases q.1) (fun q => q.2), fun h => .inr ⟨rfl, h⟩⟩
  | false => exact ⟨fun h => h.elim (fun q => q.2) (fun q => by cases q.1), fun h => .inl ⟨rfl, h⟩⟩
end
section
variable {i : Nat} {cs : List String} {tb : (String → TSt → Prop) → TTS} {ts : String → V → TTS} {D : TEnds} {τ : TSt} {c : String} {XT : String → TSt → Prop}
theorem z_try : ttTry i cs tb ts D τ = (noLk τ = true ∧ tb (tryX i cs ts D) D τ) := rf rfl
theorem noLk_c {k : Kd} {t : T} : noLk (some ⟨k, false, t⟩ :: τ) = noLk τ := by
  show (true && noLk τ) = noLk τ
  rw [Bool.true_and]
theorem noLk_n : noLk (none :: τ) = noLk τ := by
  show (true && noLk τ) = noLk τ
  rw [Bool.true_and]
theorem noLk_0 : noLk [] = true := rfl
theorem z_raise : ttRaise c XT D τ = XT c τ := rf rfl
theorem xt_e {as : List Sl} {PX : String → List T → Prop} : xtT as PX c τ = (keptA as τ ∧ PX c (outA as τ)) := rf rfl
theorem oD_rt : (offD i D).rt = D.rt := rf rfl
theorem oD_nx : (offD i D).nx = @box _ ⟨fun τ => D.nx (τ.set i none)⟩ := rf rfl
theorem tryX_i (h : cs.contains c = true) (k : ∀ a : Addr, setS τ i ⟨.frz, false, .oth (.ref a)⟩ (@box _ ⟨fun τ2 => ts c (.ref a) (offD i D) τ2⟩)) : tryX i cs ts D c τ := ⟨h, k⟩
theorem cndB_t {b : Bool} {f g : Unit → Prop} (h : b = true) (hf : f ()) : cnd b f g := by rw [h]; exact hf
theorem cndB_f {b : Bool} {f g : Unit → Prop} (h : b = false) (hg : g ()) : cnd b f g := by rw [h]; exact hg
end
theorem thr0 {X : Cx} {B : Bs} {cls : String → Addr} : Thr X B cls nox := ⟨fun _ _ _ _ => False, takes0, fun _ _ _ _ _ _ h => False.elim h⟩
/-- the addresses of the classes, by their names -/
def clsL (t : List (String × Addr)) (c : String) : Addr := (t.lookup c).getD 0
end TL

namespace TL
open PySem PySem.Spec PyProof.Rows L2
/-! ### ranges of numbers of any size -/
theorem turn_longrange {P : Program} {w : World} {K : PySem.W.Frag} {tg : Expr} (it : Addr) (lo : Int) (n : Nat) : Turn P w K tg (Itr lo n) [it] it (fun i h => IsLongIter h it (lo + (i : Nat) * 1) ((n : Int) - (i : Nat)) 1) where
  mem := by simp
  obj := fun i h st b hb => by
    have e : b = it := by simpa using hb
    subst e
    exact ⟨_, st, fun v z => by
      have z' : Data.fields _ = Data.cell v := z
      cases z'⟩
  keep := fun i h h' st k => k it (by simp) _ st
  item := by
    intro X hP hw hK hc i pins s σ H E I hf st hg
    subst hP hw hK
    obtain ⟨f0, f1, f2, f3, f4, f5⟩ := hf it (by simp)
    have W := Walks.longrange (prog := X.prog) (w := X.w) (I.ok.hd hc) it lo 1 n
    refine W.item i s _ _ hg st fun v h' tk hv st' kk => ?_
    obtain ⟨t, rfl⟩ := hv
    have I1 : Inv X pins σ H { s with heap := h', toks := tk } := I.turned (fun b o hb e => kk b o (by simpa using hb) e) f0 f1 f3 f4 f5
    refine ⟨_, rfl, go_of (s := { s with heap := h', toks := tk }) (n := "longrange_iterator") st' rfl rfl (by decide) ⟨.int (lo + i), H, I1, ⟨t, ?_⟩, ⟨rfl, rfl⟩, st', fun b hb => (hf b hb).1⟩⟩
    rw [Int.mul_one]
  done := by
    intro X hP hw hK hc i pins s σ H E I hf st hg
    subst hP hw hK
    obtain ⟨f0, f1, f2, f3, f4, f5⟩ := hf it (by simp)
    exact wpAny_pyNext_long_end (I.ok.hd hc) st (by have : n ≤ i := hg; omega) fun h' eb => ⟨rfl, I.turned (t' := s.toks) (fun b o hb e => eb b o hb e) f0 f1 f3 f4 f5⟩
  self := fun _ _ _ _ _ st h => wpAny_pyIter_longiter st h
section
variable {X : Cx} {B : Bs} {tg : Expr}
theorem range_itL {pins : List (Addr × Obj)} {σ : L2.St} {H : Hp} {s : Shared} {R : It → Hp → Prop} {E : Value → Shared → Prop} {lo hi : Int} {t u v : Tok} {tk : Nat} (I : Inv X pins σ H s)
    (q : R (Itr lo (hi - lo).toNat) H) : wpAny (model X.prog X.w) X.A (pyIter (.ref s.heap.objs.size)) (PIE X pins σ tg R) E { s with heap := s.heap.push { cls := .type "range", data := .fields #[.int lo t, .int hi u, .int 1 v] }, toks := tk } := by
  have I1 : Inv X pins σ H { s with heap := s.heap.push { cls := .type "range", data := .fields #[.int lo t, .int hi u, .int 1 v] }, toks := tk } := I.kept fun b o e => Heap.get?_push_of_some _ e
  have e1 : lo + ((0 : Nat) : Int) * 1 = lo := by simp
  have e2 : (((hi - lo).toNat : Nat) : Int) - ((0 : Nat) : Int) = Builtin.Range.rangeSize lo hi 1 := by rw [rangeSize_one]; split <;> omega
  by_cases hsm : Builtin.Range.small lo hi 1 = true
  · refine wpAny_pyIter_range (IsRange.new ..) hsm ?_
    refine ⟨(s.heap.push { cls := .type "range", data := .fields #[.int lo t, .int hi u, .int 1 v] }).objs.size, [(s.heap.push { cls := .type "range", data := .fields #[.int lo t, .int hi u, .int 1 v] }).objs.size], _, _, H, rfl,
      I1.kept (t' := tk) fun b o e => Heap.get?_push_of_some _ e, turn_range _ lo (hi - lo).toNat, ?_, fun b hb => ?_, q⟩
    · show IsRangeIter _ _ (lo + ((0 : Nat) : Int) * 1) ((((hi - lo).toNat : Nat) : Int) - ((0 : Nat) : Int)) 1
      rw [e1, e2]
      exact Heap.get?_push_size _ rfl
    · have e : b = (s.heap.push { cls := .type "range", data := .fields #[.int lo t, .int hi u, .int 1 v] }).objs.size := by simpa using hb
      subst e
      exact I1.fpOk (Nat.le_refl _) (I1.hok.fresh (Nat.le_refl _))
  · refine wpAny_pyIter_longrange (IsRange.new ..) (by simpa using hsm) ?_
    refine ⟨(s.heap.push { cls := .type "range", data := .fields #[.int lo t, .int hi u, .int 1 v] }).objs.size, [(s.heap.push { cls := .type "range", data := .fields #[.int lo t, .int hi u, .int 1 v] }).objs.size], _, _, H, rfl,
      I1.kept (t' := tk) fun b o e => Heap.get?_push_of_some _ e, turn_longrange _ lo (hi - lo).toNat, ?_, fun b hb => ?_, q⟩
    · show IsLongIter _ _ (lo + ((0 : Nat) : Int) * 1) ((((hi - lo).toNat : Nat) : Int) - ((0 : Nat) : Int)) 1
      rw [e1, e2]
      exact Heap.get?_push_size _ rfl
    · have e : b = (s.heap.push { cls := .type "range", data := .fields #[.int lo t, .int hi u, .int 1 v] }).objs.size := by simpa using hb
      subst e
      exact I1.fpOk (Nat.le_refl _) (I1.hok.fresh (Nat.le_refl _))
def iRng2L (ta : TA) : TI := fun σ H R => ta σ H fun vs H1 => ∃ i j : Int, vs = [.int i, .int j] ∧ R (Itr i (j - i).toNat) H1
theorem pi_range2L {a b : Expr} {ta : TA} {p pos : Pos} (hg : Gl X "range") (hm : X.mg "range" = none) (ha : PA X [a, b] ta) (hs : starEach [a, b] X.env = [(false, eval a X.env), (false, eval b X.env)] := by rfl) (hs2 : starEach [b] X.env = [(false, eval b X.env)] := by rfl) :
    PI X tg (.Call (.Name "range" p) [a, b] [] pos) (iRng2L ta) := by
  refine ⟨fun pins s σ H R I h => ?_⟩
  refine Call_ (ld_blt I hg hm boot_range (PyProof.Rows.callWith_type1 (thn (ha.run pos pins s σ H _ I h) fun us s1 ⟨vs, H1, I1, r1, q1⟩ => ?_) (by rw [hs, hs2]) (by rw [hs2]; rfl)))
  obtain ⟨i, j, e, q⟩ := q1
  subst e
  cases r1 with
  | cons r rr =>
    cases rr with
    | cons r' rr =>
      cases rr
      obtain ⟨t, rfl⟩ := r
      obtain ⟨t', rfl⟩ := r'
      exact call_range_2 (range_itL I1 q)
def r2L (ts : List T) (τ : TSt) (P : List T → Lk → TSt → Prop) : Prop := match ts with
  | [.int i, .int j] => P (rngT i (j - i).toNat) none τ
  | _ => False
def tiRng2L (tl : TTL) : TTI := fun τ P => tl τ fun ts τ1 => r2L ts τ1 P
theorem r2L_i {i j : Int} {τ : TSt} {P : List T → Lk → TSt → Prop} : r2L [.int i, .int j] τ P = P (rngT i (j - i).toNat) none τ := rf rfl
theorem z_rng2L {tl : TTL} {τ : TSt} {Pi : List T → Lk → TSt → Prop} : tiRng2L tl τ Pi = tl τ (@box _ ⟨fun ts τ1 => r2L ts τ1 Pi⟩) := rf rfl
theorem tpi_rng2L {a b : Expr} {tl : TTL} {p pos : Pos} (hg : Gl X "range") (hm : X.mg "range" = none) (ha : TPL X B [a, b] tl) (hs : starEach [a, b] X.env = [(false, eval a X.env), (false, eval b X.env)] := by rfl) (hs2 : starEach [b] X.env = [(false, eval b X.env)] := by rfl) :
    TPI X B tg (.Call (.Name "range" p) [a, b] [] pos) (tiRng2L tl) :=
  ⟨PI.imp (pi_range2L hg hm ha.pa hs hs2) fun σ H R q => by
  obtain ⟨F, τ, P, I, ht, hq⟩ := q
  refine ⟨F, τ, _, I, ht, fun ts τ1 F1 H1 vs h1 I1 s1 r1 => ?_⟩
  unfold r2L at h1
  match ts, h1 with
  | [.int i, .int j], hp =>
    obtain ⟨v, r, rfl, e1, v2, r2, rfl, e2, e3⟩ := r1
    cases e1
    cases e2
    cases e3
    exact ⟨i, j, rfl, hq _ none τ1 F1 H1 _ _ hp I1 s1 rng_ok trivial⟩⟩
end
end TL

namespace TL
open PySem PySem.Spec PyProof.Rows L2
/-! ### a call of one of two defs: [f, g][i](..), (f, g)[i](..) -/
section
variable {X : Cx} {B : Bs} {k : Nat} {cls : String → Addr} {x x0 x1 : Str} {t : TA} {p p0 p1 pos pos2 : Pos} {d i e : Expr} {es : List Expr}
/-- what the two names may hold, the one at j is called -/
def two (isL : Bool) (f0 f1 : Addr) : HO := if isL then .lst [.ref f0, .ref f1] else .tup [.ref f0, .ref f1]
def tCall2 (K : PySem.W.Frag) (f0 f1 : Addr) (sp0 sp1 : Sp) (E : L2.St → XK) (isL : Bool) (ti : TE) (t : TA) : TE := fun σ H Q => ∀ q, H q = none →
  ti σ (upd H q (two isL f0 f1)) fun y H1 => rIx K (.ref q) y H1 fun v H1 => (v = .ref f0 ∧ t σ H1 fun vs H2 => sp0 vs H2 Q (E σ)) ∨ (v = .ref f1 ∧ t σ H1 fun vs H2 => sp1 vs H2 Q (E σ))
structure CalF (P : Program) (w : World) (K : PySem.W.Frag) (mg : Str → Option Value) (base : Heap) (CX : CXT) (k : Nat) (x : Str) (f : Addr) (sp : Sp) : Prop where
  ex : ∃ fd ps, FnOk P w K mg base CX k f fd ps sp ∧ mg x = some (.ref f) ∧ PySem.W.keepIn K (.ref f) = true ∧ Binds K fd ps []
variable {CX0' CX1' : CXT} {f0 f1 : Addr} {sp0 sp1 : Sp} {E : L2.St → XK} {ti : TE} {isL : Bool}
theorem pe_two (hg0 : Gl X x0) (hm0 : X.mg x0 = some (.ref f0)) (hg1 : Gl X x1) (hm1 : X.mg x1 = some (.ref f1)) (hd0 : (x0 == ("__debug__" : Str)) = false := by decide) (hd1 : (x1 == ("__debug__" : Str)) = false := by decide)
    (h0 : starEach (.Name x0 p0 :: [.Name x1 p1]) X.env = (false, eval (.Name x0 p0) X.env) :: starEach [.Name x1 p1] X.env := by rfl) (h1 : starEach [.Name x1 p1] X.env = (false, eval (.Name x1 p1) X.env) :: starEach [] X.env := by rfl) :
    PA X [.Name x0 p0, .Name x1 p1] (fun σ H Q => Q [.ref f0, .ref f1] H) := by
  have h : PA X [.Name x0 p0, .Name x1 p1] _ := pa_cons (pe_glob (v := .ref f0) hg0 hm0 rfl hd0) (pa_cons (pe_glob (v := .ref f1) hg1 hm1 rfl hd1) pa_nil h1) h0
  exact PA.imp h fun σ H Q q => q
theorem pe_call2 (hr : Room k X.A) (F0 : CalF X.prog X.w X.K X.mg X.base CX0' k x0 f0 sp0) (F1 : CalF X.prog X.w X.K X.mg X.base CX1' k x1 f1 sp1) (hx0 : ∀ σ, PassesAt CX0' X σ (E σ)) (hx1 : ∀ σ, PassesAt CX1' X σ (E σ))
    (hd : PE X d fun σ H Q => ∀ q, H q = none → Q (.ref q) (upd H q (two isL f0 f1))) (hi : PE X i ti) (hs : PlainIx i) (ha : PA X (e :: es) t)
    (he : starEach (e :: es) X.env = (false, eval e X.env) :: starEach es X.env := by rfl) (hpl : (backTo pos (starEach es X.env)).any (·.1) = false := by rfl) :
    PE X (.Call (.Subscript d i pos2) (e :: es) [] pos) (tCall2 X.K f0 f1 sp0 sp1 E isL ti t) := by
  obtain ⟨fd0, ps0, F0, m0, k0, b0⟩ := F0.ex
  obtain ⟨fd1, ps1, F1, m1, k1, b1⟩ := F1.ex
  refine ⟨fun pins s σ H Q I h => ?_⟩
  show wpAny _ _ (eval (.Subscript d i pos2) X.env >>= _) _ _ s
  refine wpAny_bind (thn ((pe_ix (ix_seq (X := X)) hd hi hs).run pins s σ H (fun v H1 => (v = .ref f0 ∧ t σ H1 fun vs H2 => sp0 vs H2 Q (E σ)) ∨ (v = .ref f1 ∧ t σ H1 fun vs H2 => sp1 vs H2 Q (E σ))) I ?_) fun u s1 ⟨v, H1, I1, r1, q1⟩ => ?_)
  · exact h
  · rcases q1 with ⟨rfl, q⟩ | ⟨rfl, q⟩
    · cases r1
      refine PySem.W.callWith_K (h₀ := X.base) I.ok.mod.kin k0 (thn (ha.run pos pins s1 σ _ _ I1 q) fun us s2 ⟨vs, H2, I2, r, q⟩ => ⟨I2.kIn, ?_⟩) he hpl
      exact run_fnS F0 hr b0 (hx0 σ) I2 r q
    · cases r1
      refine PySem.W.callWith_K (h₀ := X.base) I.ok.mod.kin k1 (thn (ha.run pos pins s1 σ _ _ I1 q) fun us s2 ⟨vs, H2, I2, r, q⟩ => ⟨I2.kIn, ?_⟩) he hpl
      exact run_fnS F1 hr b1 (hx1 σ) I2 r q
def pick2 (i : Int) (f g : Unit → Prop) : Prop := (i = 0 ∧ f ()) ∨ (i = 1 ∧ g ())
theorem pick2_0 {i : Int} {f g : Unit → Prop} (h : i = 0) (q : f ()) : pick2 i f g := .inl ⟨h, q⟩
theorem pick2_1 {i : Int} {f g : Unit → Prop} (h : i = 1) (q : g ()) : pick2 i f g := .inr ⟨h, q⟩
def ttCall2 (S0 S1 : TSp) (XT : String → TSt → Prop) (tti : TTE) (ta : TTA) : TTE := fun τ P => tti τ fun r τ1 => inK (r.t τ1) fun i => pick2 i (fun _ => ttCall S0 XT ta τ1 P) (fun _ => ttCall S1 XT ta τ1 P)
theorem z_call2 {S0 S1 : TSp} {XT : String → TSt → Prop} {tti : TTE} {ta : TTA} {τ : TSt} {P : R → TSt → Prop} : ttCall2 S0 S1 XT tti ta τ P = tti τ (@box _ ⟨fun r τ1 => inK (r.t τ1) (@box _ ⟨fun i => pick2 i (@box _ ⟨fun _ => ttCall S0 XT ta τ1 P⟩) (@box _ ⟨fun _ => ttCall S1 XT ta τ1 P⟩)⟩)⟩) := rf rfl
variable {S0 S1 : TSp} {XT : String → TSt → Prop} {tti : TTE} {ta : TTA} {W : WX}
theorem two_at {K : PySem.W.Frag} {H : Hp} {q : Addr} {j : Int} {v : V} {Q : VK} (hq : H q = some (two isL f0 f1)) (hv : atI [V.ref f0, V.ref f1] j = some v) (k : Q v H) : rIx K (.ref q) (.int j) H Q := by
  cases isL with
  | true => exact .inl ⟨q, _, j, v, rfl, rfl, SqL.of hq, hv, k⟩
  | false => exact .inr (.inl ⟨q, _, j, v, rfl, rfl, .inl (.inl hq), hv, k⟩)
theorem call2_imp (hE : ∀ c F H σ τ, Inn X.K B F H σ τ → XT c τ → W (.ref (cls c)) none σ H) (σ : L2.St) (H : Hp) (Q : VK) (h : lift X.K B (ttCall2 S0 S1 XT tti ta) σ H Q) :
    tCall2 X.K f0 f1 (liftSp X.K cls S0) (liftSp X.K cls S1) (WE W) isL (lift X.K B tti) (liftA X.K B ta) σ H Q := by
  obtain ⟨F, τ, P, I, ht, hq⟩ := h
  intro q nq
  have g : Grow F H F (upd H q (two isL f0 f1)) := Grow.own I.wf.sub nq
  have I1 := I.step (g.wf I.wf) (τ1 := τ) g.step
  refine lift.go I1 ht fun r τ1 F1 H1 v h1 I2 s2 r2 f2 => ?_
  obtain ⟨j, ej, h1⟩ := inK_inv h1
  have hv := r2.rd I2.wf
  rw [ej] at hv
  have hv := hv.int
  subst hv
  have hq1 : H1 q = some (two isL f0 f1) := s2.fr q _ upd_same fun i k o => by
    obtain ⟨l, t, e1, e2, e3⟩ := o
    obtain ⟨a, e4, _, o4⟩ := I.wf.own i k l t e1 e2
    rw [e3] at e4
    cases e4
    obtain ⟨ob, ho⟩ := o4.ex
    rw [nq] at ho
    cases ho
  have st : Stp F H σ τ F1 H1 τ1 := Stp.trans g.step s2
  have fin : ∀ {S : TSp}, ttCall S XT ta τ1 P → tCallS (liftSp X.K cls S) (WE W) (liftA X.K B ta) σ H1 Q := fun {S} hc =>
    call_impS hE σ H1 Q ⟨F1, τ1, P, I2, hc, fun r τ2 F' H' v hp I' s' rr fr => hq r τ2 F' H' v hp I' (st.trans s') rr (Fresh.step st fr)⟩
  rcases h1 with ⟨rfl, h1⟩ | ⟨rfl, h1⟩
  · exact two_at hq1 rfl (.inl ⟨rfl, fin h1⟩)
  · exact two_at hq1 rfl (.inr ⟨rfl, fin h1⟩)
/-- what a def of either kind keeps -/
structure CalP (P : Program) (w : World) (K : PySem.W.Frag) (mg : Str → Option Value) (base : Heap) (cls : String → Addr) (X : Cx) (W : WX) (k : Nat) (x : Str) (S : TSp) : Prop where
  ex : ∃ (CX : CXT) (f : Addr), CalF P w K mg base CX k x f (liftSp K cls S) ∧ ∀ σ, PassesAt CX X σ (WE W σ)
theorem calp_0 {ps : List Str} {S : TSp} (C : Cal X.prog X.w X.K X.mg X.base CX0 cls x ps k S) {k' : Nat} (h : k ≤ k') : CalP X.prog X.w X.K X.mg X.base cls X W k' x S := by
  obtain ⟨f, fd, F, hm, hk, hb⟩ := C.ex
  exact ⟨CX0, f, ⟨fd, ps, F.mono h, hm, hk, hb⟩, fun σ _ _ _ _ _ _ z => z.elim⟩
theorem calp_X {ps : List Str} {S : TSp} (C : Cal X.prog X.w X.K X.mg X.base (L2.CX X.prog X.w) cls x ps k S) (tk : Takes X W) {k' : Nat} (h : k ≤ k') : CalP X.prog X.w X.K X.mg X.base cls X W k' x S := by
  obtain ⟨f, fd, F, hm, hk, hb⟩ := C.ex
  exact ⟨_, f, ⟨fd, ps, F.mono h, hm, hk, hb⟩, fun σ => passAt tk σ⟩
theorem tpe_call2L {pd : Pos} (hE : ∀ c F H σ τ, Inn X.K B F H σ τ → XT c τ → W (.ref (cls c)) none σ H) (hr : Room k X.A) (C0 : CalP X.prog X.w X.K X.mg X.base cls X W k x0 S0) (C1 : CalP X.prog X.w X.K X.mg X.base cls X W k x1 S1)
    (hg0 : Gl X x0) (hg1 : Gl X x1) (hi : TPE X B i tti) (hs : PlainIx i) (ha : TPA X B (e :: es) ta) (hd0 : (x0 == ("__debug__" : Str)) = false := by decide) (hd1 : (x1 == ("__debug__" : Str)) = false := by decide)
    (h0 : starEach (.Name x0 p0 :: [.Name x1 p1]) X.env = (false, eval (.Name x0 p0) X.env) :: starEach [.Name x1 p1] X.env := by rfl) (h1 : starEach [.Name x1 p1] X.env = (false, eval (.Name x1 p1) X.env) :: starEach [] X.env := by rfl)
    (he : starEach (e :: es) X.env = (false, eval e X.env) :: starEach es X.env := by rfl) (hpl : (backTo pos (starEach es X.env)).any (·.1) = false := by rfl) :
    TPE X B (.Call (.Subscript (.List [.Name x0 p0, .Name x1 p1] pd) i pos2) (e :: es) [] pos) (ttCall2 S0 S1 XT tti ta) := by
  obtain ⟨CA, f0, F0, hx0⟩ := C0.ex
  obtain ⟨CB, f1, F1, hx1⟩ := C1.ex
  have sz := sizeLine_val
  have m0 : X.mg x0 = some (.ref f0) := by obtain ⟨_, _, _, m, _⟩ := F0.ex; exact m
  have m1 : X.mg x1 = some (.ref f1) := by obtain ⟨_, _, _, m, _⟩ := F1.ex; exact m
  exact ⟨PE.imp (pe_call2 (isL := true) hr F0 F1 hx0 hx1 (PE.imp (pe_lst (pe_two hg0 m0 hg1 m1 hd0 hd1 h0 h1)) fun σ H Q h => ⟨by simp; omega, h⟩) hi.pe hs ha.pa he hpl) (call2_imp hE)⟩
theorem tpe_call2T {xc} {pd : Pos} (hE : ∀ c F H σ τ, Inn X.K B F H σ τ → XT c τ → W (.ref (cls c)) none σ H) (hr : Room k X.A) (C0 : CalP X.prog X.w X.K X.mg X.base cls X W k x0 S0) (C1 : CalP X.prog X.w X.K X.mg X.base cls X W k x1 S1)
    (hg0 : Gl X x0) (hg1 : Gl X x1) (hi : TPE X B i tti) (hs : PlainIx i) (ha : TPA X B (e :: es) ta) (hd0 : (x0 == ("__debug__" : Str)) = false := by decide) (hd1 : (x1 == ("__debug__" : Str)) = false := by decide)
    (h0 : starEach (.Name x0 p0 :: [.Name x1 p1]) X.env = (false, eval (.Name x0 p0) X.env) :: starEach [.Name x1 p1] X.env := by rfl) (h1 : starEach [.Name x1 p1] X.env = (false, eval (.Name x1 p1) X.env) :: starEach [] X.env := by rfl)
    (he : starEach (e :: es) X.env = (false, eval e X.env) :: starEach es X.env := by rfl) (hpl : (backTo pos (starEach es X.env)).any (·.1) = false := by rfl) :
    TPE X B (.Call (.Subscript (.Tuple [.Name x0 p0, .Name x1 p1] xc pd) i pos2) (e :: es) [] pos) (ttCall2 S0 S1 XT tti ta) := by
  obtain ⟨CA, f0, F0, hx0⟩ := C0.ex
  obtain ⟨CB, f1, F1, hx1⟩ := C1.ex
  have sz := sizeLine_val
  have m0 : X.mg x0 = some (.ref f0) := by obtain ⟨_, _, _, m, _⟩ := F0.ex; exact m
  have m1 : X.mg x1 = some (.ref f1) := by obtain ⟨_, _, _, m, _⟩ := F1.ex; exact m
  exact ⟨PE.imp (pe_call2 (isL := false) hr F0 F1 hx0 hx1 (PE.imp (pe_tup (pe_two hg0 m0 hg1 m1 hd0 hd1 h0 h1)) fun σ H Q h => ⟨by simp; omega, h⟩) hi.pe hs ha.pa he hpl) (call2_imp hE)⟩
end
end TL

namespace TL
open PySem PySem.W PySem.Calls PyProof.Rows PyProof.V PySem.Spec L2
/-! ### sorted(set(xs)), xs a tuple or a list of at most 4000 ints -/
section
variable {P : Program} {w : World} {A : Around} {E : Value → Shared → Prop} {s : Shared} {a : Addr}
theorem sorted_setAny {S : Int → Bool} {n : Nat} {Q : Value → Shared → Prop} (R : SetR w s.heap a S n) (hh : A.handled = none) (hz : n ≤ 4095)
    (hQ : ∀ s' p (out : Array Value) (c : Nat) (ns : List Int), (∀ b o, s.heap.get? b = some o → s'.heap.get? b = some o) → s'.gens = s.gens → s'.os = s.os → s.heap.objs.size ≤ p →
      s'.heap.get? p = some (seqObj "list" out c) → IntsAre out.toList ns → ns.Pairwise (· < ·) → (∀ k, k ∈ ns ↔ S k = true) → ns.length = n → Q (.ref p) s') :
    wpAny (model P w) A (call (.builtin "sorted") [.ref a]) Q E s := by
  obtain ⟨o, es, ep, t, ho, hex, hd, g, nd, hm, hb, hf, hn, hr, hl⟩ := R
  refine Calls.call_function_entry kind_sorted plain_sorted entry_sorted (args_sorted1 _) ?_
  unfold Builtin.«sorted»
  refine wpAny_bind (m := checkCount "sorted" 1 1 _) (wpAny_pure ?_)
  refine wpAny_bind (collect_set (A := A.in1) hh ⟨o, ho, hex.1, hd⟩ hf hb hr hl fun s1 vs k1 hz1 g1 o1 pm => ?_)
  have hvl : vs.length = n := by rw [pm.length_eq, List.length_map, Array.length_toList]; exact hn
  have hI : IntsAre vs (vs.map Builtin.Re.reRawOf) := ints_of vs fun v hv => by
    obtain ⟨e, he, q⟩ := List.mem_map.mp (pm.mem_iff.mp hv)
    obtain ⟨k, tk, h1, _⟩ := g e he
    exact ⟨k, tk, by rw [← q]; exact h1⟩
  have pk : (vs.map Builtin.Re.reRawOf).Perm (es.toList.map keyOf) := by
    have q := pm.map Builtin.Re.reRawOf
    rw [List.map_map] at q
    exact q
  refine wpAny_bind (wpAny_newList ?_ (by rw [hvl, sizeLine_eq]; omega))
  have hoL : (s1.heap.push (seqObj "list" vs.toArray 0)).get? s1.heap.objs.size = some (seqObj "list" vs.toArray 0) := Heap.get?_push_size _ rfl
  refine wpAny_bind (wpAny_holding (wpAny_call_entry slot_list_sort ⟨_, hoL, rfl⟩ entry_list_sort (list_sort_treeAny hoL hI (by rw [hvl, sizeLine_eq]; omega) fun out ns' a1 a2 a3 => ⟨_, rfl, ?_⟩) (args_list_sort _)))
  obtain ⟨c, hc⟩ := sortedHeap_at (vs := vs) (out := out) hoL
  have pn : ns'.Perm (es.toList.map keyOf) := a2.trans pk
  refine wpAny_pure ⟨_, rfl, hQ _ s1.heap.objs.size out c ns' (fun b u e => ?_) g1 o1 hz1 hc a1 (lt_of_le_nodup ns' a3 (pn.nodup_iff.mpr nd)) (fun k => by rw [pn.mem_iff, ← hm k]) ?_⟩
  · have q := k1 b u e
    have hlt := Heap.lt_size q
    show (sortedHeap (s1.heap.push (seqObj "list" vs.toArray 0)) s1.heap.objs.size vs out).get? b = some u
    rw [sortedHeap_old (Nat.ne_of_lt hlt) (by rw [size_push']; exact Nat.lt_succ_of_lt hlt)]
    exact Heap.get?_push_of_some _ q
  · rw [pn.length_eq, List.length_map, Array.length_toList]; exact hn
end
section
variable {X : Cx} {a : Expr} {ta : TE} {p p2 q pos : Pos}
theorem sorted_set_okA {pins : List (Addr × Obj)} {σ : L2.St} {H : Hp} {s : Shared} {b : Addr} {S : Int → Bool} {n : Nat} {Q : VK} (hc : X.calm = true) (I : Inv X pins σ H s) (R : SetR X.w s.heap b S n) (h64 : n ≤ 4095)
    (q : ∀ (ms : List Int) (p : Addr), ms.Pairwise (· < ·) → (∀ k, k ∈ ms ↔ S k = true) → H p = none → Q (.ref p) (upd H p (.lst (ms.map V.int)))) :
    wpAny (model X.prog X.w) X.A (call (.builtin "sorted") [.ref b]) (EP X pins σ Q) X.xe s := by
  refine sorted_setAny R (I.ok.hd hc) h64 fun s' p out c ns k g o hp hg hi hs hm hl => ?_
  have hlen : (ns.map V.int).length ≤ sizeLine := by rw [List.length_map, hl, sizeLine_eq]; omega
  have hn : H p = none := I.hok.fresh hp
  have J : Inv X pins σ (upd H p (.lst (ns.map V.int))) { s with heap := s'.heap, gens := s'.gens, drawn := s'.drawn, toks := s'.toks } :=
    I.call (ch := []) (Un.laid k hp hn) (I.hok.laid k hp ⟨hlen, out.toList, c, vals_of_ints hi, hg⟩) (by rw [g]; exact I.bare) (fun _ z => nomatch z)
  have e : s' = { s with heap := s'.heap, gens := s'.gens, drawn := s'.drawn, toks := s'.toks } := by
    cases s'
    cases s
    cases o
    rfl
  rw [e]
  exact ⟨.ref p, _, J, rfl, q ns p hs hm hn⟩
def rSortSetA (K : PySem.W.Frag) : List V → Hp → VK → Prop := fun xs H Q => ∃ (l : Addr) (ns : List Int), xs = [V.ref l] ∧ (SqT K H l (ns.map V.int) ∨ SqL K H l (ns.map V.int)) ∧ ns.length ≤ 4000 ∧
  ∀ (ms : List Int) (p : Addr), ms.Pairwise (· < ·) → (∀ k, k ∈ ms ↔ k ∈ ns) → H p = none → Q (.ref p) (upd H p (.lst (ms.map V.int)))
theorem pe_sortSetA (hc : X.calm = true) (hg : Gl X "sorted") (hm : X.mg "sorted" = none) (hg2 : Gl X "set") (hm2 : X.mg "set" = none) (ha : PE X a ta)
    (na : starEach [a] X.env = (false, eval a X.env) :: starEach [] X.env := by rfl) : PE X (.Call (.Name "sorted" p) [.Call (.Name "set" p2) [a] [] q] [] pos) (fun σ H Q => ta σ H fun x H1 => rSortSetA X.K [x] H1 Q) := by
  refine ⟨fun pins s σ H Q I h => ?_⟩
  refine Call_ (ld_blt I hg hm PyProof.Rows.boot_sorted ?_)
  refine callWith_builtin1 (args_cons ?_ rfl) rfl rfl
  refine Call_ (ld_blt I hg2 hm2 PyProof.Rows.boot_set ?_)
  refine callWith_type1 (args_cons (thn (ha.run pins s σ H _ I h) fun v s1 ⟨x, H1, I1, r1, q1⟩ => args_nil ?_) na) na rfl
  obtain ⟨l, ns, ex, hq, h1, q1⟩ := q1
  cases ex
  cases r1
  rcases hq with hq | hq
  · obtain ⟨its, r, pl, hz⟩ := I1.tuple hq
    refine call_set_tupI ns (I1.ok.hd hc) pl (by simpa using r.ints) (by unfold scanBound; omega) fun h' tk c R hcn hk => ?_
    refine args_nil ?_
    have I2 : Inv X pins σ H1 { s1 with heap := h', toks := tk } := I1.kept hk
    exact sorted_set_okA hc I2 R (by omega) fun ms p hp hm np => q1 ms p hp (fun k => by rw [hm k, decide_eq_true_eq]) np
  · obtain ⟨its, r, pl, hz⟩ := I1.list hq
    refine set_of_lst ns (I1.ok.hd hc) pl.isList (by simpa using r.ints) (by unfold scanBound; omega) fun h' tk c R hcn hk => ?_
    refine args_nil ?_
    have I2 : Inv X pins σ H1 { s1 with heap := h', toks := tk } := I1.kept hk
    exact sorted_set_okA hc I2 R (by omega) fun ms p hp hm np => q1 ms p hp (fun k => by rw [hm k, decide_eq_true_eq]) np
end
section
variable {X : Cx} {B : Bs} {e : Expr} {te : TTE} {p p2 q pos : Pos}
def sortSetA : C1 := fun t k => match t with
  | .tup ts => intsT ts fun ns => ns.length ≤ 4000 ∧ ∀ ms : List Int, ms.Pairwise (· < ·) → (∀ x, x ∈ ms ↔ x ∈ ns) → k true (.lst (ms.map T.int))
  | .lst ts => intsT ts fun ns => ns.length ≤ 4000 ∧ ∀ ms : List Int, ms.Pairwise (· < ·) → (∀ x, x ∈ ms ↔ x ∈ ns) → k true (.lst (ms.map T.int))
  | _ => False
theorem tpe_sortSetA (hc : X.calm = true) (hg : Gl X "sorted") (hm : X.mg "sorted" = none) (hg2 : Gl X "set") (hm2 : X.mg "set" = none) (he : TPE X B e te)
    (na : starEach [e] X.env = (false, eval e X.env) :: starEach [] X.env := by rfl) : TPE X B (.Call (.Name "sorted" p) [.Call (.Name "set" p2) [e] [] q] [] pos) (ttC1 sortSetA te) :=
  ⟨PE.imp (pe_sortSetA hc hg hm hg2 hm2 he.pe na) fun σ H Q h => by
    refine c1_imp (r := rSortSetA X.K) (fun F H x t G Q s r hg k => ?_) σ H Q h
    cases t with
    | tup ts =>
      obtain ⟨ns, rfl, hl, hg⟩ := hg
      obtain ⟨a, vs, rfl, hd, z, rp⟩ := r.tup
      rw [Reps.ints.mp rp] at hd
      refine ⟨a, ns, rfl, .inl (SqT.mono s hd), hl, fun ms p hp hm np => ?_⟩
      refine k true _ _ _ _ (hg ms hp hm) (Grow.own s np) ⟨p, rfl, np, s.free np, _, upd_same, ?_, Reps.ints.mpr rfl⟩
      rw [List.length_map]
      have := nodup_len (l := ms) (m := ns) (hp.imp fun h => by omega) fun x hx => (hm x).mp hx
      have := sizeLine_val
      omega
    | lst ts =>
      obtain ⟨ns, rfl, hl, hg⟩ := hg
      obtain ⟨a, vs, rfl, hd, z, rp⟩ := r.lst s
      rw [Reps.ints.mp rp] at hd
      refine ⟨a, ns, rfl, .inr (SqL.of hd), hl, fun ms p hp hm np => ?_⟩
      refine k true _ _ _ _ (hg ms hp hm) (Grow.own s np) ⟨p, rfl, np, s.free np, _, upd_same, ?_, Reps.ints.mpr rfl⟩
      rw [List.length_map]
      have := nodup_len (l := ms) (m := ns) (hp.imp fun h => by omega) fun x hx => (hm x).mp hx
      have := sizeLine_val
      omega
    | _ => exact hg.elim⟩
theorem q_sortSetA0 {ns : List Int} {k : Bool → T → Prop} : sortSetA (.tup (ns.map T.int)) k = (ns.length ≤ 4000 ∧ ∀ ms : List Int, ms.Pairwise (· < ·) → (∀ x, x ∈ ms ↔ x ∈ ns) → k true (.lst (ms.map T.int))) := by
  show intsT _ _ = _
  rw [intsT_map]
theorem q_sortSetA1 {ns : List Int} {k : Bool → T → Prop} : sortSetA (.lst (ns.map T.int)) k = (ns.length ≤ 4000 ∧ ∀ ms : List Int, ms.Pairwise (· < ·) → (∀ x, x ∈ ms ↔ x ∈ ns) → k true (.lst (ms.map T.int))) := by
  show intsT _ _ = _
  rw [intsT_map]
end
end TL

namespace TL
open PySem PySem.Spec PyProof.Rows L2
/-! ### tuple(range(a, b)) -/
section
variable {X : Cx} {B : Bs} {e a b : Expr} {te ta tb : TTE} {p p2 q pos : Pos}
theorem trg_fin {F H : Hp} {σ : L2.St} {τ : TSt} {i j : Int} {Q : VK} {q : Addr} (I : Inn X.K B F H σ τ) (ok : RgOk i j) (nq : H q = none)
    (k : ∀ F' H', Inn X.K B F' H' σ τ → Stp F H σ τ F' H' τ → RR X.K F' H' σ τ (.ref q) (.val false (.tup (rngT i (j - i).toNat))) → Q (.ref q) H') : Q (.ref q) (upd H q (.tup (rgV i j))) := by
  have g : Grow F H (upd F q (.tup (rgV i j))) (upd H q (.tup (rgV i j))) := Grow.frz I.wf.sub nq
  have hl : (rgV i j).length ≤ sizeLine := by
    rw [rgV_length]
    have := ok.2.2.2.2
    have := sizeLine_val
    omega
  obtain ⟨rr, fr⟩ := RG.rr (v := .ref q) (k := false) (t := .tup (rngT i (j - i).toNat)) I.wf g ⟨q, rgV i j, rfl, .inl (.inl upd_same), hl, rg_rep⟩
  exact k _ _ (I.step (g.wf I.wf) g.step) g.step rr
def ttTRg2 (ta tb : TTE) : TTE := fun τ P => ta τ fun ra τ1 => tb τ1 fun rb τ2 => inK (ra.t τ2) fun i => inK (rb.t τ2) fun j => RgOk i j ∧ P (.val false (.tup (rngT i (j - i).toNat))) τ2
theorem z_trg2 {τ : TSt} {P : R → TSt → Prop} : ttTRg2 ta tb τ P = ta τ (@box _ ⟨fun ra τ1 => tb τ1 (@box _ ⟨fun rb τ2 => inK (ra.t τ2) (@box _ ⟨fun i => inK (rb.t τ2) (@box _ ⟨fun j => RgOk i j ∧ P (.val false (.tup (rngT i (j - i).toNat))) τ2⟩)⟩)⟩)⟩) := rf rfl
theorem tpe_trg2 (hc : X.calm = true) (hg : Gl X "tuple") (hm : X.mg "tuple" = none) (hg2 : Gl X "range") (hm2 : X.mg "range" = none) (ha : TPE X B a ta) (hb : TPE X B b tb)
    (na : starEach [a, b] X.env = (false, eval a X.env) :: starEach [b] X.env := by rfl) (nb : starEach [b] X.env = (false, eval b X.env) :: starEach [] X.env := by rfl) (hp : (backTo q (starEach [b] X.env)).any (·.1) = false := by rfl)
    (na2 : starEach [.Call (.Name "range" p2) [a, b] [] q] X.env = (false, eval (.Call (.Name "range" p2) [a, b] [] q) X.env) :: starEach [] X.env := by rfl) :
    TPE X B (.Call (.Name "tuple" p) [.Call (.Name "range" p2) [a, b] [] q] [] pos) (ttTRg2 ta tb) := by
  refine ⟨PE.imp (pe_tupRg hc hg hm (prg_2 hg2 hm2 ha.pe hb.pe na nb hp) na2) fun σ H Q h => ?_⟩
  obtain ⟨F, τ, P, I, ht, hq⟩ := h
  refine lift.go I ht fun ra τ1 F1 H1 x h1 I1 s1 r1 f1 => ?_
  refine lift.go I1 h1 fun rb τ2 F2 H2 y h2 I2 s2 r2 f2 => ?_
  have rx := (r1.step s2).rd I2.wf
  have ry := r2.rd I2.wf
  obtain ⟨i, ei, h2⟩ := inK_inv h2
  obtain ⟨j, ej, ok, hp⟩ := inK_inv h2
  rw [ei] at rx
  rw [ej] at ry
  exact ⟨i, j, rx.int, ry.int, ok, fun q nq => trg_fin I2 ok nq fun F' H' I3 s3 r3 => hq _ _ _ _ _ hp I3 ((s1.trans s2).trans s3) r3 trivial⟩
end
end TL

namespace TL
open PySem PySem.W PySem.Calls PyProof.Rows PyProof.V PySem.Spec L2
/-! ### t[::-1], t[:k:-1] of a tuple -/
/-- from the last one down to the one behind hi -/
def dnN : Option Int → Nat
  | none => 0
  | some h => (h + 1).toNat
def dnS (hi : Option Int) (n : Int) : Int := match hi with
  | none => -1
  | some v => min v (n - 1)
theorem fm_map {α β : Type} {f : α → Option β} {g : α → β} : ∀ {l : List α}, (∀ x ∈ l, f x = some (g x)) → l.filterMap f = l.map g
  | [], _ => rfl
  | x :: l, h => by rw [List.filterMap_cons, h x (List.mem_cons_self ..), List.map_cons, fm_map fun y hy => h y (List.mem_cons_of_mem _ hy)]
section
variable {prog : Program} {w : World} {A : Around} {E : Value → Shared → Prop} {s : Shared}
theorem dn_pick (xs : Array Value) (d : Nat) (hd : d ≤ xs.size) : ((List.range (xs.size - d)).filterMap fun (m : Nat) => xs[(((xs.size : Int) - 1) + (m : Int) * (-1)).toNat]?).toArray = (xs.toList.drop d).reverse.toArray := by
  congr 1
  refine List.ext_getElem? fun m => ?_
  have e : ((List.range (xs.size - d)).filterMap fun (m : Nat) => xs[(((xs.size : Int) - 1) + (m : Int) * (-1)).toNat]?) = (List.range (xs.size - d)).map fun (m : Nat) => (xs[xs.size - 1 - m]?).getD .none := by
    refine fm_map fun m hm => ?_
    have hm := List.mem_range.mp hm
    have h1 : (((xs.size : Int) - 1) + (m : Int) * (-1)).toNat = xs.size - 1 - m := by omega
    rw [h1, Array.getElem?_eq_getElem (by omega)]
    rfl
  rw [e]
  by_cases hm : m < xs.size - d
  · rw [List.getElem?_map, List.getElem?_range hm, List.getElem?_reverse (by rw [List.length_drop, Array.length_toList]; omega), List.getElem?_drop, List.length_drop, Array.length_toList]
    have h2 : d + (xs.size - d - 1 - m) = xs.size - 1 - m := by omega
    rw [h2]
    simp [Array.getElem?_eq_getElem (show xs.size - 1 - m < xs.size by omega)]
  · rw [List.getElem?_eq_none (by rw [List.length_map, List.length_range]; omega), List.getElem?_eq_none (by rw [List.length_reverse, List.length_drop, Array.length_toList]; omega)]
theorem dn_app {sl : Addr} {vl vu vs : Value} {hi : Option Int} {n : Nat} {Q : Int × Int × Nat → Shared → Prop} (hs : s.heap.IsSliceOf sl vl vu vs) (pl : IsPart vl none) (pu : IsPart vu hi) (ps : IsPart vs (some (-1))) (h0 : ∀ h, hi = some h → 0 ≤ h)
    (h : Q ((n : Int) - 1, -1, n - dnN hi) s) : wpAny (model prog w) A (Builtin.Slice.sliceApplied (.ref sl) (pure (n : Int))) Q E s := by
  obtain ⟨os, hos, hcs, hds⟩ := id hs
  unfold Builtin.Slice.sliceApplied Builtin.Slice.sliceFields
  refine wpAny_bind (wpAny_bind (wpAny_field hos hds (x := vl) rfl (wpAny_bind (wpAny_field hos hds (x := vu) rfl (wpAny_bind (wpAny_field hos hds (x := vs) rfl (wpAny_pure ?_)))))))
  refine wpAny_bind (HT.slicePart_ ps ?_)
  show wpAny _ _ (if ((-1 : Int) == 0) = true then _ else _) _ _ s
  rw [if_neg (by decide)]
  refine wpAny_bind (HT.slicePart_ pl (wpAny_bind (HT.slicePart_ pu (wpAny_bind (wpAny_pure ?_)))))
  have e : Builtin.Slice.sliceAdjust none hi (-1) (n : Int) = ((n : Int) - 1, dnS hi n) := by
    unfold Builtin.Slice.sliceAdjust dnS
    cases hi with
    | none => rfl
    | some v =>
      have := h0 v rfl
      simp only [show ((-1 : Int) < 0) from by omega, if_true]
      rw [if_neg (by omega)]
  show wpAny _ _ (match Builtin.Slice.sliceAdjust none hi (-1) (n : Int) with | (lo, hi) => pure (lo, (-1 : Int), Builtin.Slice.slicePlaces lo hi (-1))) _ _ s
  rw [e]
  refine wpAny_pure ?_
  have e2 : Builtin.Slice.slicePlaces ((n : Int) - 1) (dnS hi n) (-1) = n - dnN hi := by
    unfold Builtin.Slice.slicePlaces dnN dnS
    cases hi with
    | none =>
      simp only [show ¬((-1 : Int) > 0) from by omega, if_false, Int.neg_neg, Int.ediv_one]
      split <;> omega
    | some v =>
      have := h0 v rfl
      simp only [show ¬((-1 : Int) > 0) from by omega, if_false, Int.neg_neg, Int.ediv_one]
      split <;> omega
  rw [e2]
  exact h
theorem getItem_tuple_dn {t sl : Addr} {items : Array Value} {vl vu vs : Value} {hi : Option Int} {Q : Value → Shared → Prop} (ht : IsTup s.heap t items) (hs : s.heap.IsSliceOf sl vl vu vs) (pl : IsPart vl none) (pu : IsPart vu hi) (ps : IsPart vs (some (-1))) (h0 : ∀ h, hi = some h → 0 ≤ h)
    (hd : dnN hi ≤ items.size) (h : Q (.ref s.heap.objs.size) { s with heap := s.heap.push { cls := .type "tuple", data := .seq (items.toList.drop (dnN hi)).reverse.toArray } })
    (hsz : items.size ≤ sizeLine) : wpAny (model prog w) A (getItem (.ref t) (.ref sl)) Q E s := by
  have htake : sizeOk (.seq (items.toList.drop (dnN hi)).reverse.toArray) := by
    show (items.toList.drop (dnN hi)).reverse.toArray.size ≤ sizeLine
    rw [List.size_toArray, List.length_reverse, List.length_drop, Array.length_toList]
    omega
  obtain ⟨os, hos, hcs, hds⟩ := id hs
  have hTs : s.TypeIs (.ref sl) "slice" := ⟨os, hos, hcs⟩
  unfold getItem
  try with_reducible refine wpAny_holding ?_
  first | refine wpAny_bind (wpAny_pure ?_) | skip
  refine wpAny_bind (wpAny_sequenceKey ht.typeIs (by decide) ?_)
  refine wpAny_bind (wpAny_callSpecial?_slot (name := Str.ofString "__getitem__") ht.typeIs PyProof.Rows.slot_tuple_getitem
    (wpAny_call_entry PyProof.Rows.slot_tuple_getitem ht.typeIs entry_tuple_getitem ?_ (args_tuple_getitem _ _)))
  show wpAny _ _ (Builtin.Tuple.tupleItemsOf (.ref t) >>= _) _ _ s
  refine wpAny_bind (tupleItemsOf_ ht ?_)
  refine wpAny_bind (wpAny_typeOf hTs ?_)
  rw [if_pos (by decide)]
  refine wpAny_bind (dn_app hs pl pu ps h0 ?_)
  show wpAny _ _ (if ((items.size : Int) - 1 == 0 && (-1 : Int) == 1 && (items.size - dnN hi) == items.size) = true then _ else _) _ _ s
  rw [if_neg (by simp), dn_pick items _ hd]
  first
    | exact wpAny_bind (m := Builtin.Tuple.tupleExact _) (wpAny_newObj_type (wpAny_pure ⟨_, rfl, wpAny_pure h⟩) htake)
    | exact wpAny_bind (m := Builtin.Tuple.tupleExact _) (wpAny_newObj_type (wpAny_bind (wpAny_pure (wpAny_pure ⟨_, rfl, wpAny_pure h⟩))) htake)
    | exact wpAny_bind (wpAny_bind (m := Builtin.Tuple.tupleExact _) (wpAny_newObj_type (wpAny_pure (wpAny_pure ⟨_, rfl, wpAny_pure h⟩)) htake))
    | exact wpAny_bind (wpAny_bind (m := Builtin.Tuple.tupleExact _) (wpAny_newObj_type (wpAny_pure ⟨_, rfl, wpAny_pure h⟩) htake))
end
section
variable {X : Cx}
def rDn (K : PySem.W.Frag) (hi : Option Int) : List V → Hp → VK → Prop := fun xs H Q => ∃ a, xs = [V.ref a] ∧
  ((∃ vs, SqT K H a vs ∧ dnN hi ≤ vs.length ∧ ∀ p, H p = none → Q (.ref p) (upd H p (.tup (vs.drop (dnN hi)).reverse))) ∨ (hi = none ∧ ∃ vs, SqL K H a vs ∧ ∀ p, H p = none → Q (.ref p) (upd H p (.lst vs.reverse))))
theorem pe_dn {e : Expr} {te : TE} {ue : Option Expr} {hi : Option Int} {k : Nat} {p1 p2 p3 pos : Pos} (he : PE X e te) (hu : PO X ue fun _ H Q => Q hi H) (h0 : ∀ h, hi = some h → 0 ≤ h)
    (hsub : ∀ o i, subscripted (.Slice none ue (some (.UnaryOp .USub (.Constant (.int 1) k p1) p2)) p3) false o i = operate [o, i] (getItem o i) := by intros; with_unfolding_all rfl) :
    PE X (.Subscript e (.Slice none ue (some (.UnaryOp .USub (.Constant (.int 1) k p1) p2)) p3) pos) (fun σ H Q => te σ H fun x H1 => rDn X.K hi [x] H1 Q) := by
  refine ⟨fun pins s σ H Q I h => ?_⟩
  refine Subscript_ (thn (he.run pins s σ H _ I h) fun v s1 ⟨x, H1, I1, r1, q1⟩ => ?_)
  obtain ⟨a, ex, hx⟩ := q1
  cases ex
  cases r1
  have hst : PO X (some (.UnaryOp .USub (.Constant (.int 1) k p1) p2)) (tPart (tUn (rU fun i => .int (-i)) (tC (.int 1)))) := po_some (pe_un un_neg pe_int)
  refine wpAny_Slice (thn (po_none.run pins s1 σ H1 (fun o H2 => o = none ∧ H2 = H1) I1 ⟨rfl, rfl⟩) fun vl s2 ⟨l, H2, I2, pl, el, e2⟩ => ?_)
  subst el e2
  refine thn (hu.run pins s2 σ H2 (fun o H3 => o = hi ∧ H3 = H2) I2 ⟨rfl, rfl⟩) fun vu s3 ⟨u, H3, I3, pu, eu, e3⟩ => ?_
  subst eu e3
  refine thn (hst.run pins s3 σ H3 (fun o H4 => o = some (-1) ∧ H4 = H3) I3 ⟨1, rfl, -1, rfl, rfl, rfl⟩) fun vs s4 ⟨o, H4, I4, ps, eo, e4⟩ => ?_
  subst eo e4
  have I5 : Inv X pins σ H4 { s4 with heap := s4.heap.push { cls := .type "slice", data := .fields #[vl, vu, vs] } } := I4.kept (t' := s4.toks) fun b ob q => Heap.get?_push_of_some _ q
  show wpAny (model X.prog X.w) X.A (subscriptTail e (.Slice none ue (some (.UnaryOp .USub (.Constant (.int 1) k p1) p2)) p3) (.ref a) (.ref s4.heap.objs.size)) (EP X pins σ Q) X.xe { s4 with heap := s4.heap.push { cls := .type "slice", data := .fields #[vl, vu, vs] } }
  rcases hx with ⟨xs, hx, hd, q⟩ | ⟨rfl, xs, hx, q⟩
  · obtain ⟨its, r, ht, hz⟩ := I5.tuple hx
    have hlen := r.length
    refine tail_any (ops := [.ref a, .ref s4.heap.objs.size]) ht.typeIs (PyProof.Rows.slot_tuple_getitem.lookup) ?_ (hsub _ _)
    refine getItem_tuple_dn ht (Heap.IsSliceOf.new _ vl vu vs) pl pu ps h0 (by rw [List.size_toArray]; omega) ?_ (by rw [List.size_toArray]; omega)
    refine ⟨.ref _, _, I5.laid (t' := s4.toks) (o := .tup (xs.drop (dnN u)).reverse) (fun b ob q => Heap.get?_push_of_some _ q) (Nat.le_refl _) ?_, rfl, q _ (I5.hok.fresh (Nat.le_refl _))⟩
    exact ⟨by rw [List.length_reverse, List.length_drop]; omega, _, (r.drop (dnN u)).reverse, IsTup.new _ _⟩
  · obtain ⟨its, r, ht, hz⟩ := I5.list hx
    have hlen := r.length
    refine tail_any (ops := [.ref a, .ref s4.heap.objs.size]) ht.isList.typeIs (PySem.slot_list_getitem.lookup) ?_ (hsub _ _)
    refine wpAny_getItem_list_slice ht.isList (Heap.IsSliceOf.new _ vl vu vs) pl pu ps (by decide) ?_ (by rw [List.size_toArray]; omega)
    rw [PySem.W.krv_pick]
    refine ⟨.ref _, _, I5.laid (t' := s4.toks) (o := .lst xs.reverse) (fun b ob q => Heap.get?_push_of_some _ q) (Nat.le_refl _) ?_, rfl, q _ (I5.hok.fresh (Nat.le_refl _))⟩
    exact ⟨by rw [List.length_reverse]; exact hz, _, 0, r.reverse, Heap.get?_push_size _ rfl⟩
theorem po_no : PO X none fun _ H Q => Q none H := ⟨fun pins s σ H Q I h => po_none.run pins s σ H Q I h⟩
theorem po_int {j : Int} {k : Nat} {p : Pos} : PO X (some (.Constant (.int j) k p)) fun _ H Q => Q (some j) H := ⟨fun pins s σ H Q I h => (po_some pe_int).run pins s σ H Q I ⟨j, rfl, h⟩⟩
end
section
variable {X : Cx} {B : Bs} {e : Expr} {te : TTE}
def dnT (hi : Option Int) : C1 := fun t k => match t with
  | .tup ts => dnN hi ≤ ts.length ∧ k false (.tup (ts.drop (dnN hi)).reverse)
  | .lst ts => hi = none ∧ k true (.lst ts.reverse)
  | _ => False
theorem tpe_dn {ue : Option Expr} {hi : Option Int} {k : Nat} {p1 p2 p3 pos : Pos} (he : TPE X B e te) (hu : PO X ue fun _ H Q => Q hi H) (h0 : ∀ h, hi = some h → 0 ≤ h)
    (hsub : ∀ o i, subscripted (.Slice none ue (some (.UnaryOp .USub (.Constant (.int 1) k p1) p2)) p3) false o i = operate [o, i] (getItem o i) := by intros; with_unfolding_all rfl) :
    TPE X B (.Subscript e (.Slice none ue (some (.UnaryOp .USub (.Constant (.int 1) k p1) p2)) p3) pos) (ttC1 (dnT hi) te) :=
  ⟨PE.imp (pe_dn he.pe hu h0 hsub) fun σ H Q h => by
    refine c1_imp (r := rDn X.K hi) (fun F H x t G Q s r hg k => ?_) σ H Q h
    cases t with
    | tup ts =>
      obtain ⟨hd, hg⟩ := hg
      obtain ⟨a, vs, rfl, hx, z, rp⟩ := r.tup
      refine ⟨a, rfl, .inl ⟨vs, SqT.mono s hx, by rw [← rp.len]; exact hd, fun p np => ?_⟩⟩
      have nF : F p = none := s.free np
      refine k false _ _ _ _ hg (Grow.frz s np) ⟨p, _, rfl, .inl (.inl upd_same), ?_, Reps.mono (same_upd nF) _ _ (Reps.reverse (Reps.drop _ rp))⟩
      rw [List.length_reverse, List.length_drop]
      omega
    | lst ts =>
      obtain ⟨rfl, hg⟩ := hg
      obtain ⟨a, vs, rfl, hx, z, rp⟩ := r.lst s
      refine ⟨a, rfl, .inr ⟨rfl, vs, SqL.of hx, fun p np => ?_⟩⟩
      refine k true _ _ _ _ hg (Grow.own s np) ⟨p, rfl, np, s.free np, _, upd_same, ?_, Reps.reverse rp⟩
      rw [List.length_reverse]
      exact z
    | _ => exact hg.elim⟩
theorem q_dn0 {ts : List T} {k : Bool → T → Prop} : dnT none (.tup ts) k = k false (.tup ts.reverse) := by
  show (0 ≤ ts.length ∧ k false (.tup (ts.drop 0).reverse)) = _
  simp
theorem q_dn1 {ts : List T} {k : Bool → T → Prop} : dnT none (.lst ts) k = k true (.lst ts.reverse) := by
  show (_ ∧ _) = _
  simp
theorem q_dn2 {ts : List T} {k : Bool → T → Prop} : dnT (some 1) (.tup ts) k = (2 ≤ ts.length ∧ k false (.tup (ts.drop 2).reverse)) := rf rfl
end
end TL

namespace TL
open PySem PySem.Spec PyProof.Rows L2
/-! ### {"evens": 2, "sums": 2, "pairs": 3, "gaps": 1}[e] -/
def d4 (x : Str) : Option Int := if x = "evens" then some 2 else if x = "sums" then some 2 else if x = "pairs" then some 3 else if x = "gaps" then some 1 else none
def kv4 : List (Key × V) := [(.inr "evens", .int 2), (.inr "sums", .int 2), (.inr "pairs", .int 3), (.inr "gaps", .int 1)]
theorem kv4_at {x : Str} {v : Int} (h : d4 x = some v) : valV (mergeK [] kv4) (.inr x) = some (.int v) := by
  unfold d4 at h
  split at h
  · rename_i e; subst e; cases h; decide +kernel
  · split at h
    · rename_i e; subst e; cases h; decide +kernel
    · split at h
      · rename_i e; subst e; cases h; decide +kernel
      · split at h
        · rename_i e; subst e; cases h; decide +kernel
        · cases h
section
variable {X : Cx} {B : Bs} {e : Expr} {te : TTE} {p1 p2 p3 p4 q1 q2 q3 q4 dp pos : Pos} {j1 j2 j3 j4 i1 i2 i3 i4 : Nat}
def d4T : C1 := fun t k => match t with
  | .str x => ∃ v, d4 x = some v ∧ k false (.int v)
  | _ => False
theorem tpe_d4 (hu : X.A.units + 64 < cLine) (he : TPE X B e te) (hs : PlainIx e) :
    TPE X B (.Subscript (.Dict [some (.Constant (.str "evens") j1 p1), some (.Constant (.str "sums") j2 p2), some (.Constant (.str "pairs") j3 p3), some (.Constant (.str "gaps") j4 p4)] [.Constant (.int 2) i1 q1, .Constant (.int 2) i2 q2, .Constant (.int 3) i3 q3, .Constant (.int 1) i4 q4] dp) e pos) (ttC1 d4T te) := by
  refine ⟨PE.imp (pe_ix (ix_dict (by omega)) (pe_disp (pps_cons pe_str pe_int (pps_cons pe_str pe_int (pps_cons pe_str pe_int (pps_cons pe_str pe_int pps_nil)))) (by rfl) (by rfl) (fun z => by cases z) (by simp)) he.pe hs) fun σ H Q h => ?_⟩
  obtain ⟨F, τ, P, I, ht, hq⟩ := h
  intro q nq
  refine ⟨upd_same, kv4, rfl, by decide, ?_⟩
  have g : Grow F H F (upd (upd H q (.dK [])) q (.dK (mergeK [] kv4))) := by
    rw [upd_upd]
    exact Grow.own I.wf.sub nq
  have I1 := I.step (g.wf I.wf) (τ1 := τ) g.step
  refine lift.go I1 ht fun r τ1 F1 H1 v h1 I2 s2 r2 f2 => ?_
  have hv := r2.rd I2.wf
  have hq1 : H1 q = some (.dK (mergeK [] kv4)) := s2.fr q _ (by rw [upd_upd]; exact upd_same) fun i k o => by
    obtain ⟨l, t, e1, e2, e3⟩ := o
    obtain ⟨a, e4, _, o4⟩ := I.wf.own i k l t e1 e2
    rw [e3] at e4
    cases e4
    obtain ⟨ob, ho⟩ := o4.ex
    rw [nq] at ho
    cases ho
  cases hr : r.t τ1 with
  | str x =>
    rw [hr] at h1 hv
    obtain ⟨i, hi, hp⟩ := h1
    have hv := hv.str
    subst hv
    exact ⟨q, _, .inr x, .int i, rfl, .inl hq1, rfl, kv4_at hi, hq (.val false (.int i)) τ1 F1 H1 _ hp I2 (Stp.trans g.step s2) rfl trivial⟩
  | _ => rw [hr] at h1; exact h1.elim
theorem q_d4e {k : Bool → T → Prop} : d4T (.str "evens") k = k false (.int 2) := by
  show (∃ v, d4 "evens" = some v ∧ k false (.int v)) = _
  rw [show d4 "evens" = some 2 by decide +kernel]; simp
theorem q_d4s {k : Bool → T → Prop} : d4T (.str "sums") k = k false (.int 2) := by
  show (∃ v, d4 "sums" = some v ∧ k false (.int v)) = _
  rw [show d4 "sums" = some 2 by decide +kernel]; simp
theorem q_d4p {k : Bool → T → Prop} : d4T (.str "pairs") k = k false (.int 3) := by
  show (∃ v, d4 "pairs" = some v ∧ k false (.int v)) = _
  rw [show d4 "pairs" = some 3 by decide +kernel]; simp
theorem q_d4g {k : Bool → T → Prop} : d4T (.str "gaps") k = k false (.int 1) := by
  show (∃ v, d4 "gaps" = some v ∧ k false (.int v)) = _
  rw [show d4 "gaps" = some 1 by decide +kernel]; simp
end
end TL

namespace TL
open PySem PySem.Spec PyProof.Rows L2
/-! ### len(set(tuple)) -/
def LenSetN (ns : List Int) (k : Int → Prop) : Prop := ns.length ≤ 4000 ∧ ∀ ms : List Int, ms.Nodup → (∀ x, x ∈ ms ↔ x ∈ ns) → k ms.length
section
variable {X : Cx} {a : Expr} {ta : TE} {p p2 q pos : Pos}
def rLenSetU (K : PySem.W.Frag) : List V → Hp → VK → Prop := fun xs H Q => ∃ (l : Addr) (ns : List Int), xs = [V.ref l] ∧ SqT K H l (ns.map V.int) ∧ LenSetN ns fun i => Q (.int i) H
theorem pe_lenSetU (hc : X.calm = true) (hg : Gl X "len") (hm : X.mg "len" = none) (hg2 : Gl X "set") (hm2 : X.mg "set" = none) (ha : PE X a ta)
    (na : starEach [a] X.env = (false, eval a X.env) :: starEach [] X.env := by rfl) : PE X (.Call (.Name "len" p) [.Call (.Name "set" p2) [a] [] q] [] pos) (fun σ H Q => ta σ H fun x H1 => rLenSetU X.K [x] H1 Q) := by
  refine ⟨fun pins s σ H Q I h => ?_⟩
  refine Call_ (ld_blt I hg hm PySem.boot_len ?_)
  refine callWith_builtin1 (args_cons ?_ rfl) rfl rfl
  refine Call_ (ld_blt I hg2 hm2 PyProof.Rows.boot_set ?_)
  refine callWith_type1 (args_cons (thn (ha.run pins s σ H _ I h) fun v s1 ⟨x, H1, I1, r1, q1⟩ => args_nil ?_) na) na rfl
  obtain ⟨l, ns, ex, hq, h1, q1⟩ := q1
  cases ex
  cases r1
  obtain ⟨its, r, pl, hz⟩ := I1.tuple hq
  refine call_set_tupI ns (I1.ok.hd hc) pl (by simpa using r.ints) (by unfold scanBound; omega) fun h' tk c R hcn hk => ?_
  refine args_nil ?_
  have I2 : Inv X pins σ H1 { s1 with heap := h', toks := tk } := I1.kept hk
  obtain ⟨o, es, ep, t, ho, hex, hd, _, hnd, hmem, _, hf, hn, _⟩ := R
  have q2 := q1 (es.toList.map keyOf) hnd fun x => (hmem x).symm.trans (decide_eq_true_iff ..)
  rw [List.length_map, Array.length_toList] at q2
  exact call_len_set ho hex hd hf (by rw [hn] <;> omega) ⟨.int es.size, H1, I2.tok _, ⟨_, rfl⟩, q2⟩
end
section
variable {X : Cx} {B : Bs} {e : Expr} {te : TTE} {p p2 q pos : Pos}
def lenSetU : C1 := fun t k => match t with
  | .tup ts => intsT ts fun ns => LenSetN ns fun i => k false (.int i)
  | _ => False
theorem tpe_lenSetU (hc : X.calm = true) (hg : Gl X "len") (hm : X.mg "len" = none) (hg2 : Gl X "set") (hm2 : X.mg "set" = none) (he : TPE X B e te)
    (na : starEach [e] X.env = (false, eval e X.env) :: starEach [] X.env := by rfl) : TPE X B (.Call (.Name "len" p) [.Call (.Name "set" p2) [e] [] q] [] pos) (ttC1 lenSetU te) :=
  ⟨PE.imp (pe_lenSetU hc hg hm hg2 hm2 he.pe na) fun σ H Q h => by
    refine c1_imp (r := rLenSetU X.K) (fun F H x t G Q s r hg k => ?_) σ H Q h
    cases t with
    | tup ts =>
      obtain ⟨ns, rfl, hl, hg⟩ := hg
      obtain ⟨a, vs, rfl, hd, z, rp⟩ := r.tup
      rw [Reps.ints.mp rp] at hd
      exact ⟨a, ns, rfl, SqT.mono s hd, hl, fun ms h1 h2 => k false _ _ F H (hg ms h1 h2) (Grow.refl s) rfl⟩
    | _ => exact hg.elim⟩
theorem q_lenSetU {ns : List Int} {k : Bool → T → Prop} : lenSetU (.tup (ns.map T.int)) k = LenSetN ns fun i => k false (.int i) := by
  show intsT _ _ = _
  rw [intsT_map]
end
end TL

/-! ### sorted(tuple of ints) -/
namespace SrtO
open PySem PyProof.Rows Srt
section
variable {prog : Program} {w : World} {A : Around} {E : Value → Shared → Prop} {s : Shared}
theorem collect_tupl {l : Addr} {vs : List Value} {Q : List Value → Shared → Prop} (hl : IsTup s.heap l vs.toArray)
    (h : Q vs { s with heap := (s.heap.push (seqObj "list" #[] 0)).update s.heap.objs.size (Obj.mapSeq (· ++ vs.toArray)) }) (hsz : vs.length ≤ sizeLine) :
    wpAny (model prog w) A (collect (.ref l)) Q E s := by
  obtain ⟨o, ho, hc, n, hd⟩ := id hl
  unfold collect
  refine wpAny_bind (wpAny_runValue (codeAny_builtin entry_proto_collect' ?_))
  show wpAny _ _ (do again (.builtin "list.__iadd__" ⟨[← newList [], .ref l], []⟩)) _ _ s
  refine wpAny_bind (wpAny_newList (wpAny_pure ⟨Code.quiet_builtin _ (by decide +kernel), codeAny_builtin entry_list_iadd' ?_⟩) (Nat.zero_le _))
  show wpAny _ _ (Builtin.List.listExtendWith (.ref s.heap.objs.size) (.ref l) (.ref s.heap.objs.size)) _ _ { s with heap := s.heap.push (seqObj "list" #[] 0) }
  unfold Builtin.List.listExtendWith
  have ho' : (s.heap.push (seqObj "list" #[] 0)).get? l = some o := Heap.get?_push_of_some _ ho
  refine wpAny_bind (wpAny_typeOf (T := "tuple") ⟨o, ho', hc⟩ ?_)
  have ht : (Value.type "tuple" == Value.type "tuple") = true := by rfl
  rw [if_pos (by rw [ht]; simp)]
  refine wpAny_bind (listItems_at ho' hd ?_)
  refine wpAny_bind (listItems_at (xs := #[]) (n := 0) (Heap.get?_push_size _ rfl) rfl ?_)
  rw [if_neg (by simp)]
  refine wpAny_bind (listUpdate_at (xs := #[]) (n := 0) (Heap.get?_push_size _ rfl) rfl ?_ (Nat.zero_le _) (by show (#[] ++ vs.toArray).size ≤ sizeLine + 1; simp only [Array.size_append, List.size_toArray, List.length_nil]; omega))
  refine wpAny_pure ?_
  show wpAny (model prog w) A (do
      let o ← load s.heap.objs.size
      match o.data with
      | .seq xs _ => pure xs.toList
      | _ => unsupported "internal:collect") Q E { s with heap := (s.heap.push (seqObj "list" #[] 0)).update s.heap.objs.size (Obj.mapSeq (· ++ vs.toArray)) }
  refine wpAny_bind (wpAny_load (get?_update_seq (Heap.get?_push_size _ rfl) _) ?_)
  show wpAny _ _ (pure ((#[] : Array Value) ++ vs.toArray).toList) Q E _
  rw [show ((#[] : Array Value) ++ vs.toArray).toList = vs by simp]
  exact wpAny_pure h
theorem sorted_tupl {l : Addr} {vs : List Value} {ltv : Value → Value → Bool} {Q : Value → Shared → Prop} (O : Swo ltv) (hl : IsTup s.heap l vs.toArray) (hz : vs.length ≤ sizeLine)
    (hS : 2 ≤ vs.length → ∀ (h₁ : Heap) (a : Addr), h₁.get? a = some (seqObj "list" vs.toArray 0) → (∀ b o, s.heap.get? b = some o → b ≠ a ∧ h₁.get? b = some o) → SortableO prog w A.in1.in1 { s with heap := h₁ } a vs ltv)
    (h : ∀ out : List Value, Srtd ltv out → Stb ltv out vs → Q (.ref (s.heap.objs.size + 1)) { s with heap := sortedAll s.heap vs out.toArray }) :
    wpAny (model prog w) A (call (.builtin "sorted") [.ref l]) Q E s := by
  refine Calls.call_function_entry kind_sorted plain_sorted entry_sorted (args_sorted1 _) ?_
  unfold Builtin.«sorted»
  refine wpAny_bind (m := checkCount "sorted" 1 1 _) (wpAny_pure ?_)
  refine wpAny_bind (collect_tupl hl ?_ hz)
  refine wpAny_bind (wpAny_newList ?_ hz)
  have hsz : ((s.heap.push (seqObj "list" #[] 0)).update s.heap.objs.size (Obj.mapSeq (· ++ vs.toArray))).objs.size = s.heap.objs.size + 1 := by
    rw [Heap.size_update, size_push']
  have hoL : (((s.heap.push (seqObj "list" #[] 0)).update s.heap.objs.size (Obj.mapSeq (· ++ vs.toArray))).push (seqObj "list" vs.toArray 0)).get? (s.heap.objs.size + 1) = some (seqObj "list" vs.toArray 0) := by
    rw [← hsz]; exact Heap.get?_push_size _ rfl
  have keep : ∀ b o, s.heap.get? b = some o → b ≠ s.heap.objs.size + 1 ∧ (((s.heap.push (seqObj "list" #[] 0)).update s.heap.objs.size (Obj.mapSeq (· ++ vs.toArray))).push (seqObj "list" vs.toArray 0)).get? b = some o := fun b o q => by
    have hlt : b < s.heap.objs.size := Heap.lt_size q
    refine ⟨Nat.ne_of_lt (Nat.lt_succ_of_lt hlt), Heap.get?_push_of_some _ ?_⟩
    rw [Heap.get?_update_ne _ _ _ _ (Nat.ne_of_lt hlt)]
    exact Heap.get?_push_of_some _ q
  show wpAny _ _ _ _ _ { s with heap := ((s.heap.push (seqObj "list" #[] 0)).update s.heap.objs.size (Obj.mapSeq (· ++ vs.toArray))).push (seqObj "list" vs.toArray 0) }
  rw [hsz]
  refine wpAny_bind (wpAny_holding (wpAny_call_entry slot_list_sort ⟨_, hoL, rfl⟩ entry_list_sort (list_sort_ord O hoL hz (fun h2 => hS h2 _ _ hoL keep) fun out hs hb => ⟨_, rfl, ?_⟩) (args_list_sort _)))
  exact wpAny_pure ⟨_, rfl, h out hs hb⟩
end
end SrtO
namespace TL
open PySem PySem.Spec PyProof.Rows L2
section
variable {X : Cx}
def rSortTup (K : PySem.W.Frag) : List V → Hp → VK → Prop := fun vs H Q => ∃ (a : Addr) (ns : List Int), vs = [V.ref a] ∧ SqT K H a (ns.map V.int) ∧
  ∀ (ns' : List Int) (p : Addr), ns'.Perm ns → ns'.Pairwise (· ≤ ·) → H p = none → Q (.ref p) (upd H p (.lst (ns'.map V.int)))
theorem cr_sortTup : CallR X (.builtin "sorted") (rSortTup X.K) := by
  intro pins s σ H vs us Q I r h
  obtain ⟨a, ns, rfl, hs, q⟩ := h
  obtain ⟨its, rv, hl, hz⟩ := I.tuple hs
  rw [Vals.ref1 r]
  have hi := rv.ints
  refine SrtO.sorted_tupl SrtO.swo_int hl (by rw [← rv.length]; exact hz) (fun h2 h₁ a' _ _ => SrtO.ints_sortable hi h2) fun out h1 h2 => ?_
  obtain ⟨k1, k2, k3⟩ := SrtO.ints_out hi h1 h2
  obtain ⟨ep, he'⟩ := PyProof.Rows.sortedAll_at s.heap its out.toArray
  have hlen : ((out.map SrtO.iv).map V.int).length ≤ sizeLine := by
    rw [List.length_map, k2.length_eq]
    rw [List.length_map] at hz
    exact hz
  exact ⟨.ref _, upd H (s.heap.objs.size + 1) (.lst ((out.map SrtO.iv).map V.int)), I.laid (t' := s.toks) (fun _ _ => PyProof.Rows.sortedAll_old) (Nat.le_succ _) ⟨hlen, out, ep, vals_of_ints k1, he'⟩, rfl, q _ _ k2 k3 (I.hok.fresh (Nat.le_succ _))⟩
def sortTupT : C1 := fun t k => match t with
  | .tup ts => intsT ts fun ns => k true (.lst ((srt ns).map T.int))
  | _ => False
theorem c_sortTup : CalT1 X (.builtin "sorted") sortTupT := by
  refine ⟨_, cr_sortTup, fun F H x t G Q s r hg k => ?_⟩
  cases t with
  | tup ts =>
    obtain ⟨ns, rfl, hg⟩ := hg
    obtain ⟨a, vs, rfl, hl, z, rp⟩ := r.tup
    have ev := Reps.ints.mp rp
    subst ev
    refine ⟨a, ns, rfl, SqT.mono s hl, fun ns' p pm le np => ?_⟩
    rw [srt_uniq pm le]
    refine k true _ _ _ _ hg (Grow.own s np) ⟨p, rfl, np, s.free np, _, upd_same, ?_, Reps.ints.mpr rfl⟩
    rw [List.length_map, (srt_perm ns).length_eq]
    simpa using z
  | _ => exact hg.elim
theorem q_sortTup {ts : List T} {k : Bool → T → Prop} : sortTupT (.tup ts) k = intsT ts fun ns => k true (.lst ((srt ns).map T.int)) := rf rfl
end
end TL

namespace TL
open PySem PySem.Spec PyProof.Rows L2
/-! ### sum(range(n)) -/
def sumUp (a : Int) (n : Nat) : Int := preSum (fun i => a + (i : Nat) * 1) n
section
variable {X : Cx} {B : Bs} {e : Expr} {te : TTE} {p p2 q pos : Pos}
def tSumRg (te : L2.St → Hp → (Int → Int → Hp → Prop) → Prop) : TE := fun σ H Q => te σ H fun a b H1 => RgOk a b ∧ Q (.int (sumUp a (b - a).toNat)) H1
theorem pe_sumRg {te : L2.St → Hp → (Int → Int → Hp → Prop) → Prop} (hc : X.calm = true) (hg : Gl X "sum") (hm : X.mg "sum" = none) (he : PRg X e te) (na : starEach [e] X.env = (false, eval e X.env) :: starEach [] X.env := by rfl) : PE X (.Call (.Name "sum" p) [e] [] pos) (tSumRg te) := by
  refine ⟨fun pins s σ H Q I h => ?_⟩
  refine Call_ (ld_blt I hg hm boot_sum (PyProof.Rows.callWith_builtin1 (args_cons (thn (he pins s σ H _ I h) fun x s1 ⟨r, a, b, t, u, v, H1, ex, hr, I1, ok, q⟩ => args_nil ?_) na) na rfl))
  subst ex
  obtain ⟨b1, b2, b3, b4, b5⟩ := ok
  have hh : X.A.handled = none := I1.ok.hd hc
  refine call_sum_walkG (wpAny_pyIter_range hr (small_one b1 b2 b3 b4) ?_)
  rw [rangeSize_nat]
  refine ⟨_, [s1.heap.objs.size], [s1.heap.objs.size], (b - a).toNat, _, _, fun i => a + (i : Nat) * 1, rfl, Walks.range (A := X.A.in1) hh _ a 1 (b - a).toNat, ?_, fun c hc' => ?_, fun i v hv => hv, fun h' tk t' hk => ?_⟩
  · show IsRangeIter _ _ _ _ _
    simpa using Heap.get?_push_size _ rfl
  · rw [List.mem_singleton.mp hc']
    show _ < (s1.heap.push _).objs.size
    rw [Heap.size_push]
    exact Nat.lt_succ_self _
  · have I2 : Inv X pins σ H1 { s1 with heap := h', toks := tk } := I1.kept fun c o e => hk c o (by
      rw [List.mem_singleton]
      exact Nat.ne_of_lt (Heap.lt_size e)) (Heap.get?_push_of_some _ e)
    exact ⟨.int _, H1, I2, ⟨t', rfl⟩, q⟩
def ttSumRg1 (te : TTE) : TTE := fun τ P => te τ fun r τ1 => inK (r.t τ1) fun n => RgOk 0 n ∧ P (.val false (.int (sumUp 0 n.toNat))) τ1
theorem tpe_sumRg1 (hc : X.calm = true) (hg : Gl X "sum") (hm : X.mg "sum" = none) (hg2 : Gl X "range") (hm2 : X.mg "range" = none) (he : TPE X B e te)
    (na : starEach [e] X.env = (false, eval e X.env) :: starEach [] X.env := by rfl) (na2 : starEach [.Call (.Name "range" p2) [e] [] q] X.env = (false, eval (.Call (.Name "range" p2) [e] [] q) X.env) :: starEach [] X.env := by rfl) :
    TPE X B (.Call (.Name "sum" p) [.Call (.Name "range" p2) [e] [] q] [] pos) (ttSumRg1 te) := by
  refine ⟨PE.imp (pe_sumRg hc hg hm (prg_1 hg2 hm2 he.pe na) na2) fun σ H Q h => ?_⟩
  obtain ⟨F, τ, P, I, ht, hq⟩ := h
  refine lift.go I ht fun r τ1 F1 H1 v h1 I1 s1 r1 f1 => ?_
  obtain ⟨n, en, ok, hp⟩ := inK_inv h1
  have rd := r1.rd I1.wf
  rw [en] at rd
  refine ⟨n, rd.int, ok, ?_⟩
  rw [show n - 0 = n by omega]
  exact hq _ _ _ _ _ hp I1 s1 rfl trivial
theorem z_sumRg1 {τ : TSt} {P : R → TSt → Prop} : ttSumRg1 te τ P = te τ (@box _ ⟨fun r τ1 => inK (r.t τ1) (@box _ ⟨fun n => RgOk 0 n ∧ P (.val false (.int (sumUp 0 n.toNat))) τ1⟩)⟩) := rf rfl
theorem sumUp_two : ∀ n : Nat, 2 * sumUp 0 n = n * (n - 1 : Int)
  | 0 => by simp [sumUp, preSum]
  | n + 1 => by
    have ih := sumUp_two n
    unfold sumUp at ih ⊢
    show 2 * (preSum (fun i => (0 : Int) + (i : Nat) * 1) n + (0 + (n : Int) * 1)) = _
    rw [Int.mul_add, ih]
    push_cast
    rw [show (n : Int) + 1 - 1 = n by omega, Int.add_mul, Int.mul_sub]
    omega
end
end TL

/-! ### a dict whose keys are tuples of truth values -/
namespace TL
open PySem PySem.Spec PyProof.Rows L2
abbrev BRel : (List Bool × Addr × V) → (List Bool × Addr × Value) → Prop := fun p q => p.1 = q.1 ∧ p.2.1 = q.2.1 ∧ RelV p.2.2 q.2.2
theorem bd_stable {P : Program} {w : World} {H : Hp} {h : Heap} {a : Addr} {xs : List (List Bool × Addr × V)} {zs : List (List Bool × Addr × Value)} (hd : (a == sysModules) = false) (pr : Paired BRel xs zs)
    (x : ∃ o es ep, h.get? a = some o ∧ o.ExactDict ∧ o.data = .dict es ep ∧ es.toList = zs.map bEnt ∧ (zs.map (·.1)).Nodup) : ObjOk P w H h a (BD a xs) := by
  obtain ⟨o, es, ep, h1, h2, h3, h4, h5⟩ := x
  refine ⟨⟨hd, zs, pr, o, es, ep, h1, h2, h3, h4, h5⟩, ⟨o, h1⟩, ?_⟩
  rintro g1 g2 ⟨hd, zs, pr, o, es, ep, h1, h2⟩ k
  exact ⟨hd, zs, pr, o, es, ep, k _ h1, h2⟩
theorem bEnt_eq {P : Program} {w : World} : bEnt = entryOfKey (tupleKind (PpSet.boolK P w)) := rfl
theorem items_bl {P : Program} {w : World} : ∀ {ks : List Bool} {its : List Value}, Vals (ks.map V.bl) its → ItemsAre (PpSet.boolK P w) ks its
  | [], _, h => by cases h; exact .nil
  | k :: ks, _, h => by
    cases h with
    | cons r rr =>
      rw [show _ = Value.bool k from r]
      exact .cons (PpSet.boolK_is P w k) (items_bl rr)
theorem paired_mem {α β : Type} {F : α → β → Prop} : ∀ {l : List α} {m : List β}, Paired F l m → ∀ y ∈ m, ∃ x ∈ l, F x y
  | _, _, .nil, y, h => by cases h
  | _, _, .cons r t, y, h => by
    rcases List.mem_cons.mp h with e | h
    · subst e; exact ⟨_, List.mem_cons_self, r⟩
    · obtain ⟨x, hx, f⟩ := paired_mem t y h
      exact ⟨x, List.mem_cons_of_mem _ hx, f⟩
section
variable {X : Cx} {pins : List (Addr × Obj)} {σ : L2.St} {H : Hp} {s : Shared}
theorem bkey_of {a : Addr} {ks : List Bool} (I : Inv X pins σ H s) (e : SqT X.K H a (ks.map V.bl)) : (tupleKind (PpSet.boolK X.prog X.w)).is s.heap ks a := by
  obtain ⟨its, r, ⟨o, h1, h2, n, h3⟩, _⟩ := I.tuple e
  exact ⟨o, its.toArray, n, h1, h2, h3, by simpa using items_bl r⟩
theorem bd_rd {a : Addr} {xs : List (List Bool × Addr × V)} (I : Inv X pins σ H s) (e : H a = some (BD a xs)) (hk : ∀ p ∈ xs, SqT X.K H p.2.1 (p.1.map V.bl)) :
    (a == sysModules) = false ∧ ∃ zs, Paired BRel xs zs ∧ s.heap.DictOfH (tupleKind (PpSet.boolK X.prog X.w)) a zs := by
  obtain ⟨⟨hd, zs, pr, o, es, ep, h1, h2, h3, h4, h5⟩, _, _⟩ := (show ObjOk X.prog X.w H s.heap a (BD a xs) from I.hok a _ e)
  refine ⟨hd, zs, pr, o, es, ep, h1, h2, h3, h4, fun z hz => ?_, h5⟩
  obtain ⟨x, hx, e1, e2, _⟩ := paired_mem pr z hz
  rw [← e1, ← e2]
  exact bkey_of I (hk x hx)
end
theorem at_rel : ∀ {xs : List (List Bool × Addr × V)} {zs : List (List Bool × Addr × Value)} (k : List Bool), Paired BRel xs zs → (atKey zs k).isSome = decide (k ∈ xs.map (·.1))
  | _, _, k, .nil => rfl
  | _, _, k, .cons (a := x) (b := z) ⟨e1, e2, e3⟩ t => by
    have ih := at_rel k t
    unfold atKey at ih ⊢
    rw [List.find?_cons]
    by_cases h : z.1 = k
    · rw [decide_eq_true h]
      simp [e1, h]
    · rw [decide_eq_false h]
      simp only [List.map_cons, List.mem_cons, e1]
      rw [ih]
      have h2 : ¬ k = z.1 := fun q => h q.symm
      simp [h2]
/-! ### k in d, k not in d -/
def inB (neg : Bool) : G2 := fun a b k => match b with
  | .bdt ks _ => ∃ bs : List Bool, a = .tup (bs.map T.bl) ∧ k false (.bl (neg != decide (bs ∈ ks)))
  | _ => False
def rInB (K : PySem.W.Frag) (neg : Bool) : R2 := fun x y H Q => ∃ a b xs ks, y = .ref a ∧ H a = some (BD a xs) ∧ x = .ref b ∧ SqT K H b (ks.map V.bl) ∧ (∀ p ∈ xs, SqT K H p.2.1 (p.1.map V.bl)) ∧ Q (.bl (neg != decide (ks ∈ xs.map (·.1)))) H
theorem reps_bls {K : PySem.W.Frag} {F : Hp} : ∀ {bs : List Bool} {vs : List V}, Reps K F (bs.map T.bl) vs → vs = bs.map V.bl
  | [], _, h => h
  | b :: bs, _, ⟨v, r, e, h1, h2⟩ => by
    rw [e, show v = V.bl b from h1, reps_bls h2]
    rfl
section
variable {X : Cx}
theorem op_inB (hu : X.A.units + 1 < cLine) : OpR X (compareOp .In) (rInB X.K false) := by
  intro pins s σ H x y v u Q I rx ry h
  obtain ⟨a, b, xs, ks, rfl, hd, rfl, hb, hk, q⟩ := h
  obtain rfl : u = Value.ref a := ry
  obtain rfl : v = Value.ref b := rx
  obtain ⟨h0, zs, pr, dd⟩ := bd_rd I hd hk
  refine wpAny_in_heap (tupleKind_room_in1 hu) (bkey_of I hb) h0 dd ?_
  rw [at_rel ks pr]
  rw [Bool.false_bne] at q
  exact ⟨.bl _, H, I.tok _, rfl, q⟩
theorem op_notInB (hu : X.A.units + 1 < cLine) : OpR X (compareOp .NotIn) (rInB X.K true) := by
  intro pins s σ H x y v u Q I rx ry h
  obtain ⟨a, b, xs, ks, rfl, hd, rfl, hb, hk, q⟩ := h
  obtain rfl : u = Value.ref a := ry
  obtain rfl : v = Value.ref b := rx
  obtain ⟨h0, zs, pr, dd⟩ := bd_rd I hd hk
  refine wpAny_notIn_heap (tupleKind_room_in1 hu) (bkey_of I hb) h0 dd ?_
  rw [at_rel ks pr]
  rw [Bool.true_bne] at q
  exact ⟨.bl _, H, I.tok _, rfl, q⟩
theorem inB_gen {f : Value → Value → Sem Value} (neg : Bool) (hR : OpR X f (rInB X.K neg)) : OpT X f (inB neg) := by
  refine ⟨_, hR, fun F H x y tx ty G Q s rx ry hg k => ?_⟩
  cases ty with
  | bdt ks ts =>
    obtain ⟨bs, rfl, hg⟩ := hg
    obtain ⟨a, xs, rfl, hd, z, hk, ht, rp⟩ := ry.bdt s
    obtain ⟨b, vs, rfl, hb, z2, rp2⟩ := rx.tup
    rw [reps_bls rp2] at hb
    refine ⟨a, b, xs, bs, rfl, hd, rfl, SqT.mono s hb, fun p hp => SqT.mono s (ht p hp), ?_⟩
    rw [hk]
    exact k false _ _ F H hg (Grow.refl s) rfl
  | _ => exact hg.elim
theorem o_inB (hu : X.A.units + 1 < cLine) : OpT X (compareOp .In) (inB false) := inB_gen false (op_inB hu)
theorem o_notinB (hu : X.A.units + 1 < cLine) : OpT X (compareOp .NotIn) (inB true) := inB_gen true (op_notInB hu)
end
/-! ### d[k] -/
def bGet (ks : List (List Bool)) (ts : List T) (k : List Bool) : Option T := ((ks.zip ts).find? fun kv => decide (kv.1 = k)).map (·.2)
theorem bGet_rep {K : PySem.W.Frag} {F : Hp} : ∀ {xs : List (List Bool × Addr × V)} {zs : List (List Bool × Addr × Value)} {ks : List (List Bool)} {ts : List T} {k : List Bool} {t : T}, Paired BRel xs zs → xs.map (·.1) = ks → Reps K F ts (xs.map (·.2.2)) → bGet ks ts k = some t → ∃ p v, atKey zs k = some p ∧ RelV v p.2 ∧ Rep K F t v
  | _, _, _, _, k, t, .nil, rfl, h, e => by cases e
  | _, _, _, [], k, t, .cons _ _, rfl, h, e => by cases h
  | x :: xs, z :: zs, _, t' :: ts, k, t, .cons ⟨e1, e2, e3⟩ pr, rfl, ⟨v', r', ev, h1, h2⟩, e => by
    cases ev
    unfold bGet at e
    rw [List.map_cons, List.zip_cons_cons, List.find?_cons] at e
    unfold atKey
    rw [List.find?_cons, ← e1]
    by_cases hk : x.1 = k
    · simp only [hk, decide_true] at e ⊢
      cases e
      exact ⟨z.2, x.2.2, rfl, e3, h1⟩
    · simp only [hk, decide_false] at e ⊢
      obtain ⟨p, v, a1, a2, a3⟩ := bGet_rep (k := k) (t := t) pr rfl h2 e
      exact ⟨p, v, a1, a2, a3⟩
section
variable {X : Cx} {B : Bs} {a b : Expr} {ta tb : TTE} {pos : Pos}
def rIxB (K : PySem.W.Frag) : R2 := fun x y H Q => ∃ p b xs ks, x = .ref p ∧ H p = some (BD p xs) ∧ y = .ref b ∧ SqT K H b (ks.map V.bl) ∧ (∀ p ∈ xs, SqT K H p.2.1 (p.1.map V.bl)) ∧
  ∀ zs, Paired BRel xs zs → ∃ q v, atKey zs ks = some q ∧ RelV v q.2 ∧ Q v H
theorem ix_bdt (hu : X.A.units + 1 < cLine) : IxR X (rIxB X.K) := by
  intro value slice pins s σ H x y v u Q I rx ry h hs
  obtain ⟨p, b, xs, ks, rfl, hd, rfl, hb, hk, q⟩ := h
  cases rx
  cases ry
  obtain ⟨h0, zs, pr, dd⟩ := bd_rd I hd hk
  obtain ⟨z, v, a1, a2, q⟩ := q zs pr
  exact PyProof.Rows.tail_any dd.typeIs PySem.F.slot_dict_getitem.lookup (wpAny_getItem_heap (tupleKind_room_in1 hu) (bkey_of I hb) dd a1 ⟨v, H, I.tok _, a2, q⟩) hs
def ttIxB (ta tb : TTE) : TTE := fun τ P => ta τ fun ra τ1 => tb τ1 fun rb τ2 => ixB (ra.t τ2) (rb.t τ2) fun t => P (.val false t) τ2
where ixB : T → T → (T → Prop) → Prop := fun a b k => match a with
  | .bdt ks ts => ∃ (bs : List Bool) (t : T), b = .tup (bs.map T.bl) ∧ bGet ks ts bs = some t ∧ k t
  | _ => False
theorem tpe_ixB (hu : X.A.units + 64 < cLine) (ha : TPE X B a ta) (hb : TPE X B b tb) (hs : PlainIx b) : TPE X B (.Subscript a b pos) (ttIxB ta tb) := by
  refine ⟨PE.imp (pe_ix (ix_bdt (by omega)) ha.pe hb.pe hs) fun σ H Q h => ?_⟩
  obtain ⟨F, τ, P, I, ht, hq⟩ := h
  refine lift.go I ht fun ra τ1 F1 H1 x h1 I1 s1 r1 f1 => ?_
  refine lift.go I1 h1 fun rb τ2 F2 H2 y h2 I2 s2 r2 f2 => ?_
  have rx := (r1.step s2).rd I2.wf
  have ry := r2.rd I2.wf
  generalize ra.t τ2 = tx at h2 rx
  generalize rb.t τ2 = ty at h2 ry
  cases tx with
  | bdt ks ts =>
    obtain ⟨bs, t, rfl, eg, p⟩ := h2
    obtain ⟨a, xs, rfl, hd, z, hk, ht, rp⟩ := rx.bdt I2.wf.sub
    obtain ⟨b, vs, rfl, hb, z2, rp2⟩ := ry.tup
    rw [reps_bls rp2] at hb
    refine ⟨a, b, xs, bs, rfl, hd, rfl, SqT.mono I2.wf.sub hb, fun p hp => SqT.mono I2.wf.sub (ht p hp), fun zs pr => ?_⟩
    obtain ⟨q, v, a1, a2, a3⟩ := bGet_rep pr hk rp eg
    exact ⟨q, v, a1, a2, hq _ _ _ _ _ p I2 (s1.trans s2) a3 trivial⟩
  | _ => exact h2.elim
/-! ### {} -/
def ttDictB : TTE := fun τ P => P (.val true (.bdt [] [])) τ
theorem pe_dnewB : PE X (.Dict [] [] pos) (fun _ H Q => ∀ p, H p = none → Q (.ref p) (upd H p (BD p []))) := ⟨fun pins s σ H Q I h =>
  wpAny_Dict_empty ⟨.ref s.heap.objs.size, _, I.laid (a := s.heap.objs.size) (o := BD s.heap.objs.size []) (t' := s.toks) (fun _ _ q => Heap.get?_push_of_some _ q) (Nat.le_refl _)
    (bd_stable (beq_eq_false_iff_ne.mpr (Ne.symm (Nat.ne_of_lt I.big))) .nil ⟨_, #[], 0, Heap.get?_push_size _ rfl, ⟨rfl, rfl, rfl⟩, rfl, rfl, List.nodup_nil⟩), rfl, h _ (I.hok.fresh (Nat.le_refl _))⟩⟩
theorem tpe_dictB {pos : Pos} : TPE X B (.Dict [] [] pos) ttDictB := by
  refine ⟨PE.imp pe_dnewB fun σ H Q h => ?_⟩
  obtain ⟨F, τ, P, I, h, q⟩ := h
  intro d hd
  have g : Grow F H F (upd H d (BD d [])) := Grow.own I.wf.sub hd
  obtain ⟨rr, fr⟩ := RG.rr (v := .ref d) (k := true) (t := .bdt [] []) I.wf g ⟨d, rfl, hd, I.wf.sub.free hd, [], upd_same, Nat.zero_le _, rfl, (fun _ h => by cases h), rfl⟩
  exact q _ _ _ _ _ h (I.step (g.wf I.wf) g.step) g.step rr fr
end
/-! ### d[k] = e, k new -/
section
variable {X : Cx} {B : Bs}
def rSetB (K : PySem.W.Frag) : TSet := fun o i v H Q => ∃ a b xs ks, o = .ref a ∧ H a = some (BD a xs) ∧ i = .ref b ∧ SqT K H b (ks.map V.bl) ∧ (∀ p ∈ xs, SqT K H p.2.1 (p.1.map V.bl)) ∧ ks ∉ xs.map (·.1) ∧ xs.length < sizeLine ∧
  Q (upd H a (BD a (xs ++ [(ks, b, v)])))
theorem set_bdt (hu : X.A.units + 1 < cLine) : PSet X (rSetB X.K) := by
  intro pins s σ H o i v ov iv u Q I ro ri rv h
  obtain ⟨a, b, xs, ks, rfl, hd, rfl, hb, hk, hn, hl, q⟩ := h
  cases (show ov = Value.ref a from ro)
  cases (show iv = Value.ref b from ri)
  obtain ⟨h0, zs, pr, dd⟩ := bd_rd I hd hk
  have hz : zs.length ≤ sizeLine := by rw [← Paired.length pr]; exact Nat.le_of_lt hl
  have hat : atKey zs ks = none := by
    have := at_rel ks pr
    rw [decide_eq_false hn] at this
    cases e : atKey zs ks with
    | none => rfl
    | some p => rw [e] at this; cases this
  refine wpAny_setItem_heap (hsz := hz) (tupleKind_room_in1 hu) (bkey_of I hb) dd fun h' dd' hs => ⟨_, ?_, q⟩
  rw [storedH_new hat] at dd'
  obtain ⟨ob, es, ep, e1, e2, e3, e4, _, e5⟩ := dd'
  exact d_write I (by rw [hd]; exact True.intro) hs ⟨ob, e1⟩ (bd_stable h0 (Paired.snoc pr ⟨rfl, rfl, rv⟩) ⟨ob, es, ep, e1, e2, e3, e4, e5⟩)
def stIxB (τ : TSt) (i : Nat) (k v : T) (P : TSt → Prop) : Prop := match τ[i]? with
  | some (some ⟨.own, false, .bdt ks ts⟩) => ∃ bs : List Bool, k = .tup (bs.map T.bl) ∧ bs ∉ ks ∧ ks.length < sizeLine ∧ P (τ.set i (some ⟨.own, false, .bdt (ks ++ [bs]) (ts ++ [v])⟩))
  | _ => False
def ttSetIxB (i : Nat) (te ti : TTE) : TTS := fun D τ => te τ fun r τ1 => frzR r τ1 fun t τ2 => (∃ s, τ2[i]? = some (some s)) ∧ ti τ2 fun ri τ3 => stIxB τ3 i (ri.t τ3) t D.nx
theorem tps_setIxB {i : Nat} {x : Str} {e k : Expr} {te ti : TTE} {p0 p1 pos : Pos} (hu : X.A.units + 64 < cLine) (hN : X.N[i]? = some x) (hv : Vis X.env.scope x) (he : TPE X B e te) (hi : TPE X B k ti)
    (hd : (x == ("__debug__" : Str)) = false := by decide) (hcd : (x == ("__classdict__" : Str)) = false := by decide)
    (ha : ∀ v, assign (.Subscript (.Name x p0) k p1) X.env v = (do
      let ov ← holding [v] (eval (.Name x p0) X.env)
      let iv ← holding [v, ov] (eval k X.env)
      standAt p1
      holding [v, ov, iv] (setItem ov iv v)
      release [v, ov, iv] []) := by intro _; rfl)
    (hs : swapsWithSole [.Subscript (.Name x p0) k p1] e pos.line X.env = pure false := by rfl) (hw : swappedStores [.Subscript (.Name x p0) k p1] e X.env = pure none := by rfl)
    (h1 : (assignEach [.Subscript (.Name x p0) k p1] X.env).map (·.2) = [assign (.Subscript (.Name x p0) k p1) X.env] := by rfl) : TPS X B (.Assign [.Subscript (.Name x p0) k p1] e pos) (ttSetIxB i te ti) := by
  refine ⟨PS.imp (ps_asg he.pe (pg_sub (tpe_v (B := B) i (pos := p0) hN hv hd hcd).pe hi.pe (set_bdt (by omega)) ha) hs hw h1) fun D σ H h => ?_⟩
  obtain ⟨F, τ, TD, I, h, ok⟩ := h
  refine lift.go I h fun r τ1 F1 H1 v h1 I1 s1 r1 f1 => ?_
  obtain ⟨t, τ2, F2, ⟨⟨s, hs⟩, h2⟩, I2, s2, rep, _⟩ := freeze I I1 s1 r1 f1 h1
  refine lift.go I2 (P := fun r τ3 => r = .var i ∧ τ3 = τ2) ⟨⟨s, hs⟩, rfl, rfl⟩ fun r τ3 F3 H3 o ⟨er, et⟩ I3 s3 r3 f3 => ?_
  subst er et
  refine lift.go I3 h2 fun ri τ4 F4 H4 k h4 I4 s4 r4 f4 => ?_
  have rk := r4.rd I4.wf
  generalize ri.t τ4 = ti' at h4 rk
  unfold stIxB at h4
  split at h4
  · rename_i ks ts hc
    obtain ⟨bs, rfl, hn, hl, q⟩ := h4
    obtain ⟨a, ea, n, xs, hd, z, hk, ht, rp⟩ := I4.wf.own i .own false _ hc (by simp)
    have eo : o = .ref a := by
      have := r3.1
      rw [ea] at this
      cases this
      rfl
    subst eo
    have rv : Rep X.K F4 t v := Rep.mono (s3.sub.trans s4.sub) _ _ rep
    obtain ⟨b, vs, rfl, hb, z2, rp2⟩ := rk.tup
    rw [reps_bls rp2] at hb
    have hl' : xs.length < sizeLine := by rw [← hk, List.length_map] at hl; exact hl
    refine ⟨a, b, xs, bs, rfl, hd, rfl, SqT.mono I4.wf.sub hb, fun p hp => SqT.mono I4.wf.sub (ht p hp), by rw [hk]; exact hn, hl', ?_⟩
    obtain ⟨I5, s5⟩ := mut_ok (o := BD a (xs ++ [(bs, b, v)])) (t' := .bdt (ks ++ [bs]) (ts ++ [t])) I4 hc (by simp) ea ⟨_, upd_same, by rw [List.length_append, List.length_singleton]; exact hl', by rw [List.map_append, hk]; rfl, fun p hp => by
      rcases List.mem_append.mp hp with q | q
      · exact ht p q
      · rw [List.mem_singleton.mp q]; exact hb, by rw [List.map_append]; exact Reps.append rp ⟨v, [], rfl, rv, rfl⟩⟩
    exact ok.nx _ _ _ _ I5 (((s2.trans s3).trans s4).trans s5).ss q
  · exact h4.elim
end
/-! ### what the walk uses -/
def sxBK (o : Option (Option Sl)) (τ : TSt) (i : Nat) (k v : T) (P : TSt → Prop) : Prop := match o with
  | some (some ⟨.own, false, .bdt ks ts⟩) => ∃ bs : List Bool, k = .tup (bs.map T.bl) ∧ bs ∉ ks ∧ ks.length < sizeLine ∧ P (τ.set i (some ⟨.own, false, .bdt (ks ++ [bs]) (ts ++ [v])⟩))
  | _ => False
theorem stIxB_eq {τ : TSt} {i : Nat} {k v : T} {P : TSt → Prop} : stIxB τ i k v P = sxBK τ[i]? τ i k v P := rf rfl
theorem sxBK_o {τ : TSt} {i : Nat} {ks : List (List Bool)} {ts : List T} {k v : T} {P : TSt → Prop} : sxBK (some (some ⟨.own, false, .bdt ks ts⟩)) τ i k v P = ∃ bs : List Bool, k = .tup (bs.map T.bl) ∧ bs ∉ ks ∧ ks.length < sizeLine ∧ (@box _ ⟨fun c' => P (τ.set i (some ⟨.own, false, c'⟩))⟩) (.bdt (ks ++ [bs]) (ts ++ [v])) := rf rfl
section
variable {τ : TSt} {P : R → TSt → Prop} {D : TEnds} {ta tb te ti : TTE} {i : Nat}
theorem z_dB : ttDictB τ P = P (.val true (.bdt [] [])) τ := rf rfl
theorem z_ixB : ttIxB ta tb τ P = ta τ (@box _ ⟨fun ra τ1 => tb τ1 (@box _ ⟨fun rb τ2 => ttIxB.ixB (ra.t τ2) (rb.t τ2) (@box _ ⟨fun t => P (.val false t) τ2⟩)⟩)⟩) := rf rfl
theorem z_setIxB : ttSetIxB i te ti D τ = te τ (@box _ ⟨fun r τ1 => frzR r τ1 (@box _ ⟨fun t τ2 => (∃ s, τ2[i]? = some (some s)) ∧ ti τ2 (@box _ ⟨fun ri τ3 => stIxB τ3 i (ri.t τ3) t D.nx⟩)⟩)⟩) := rf rfl
theorem q_ixB {ks : List (List Bool)} {ts : List T} {b : T} {k : T → Prop} : ttIxB.ixB (.bdt ks ts) b k = ∃ (bs : List Bool) (t : T), b = .tup (bs.map T.bl) ∧ bGet ks ts bs = some t ∧ k t := rf rfl
theorem q_inB {neg : Bool} {ks : List (List Bool)} {ts : List T} {a : T} {k : Bool → T → Prop} : inB neg a (.bdt ks ts) k = ∃ bs : List Bool, a = .tup (bs.map T.bl) ∧ k false (.bl (neg != decide (bs ∈ ks))) := rf rfl
end
end TL

/-! ### a tuple no time or once -/
namespace L2
open PySem PySem.Spec PyProof.Rows
theorem tuple_mul1 (l : Addr) (items : Array Value) (n : Nat) (dd : Option Addr) (sl : Array (Option Value)) (u : Tok) :
    Meets (Builtin.«tuple.__mul__» ⟨[.ref l, .int 1 u], []⟩) (fun _ R s => s.heap.get? l = some { cls := .type "tuple", dict := dd, data := .seq items n, slots := sl } ∧ R (.ok (.ret (Value.ref l))) s) :=
  .of_wp fun prog w A R s h => by
    obtain ⟨hp, g, d, tk, os⟩ := s
    obtain ⟨hl, h⟩ := h
    have f1 := AutoSeq1.idx_int
    wp_walk using wpAny_loadPart' hl
    exact ⟨_, rfl, h⟩
theorem tuple_mul0 (l : Addr) (items : Array Value) (n : Nat) (dd : Option Addr) (sl : Array (Option Value)) (u : Tok) (hi : items.isEmpty = false) :
    Meets (Builtin.«tuple.__mul__» ⟨[.ref l, .int 0 u], []⟩) (fun _ R s => s.heap.get? l = some { cls := .type "tuple", dict := dd, data := .seq items n, slots := sl } ∧
      R (.ok (.ret (Value.ref s.heap.objs.size))) { s with heap := s.heap.push { cls := Value.type "tuple", data := Data.seq #[] }, toks := s.toks }) :=
  .of_wp fun prog w A R s h => by
    obtain ⟨hp, g, d, tk, os⟩ := s
    obtain ⟨hl, h⟩ := h
    have f1 := AutoSeq1.idx_int
    wp_walk using wpAny_loadPart' hl
    exact ⟨_, rfl, h⟩
def rRepU (K : PySem.W.Frag) : R2 := fun x y H Q => ∃ l k xs, x = .ref l ∧ y = .int k ∧ SqT K H l xs ∧ xs ≠ [] ∧ ((k = 1 ∧ Q (.ref l) H) ∨ (k = 0 ∧ ∀ p, H p = none → Q (.ref p) (upd H p (.tup []))))
section
variable {X : Cx}
theorem op_repU : OpR X (binaryOp .Mult) (rRepU X.K) := by
  intro pins s σ H x y v u Q I rx ry h
  obtain ⟨l, k, xs, rfl, rfl, hT, hne, q⟩ := h
  cases rx
  obtain ⟨t, rfl⟩ := ry
  obtain ⟨its, r, ⟨⟨cls, dd, data, sl⟩, ho, hc, n, hd⟩, hs⟩ := I.tuple hT
  simp only at hc hd
  subst hc hd
  have hi : its.toArray.isEmpty = false := by
    cases its with
    | nil => exact absurd (List.eq_nil_of_length_eq_zero r.length) hne
    | cons a b => rfl
  rcases q with ⟨rfl, q⟩ | ⟨rfl, q⟩
  · refine wpAny_binaryOp_repeat_ref (T := "tuple") (U := "int") (by decide) ⟨_, ho, rfl⟩ (fun s' => typeIs_int s' 1 t) noFill_tuple_mul F.fills_int_mul F.slot_int_rmul repeat_tuple F.slot_int_index.lookup
      (call_meets F.slot_int_rmul (typeIs_int s 1 t) F.entry_int_rmul (F.args_int_rmul_2 _ _) (int_rmul_tuple 1 t l its.toArray n dd sl)
        ⟨ho, rfl, ⟨_, ho, rfl⟩, call_meets F.slot_tuple_mul ⟨_, ho, rfl⟩ F.entry_tuple_mul (F.args_tuple_mul_2 _ _) (tuple_mul1 l its.toArray n dd sl t) ⟨ho, ?_⟩⟩)
    exact ⟨.ref l, H, I, rfl, q⟩
  · refine wpAny_binaryOp_repeat_ref (T := "tuple") (U := "int") (by decide) ⟨_, ho, rfl⟩ (fun s' => typeIs_int s' 0 t) noFill_tuple_mul F.fills_int_mul F.slot_int_rmul repeat_tuple F.slot_int_index.lookup
      (call_meets F.slot_int_rmul (typeIs_int s 0 t) F.entry_int_rmul (F.args_int_rmul_2 _ _) (int_rmul_tuple 0 t l its.toArray n dd sl)
        ⟨ho, rfl, ⟨_, ho, rfl⟩, call_meets F.slot_tuple_mul ⟨_, ho, rfl⟩ F.entry_tuple_mul (F.args_tuple_mul_2 _ _) (tuple_mul0 l its.toArray n dd sl t hi) ⟨ho, ?_⟩⟩)
    refine ⟨.ref s.heap.objs.size, _, I.laid (t' := s.toks) (o := .tup []) (fun b ob q => Heap.get?_push_of_some _ q) (Nat.le_refl _) ?_, rfl, q _ (I.hok.fresh (Nat.le_refl _))⟩
    exact ⟨Nat.zero_le _, [], .nil, IsTup.new _ _⟩
end
end L2
namespace TL
open PySem PySem.Spec PyProof.Rows L2
/-- a tuple times 0 or 1 -/
def mulTT : G2 := fun a b k => match a, b with
  | .tup xs, .int j => xs ≠ [] ∧ (j = 0 ∨ j = 1) ∧ k false (.tup (if j = 1 then xs else []))
  | _, _ => False
section
variable {X : Cx}
theorem o_mulTT : OpT X (binaryOp .Mult) mulTT := by
  refine ⟨_, op_repU (X := X), fun F H x y tx ty G Q s rx ry hg k => ?_⟩
  unfold mulTT at hg
  split at hg
  · rename_i xs j
    obtain ⟨hne, hj, hg⟩ := hg
    obtain ⟨a, vs, rfl, hl, z, r⟩ := rx.tup
    refine ⟨a, j, vs, rfl, ry.int, SqT.mono s hl, fun e => ?_, ?_⟩
    · subst e
      have := r.len
      cases xs with
      | nil => exact hne rfl
      | cons x xs => simp at this
    · rcases hj with rfl | rfl
      · rw [if_neg (by decide)] at hg
        exact .inr ⟨rfl, fun p np => k false _ _ _ _ hg (Grow.frz s np) ⟨p, [], rfl, .inl (.inl upd_same), Nat.zero_le _, rfl⟩⟩
      · rw [if_pos rfl] at hg
        exact .inl ⟨rfl, k false _ _ F H hg (Grow.refl s) ⟨a, vs, rfl, hl, z, r⟩⟩
  · exact hg.elim
theorem q_mulTT {xs : List T} {j : Int} {k : Bool → T → Prop} : mulTT (.tup xs) (.int j) k = (xs ≠ [] ∧ (j = 0 ∨ j = 1) ∧ k false (.tup (if j = 1 then xs else []))) := rf rfl
end
end TL

/-! ### join, split, partition, int of a text, or of texts -/
namespace TL
open PySem PySem.Spec PyProof.Rows L2
def stK (t : T) (k : Str → Prop) : Prop := match t with
  | .str a => k a
  | _ => False
theorem stK_s {a : Str} {k : Str → Prop} : stK (.str a) k = k a := rf rfl
theorem stK_inv {t : T} {k : Str → Prop} (h : stK t k) : ∃ a, t = .str a ∧ k a := by
  cases t with
  | str a => exact ⟨a, rfl, h⟩
  | _ => exact h.elim
section
variable {X : Cx} {B : Bs} {a b : Expr} {ta tb : TTE} {apos pos : Pos}
def joinT : Str → T → (T → Prop) → Prop := fun a b k => match b with
  | .lst ts => ∃ ys : List Str, ts = ys.map T.str ∧ (ys.map (·.length)).sum + ys.length * a.length ≤ 16777216 ∧ k (.str (Txt.join a ys))
  | _ => False
def ttJoin (ta tb : TTE) : TTE := fun τ P => ta τ fun ra τ1 => stK (ra.t τ1) fun x => tb τ1 fun rb τ2 => joinT x (rb.t τ2) fun t => P (.val false t) τ2
theorem z_join {τ : TSt} {P : R → TSt → Prop} : ttJoin ta tb τ P = ta τ (@box _ ⟨fun ra τ1 => stK (ra.t τ1) (@box _ ⟨fun x => tb τ1 (@box _ ⟨fun rb τ2 => joinT x (rb.t τ2) (@box _ ⟨fun t => P (.val false t) τ2⟩)⟩)⟩)⟩) := rf rfl
theorem joinT_l {a : Str} {ts : List T} {k : T → Prop} : joinT a (.lst ts) k = ∃ ys : List Str, ts = ys.map T.str ∧ (ys.map (·.length)).sum + ys.length * a.length ≤ 16777216 ∧ k (.str (Txt.join a ys)) := rf rfl
theorem tpe_join (ha : TPE X B a ta) (hb : TPE X B b tb) (hs : starEach [b] X.env = [(false, eval b X.env)] := by rfl) (hbase : attributeBase a "join" X.env (eval a X.env) = eval a X.env := by rfl) (hline : (apos.endLine == pos.line) = true := by rfl) :
    TPE X B (.Call (.Attribute a "join" apos) [b] [] pos) (ttJoin ta tb) := by
  refine ⟨PE.imp (pe_join ha.pe hb.pe hs hbase hline) fun σ H Q h => ?_⟩
  obtain ⟨F, τ, P, I, ht, hq⟩ := h
  refine lift.go I ht fun ra τ1 F1 H1 x h1 I1 s1 r1 f1 => ?_
  obtain ⟨u, eu, h1⟩ := stK_inv h1
  have rx := r1.rd I1.wf
  rw [eu] at rx
  obtain rfl := rx.str
  refine ⟨⟨u, rfl⟩, lift.go I1 h1 fun rb τ2 F2 H2 y h2 I2 s2 r2 f2 => ?_⟩
  have ry := r2.rd I2.wf
  generalize rb.t τ2 = ty at h2 ry
  cases ty with
  | lst ts =>
    obtain ⟨ys, rfl, hl, hp⟩ := h2
    obtain ⟨p, vs, rfl, hv, z, rp⟩ := ry.lst I2.wf.sub
    rw [Reps.strs.mp rp] at hv
    exact ⟨u, p, ys, rfl, rfl, .inl (SqL.of hv), hl, hq _ _ _ _ _ hp I2 (s1.trans s2) rfl trivial⟩
  | _ => exact h2.elim
def ttSplit (ta tb : TTE) : TTE := fun τ P => ta τ fun ra τ1 => stK (ra.t τ1) fun x => tb τ1 fun rb τ2 => stK (rb.t τ2) fun y => ((y.length == 0) = false ∧ x.length + 2 ≤ sizeLine ∧ (Txt.split x y).length ≤ sizeLine) ∧ P (.val true (.lst ((Txt.split x y).map T.str))) τ2
theorem z_split {τ : TSt} {P : R → TSt → Prop} : ttSplit ta tb τ P = ta τ (@box _ ⟨fun ra τ1 => stK (ra.t τ1) (@box _ ⟨fun x => tb τ1 (@box _ ⟨fun rb τ2 => stK (rb.t τ2) (@box _ ⟨fun y => ((y.length == 0) = false ∧ x.length + 2 ≤ sizeLine ∧ (Txt.split x y).length ≤ sizeLine) ∧ P (.val true (.lst ((Txt.split x y).map T.str))) τ2⟩)⟩)⟩)⟩) := rf rfl
theorem tpe_split (ha : TPE X B a ta) (hb : TPE X B b tb) (hs : starEach [b] X.env = [(false, eval b X.env)] := by rfl) (hbase : attributeBase a "split" X.env (eval a X.env) = eval a X.env := by rfl) (hline : (apos.endLine == pos.line) = true := by rfl) :
    TPE X B (.Call (.Attribute a "split" apos) [b] [] pos) (ttSplit ta tb) := by
  refine ⟨PE.imp (pe_split ha.pe hb.pe hs hbase hline) fun σ H Q h => ?_⟩
  obtain ⟨F, τ, P, I, ht, hq⟩ := h
  refine lift.go I ht fun ra τ1 F1 H1 x h1 I1 s1 r1 f1 => ?_
  obtain ⟨u, eu, h1⟩ := stK_inv h1
  have rx := r1.rd I1.wf
  rw [eu] at rx
  obtain rfl := rx.str
  refine ⟨⟨u, rfl⟩, lift.go I1 h1 fun rb τ2 F2 H2 y h2 I2 s2 r2 f2 => ?_⟩
  obtain ⟨w, ew, ⟨l1, l2, l3⟩, h2⟩ := stK_inv h2
  have ry := r2.rd I2.wf
  rw [ew] at ry
  obtain rfl := ry.str
  refine ⟨u, w, rfl, rfl, l1, l2, fun p np => ?_⟩
  have g : Grow F2 H2 F2 (upd H2 p (.lst ((Txt.split u w).map V.str))) := Grow.own I2.wf.sub np
  obtain ⟨rr, fr⟩ := RG.rr (v := .ref p) (k := true) (t := .lst ((Txt.split u w).map T.str)) I2.wf g ⟨p, rfl, np, I2.wf.sub.free np, _, upd_same, by rw [List.length_map]; exact l3, Reps.strs.mpr rfl⟩
  exact hq _ _ _ _ _ h2 (I2.step (g.wf I2.wf) g.step) ((s1.trans s2).trans g.step) rr (Fresh.step (s1.trans s2) fr)
def ttPartn (ta tb : TTE) : TTE := fun τ P => ta τ fun ra τ1 => stK (ra.t τ1) fun x => tb τ1 fun rb τ2 => stK (rb.t τ2) fun y => ((y.length == 0) = false ∧ x.length ≤ sizeLine) ∧ P (.val false (.tup [.str (Txt.partition x y).1, .str (Txt.partition x y).2.1, .str (Txt.partition x y).2.2])) τ2
theorem z_partn {τ : TSt} {P : R → TSt → Prop} : ttPartn ta tb τ P = ta τ (@box _ ⟨fun ra τ1 => stK (ra.t τ1) (@box _ ⟨fun x => tb τ1 (@box _ ⟨fun rb τ2 => stK (rb.t τ2) (@box _ ⟨fun y => ((y.length == 0) = false ∧ x.length ≤ sizeLine) ∧ P (.val false (.tup [.str (Txt.partition x y).1, .str (Txt.partition x y).2.1, .str (Txt.partition x y).2.2])) τ2⟩)⟩)⟩)⟩) := rf rfl
theorem tpe_partn (ha : TPE X B a ta) (hb : TPE X B b tb) (hs : starEach [b] X.env = [(false, eval b X.env)] := by rfl) (hbase : attributeBase a "partition" X.env (eval a X.env) = eval a X.env := by rfl) (hline : (apos.endLine == pos.line) = true := by rfl) :
    TPE X B (.Call (.Attribute a "partition" apos) [b] [] pos) (ttPartn ta tb) := by
  refine ⟨PE.imp (pe_partition ha.pe hb.pe hs hbase hline) fun σ H Q h => ?_⟩
  obtain ⟨F, τ, P, I, ht, hq⟩ := h
  refine lift.go I ht fun ra τ1 F1 H1 x h1 I1 s1 r1 f1 => ?_
  obtain ⟨u, eu, h1⟩ := stK_inv h1
  have rx := r1.rd I1.wf
  rw [eu] at rx
  obtain rfl := rx.str
  refine ⟨⟨u, rfl⟩, lift.go I1 h1 fun rb τ2 F2 H2 y h2 I2 s2 r2 f2 => ?_⟩
  obtain ⟨w, ew, ⟨l1, l2⟩, h2⟩ := stK_inv h2
  have ry := r2.rd I2.wf
  rw [ew] at ry
  obtain rfl := ry.str
  refine ⟨u, w, rfl, rfl, l1, l2, fun p np => ?_⟩
  have nF : F2 p = none := I2.wf.sub.free np
  have g := Grow.frz (o := .tup [.str (Txt.partition u w).1, .str (Txt.partition u w).2.1, .str (Txt.partition u w).2.2]) I2.wf.sub np
  obtain ⟨rr, fr⟩ := RG.rr (v := .ref p) (k := false) (t := .tup [.str (Txt.partition u w).1, .str (Txt.partition u w).2.1, .str (Txt.partition u w).2.2]) I2.wf g ⟨p, _, rfl, .inl (.inl upd_same), by have := sizeLine_val; simp only [List.length_cons, List.length_nil]; omega, ⟨_, _, rfl, rfl, _, _, rfl, rfl, _, _, rfl, rfl, rfl⟩⟩
  exact hq _ _ _ _ _ h2 (I2.step (g.wf I2.wf) g.step) ((s1.trans s2).trans g.step) rr trivial
/-- x or y, x a text -/
def ttOrS (ta tb : TTE) : TTE := fun τ P => ta τ fun ra τ1 => stK (ra.t τ1) fun x => x.length ≤ sizeLine ∧ if x.length = 0 then tb τ1 P else P (.val false (.str x)) τ1
theorem z_orS {τ : TSt} {P : R → TSt → Prop} : ttOrS ta tb τ P = ta τ (@box _ ⟨fun ra τ1 => stK (ra.t τ1) (@box _ ⟨fun x => x.length ≤ sizeLine ∧ cnd (decide (x.length = 0)) (@box _ ⟨fun _ => tb τ1 P⟩) (@box _ ⟨fun _ => P (.val false (.str x)) τ1⟩)⟩)⟩) := by
  unfold ttOrS box cnd
  congr 1
  funext ra τ1
  congr 1
  funext x
  by_cases h : x.length = 0
  · simp [h]
  · simp [h]
theorem tpe_orS (ha : TPE X B a ta) (hb : TPE X B (.BoolOp .Or [b] pos) tb) : TPE X B (.BoolOp .Or [a, b] pos) (ttOrS ta tb) := by
  refine ⟨PE.imp (pe_orT ha.pe hb.pe) fun σ H Q h => ?_⟩
  obtain ⟨F, τ, P, I, ht, hq⟩ := h
  refine lift.go I ht fun ra τ1 F1 H1 x h1 I1 s1 r1 f1 => ?_
  obtain ⟨u, eu, h1⟩ := stK_inv h1
  have rx := r1.rd I1.wf
  rw [eu] at rx
  obtain rfl := rx.str
  obtain ⟨hs, h1⟩ := h1
  by_cases hu : u.length = 0
  · rw [if_pos hu] at h1
    refine ⟨false, ⟨hs, by rw [hu]; rfl⟩, ?_⟩
    rw [if_neg Bool.false_ne_true]
    exact lift.go I1 h1 fun rb τ2 F2 H2 y h2 I2 s2 r2 f2 => hq _ _ _ _ _ h2 I2 (s1.trans s2) r2 (Fresh.step s1 f2)
  · rw [if_neg hu] at h1
    refine ⟨true, ⟨hs, (bne_iff_ne.mpr fun e => hu (by exact_mod_cast e)).symm⟩, ?_⟩
    rw [if_pos rfl]
    exact hq _ _ _ _ _ h1 I1 s1 rfl trivial
end
theorem q_seq_3 {z : Str} {k : List T → Prop} : seqI (.str z) k = k (signs z) := rf rfl
theorem q_int_2 {z : Str} {k : Bool → T → Prop} : (intC (.str z) k) = ∃ n, PySem.intText? z = some n ∧ z.length ≤ 640 ∧ k false (.int n) := rf rfl
theorem q_str_0 {i : Int} {k : Bool → T → Prop} : (strC (.int i) k) = (i.natAbs.log2 < 1920 ∧ k false (.str (toString i))) := rf rfl
end TL

/-! ### n in range(a, b); a text turned about -/
namespace TL
open PySem PySem.W PySem.Calls PyProof.Rows PyProof.V PySem.Spec L2
section
variable {prog : Program} {w : World} {A : Around} {E : Value → Shared → Prop} {s : Shared}
def revS (z : Str) : Str := ⟨((Builtin.Str.strSliceIndices none none (-1) z.length).filterMap (z.cps[·]?)).toArray⟩
theorem revS_mem {z : Str} : ∀ c ∈ tl (revS z), c ∈ tl z := fun c hc => by
  have hc : c ∈ (Builtin.Str.strSliceIndices none none (-1) z.length).filterMap (z.cps[·]?) := hc
  obtain ⟨i, _, e⟩ := List.mem_filterMap.mp hc
  obtain ⟨h, rfl⟩ := Array.getElem?_eq_some_iff.mp e
  exact Array.mem_toList_iff.mpr (Array.getElem_mem h)
theorem revS_len {z : Str} : (revS z).length ≤ z.length := by
  show ((Builtin.Str.strSliceIndices none none (-1) z.length).filterMap (z.cps[·]?)).toArray.size ≤ _
  rw [List.size_toArray]
  refine Nat.le_trans (List.length_filterMap_le ..) ?_
  unfold Builtin.Str.strSliceIndices sliceRange
  simp only [List.length_map, List.length_range]
  simp
  split <;> omega
end
section
variable {X : Cx}
theorem pe_revS {e : Expr} {te : TE} {k : Nat} {p1 p2 p3 pos : Pos} (he : PE X e te)
    (hsub : ∀ o i, subscripted (.Slice none none (some (.UnaryOp .USub (.Constant (.int 1) k p1) p2)) p3) false o i = operate [o, i] (getItem o i) := by intros; with_unfolding_all rfl) :
    PE X (.Subscript e (.Slice none none (some (.UnaryOp .USub (.Constant (.int 1) k p1) p2)) p3) pos) (fun σ H Q => te σ H fun x H1 => ∃ z, x = .str z ∧ z.length ≤ sizeLine ∧ Q (.str (revS z)) H1) := by
  refine ⟨fun pins s σ H Q I h => ?_⟩
  refine Subscript_ (thn (he.run pins s σ H _ I h) fun v s1 ⟨x, H1, I1, r1, q1⟩ => ?_)
  obtain ⟨z, rfl, hz, q⟩ := q1
  obtain ⟨t, rfl⟩ := r1
  have hst : PO X (some (.UnaryOp .USub (.Constant (.int 1) k p1) p2)) (tPart (tUn (rU fun i => .int (-i)) (tC (.int 1)))) := po_some (pe_un un_neg pe_int)
  refine wpAny_Slice (thn (po_none.run pins s1 σ H1 (fun o H2 => o = none ∧ H2 = H1) I1 ⟨rfl, rfl⟩) fun vl s2 ⟨l, H2, I2, pl, el, e2⟩ => ?_)
  subst el e2
  refine thn (po_none.run pins s2 σ H2 (fun o H3 => o = none ∧ H3 = H2) I2 ⟨rfl, rfl⟩) fun vu s3 ⟨u, H3, I3, pu, eu, e3⟩ => ?_
  subst eu e3
  refine thn (hst.run pins s3 σ H3 (fun o H4 => o = some (-1) ∧ H4 = H3) I3 ⟨1, rfl, -1, rfl, rfl, rfl⟩) fun vs s4 ⟨o, H4, I4, ps, eo, e4⟩ => ?_
  subst eo e4
  have I5 : Inv X pins σ H4 { s4 with heap := s4.heap.push { cls := .type "slice", data := .fields #[vl, vu, vs] } } := I4.kept (t' := s4.toks) fun b ob q => Heap.get?_push_of_some _ q
  show wpAny (model X.prog X.w) X.A (subscriptTail e (.Slice none none (some (.UnaryOp .USub (.Constant (.int 1) k p1) p2)) p3) (.str z t) (.ref s4.heap.objs.size)) (EP X pins σ Q) X.xe { s4 with heap := s4.heap.push { cls := .type "slice", data := .fields #[vl, vu, vs] } }
  obtain ⟨l, rfl, el⟩ := L2.IsPart.raw pl
  obtain ⟨u, rfl, eu⟩ := L2.IsPart.raw pu
  obtain ⟨q3, rfl, eq3⟩ := L2.IsPart.raw ps
  have hl0 : l = none := by cases l with | none => rfl | some _ => cases el
  have hu0 : u = none := by cases u with | none => rfl | some _ => cases eu
  subst hl0 hu0
  refine tail_any (ops := [.str z t, .ref s4.heap.objs.size]) (typeIs_str _ _ _) (PySem.F.slot_str_getitem.lookup) ?_ (hsub _ _)
  refine wpAny_getItem_str_slice (l := none) (u := none) (st := q3) ⟨_, Heap.get?_push_size _ rfl, rfl, rfl⟩ (by rw [eq3]; rfl) ?_
  unfold sliceMade slicePicked
  rw [eq3]
  show Made.post (if ((-1 : Int) == 1 && (Builtin.Str.strSliceIndices none none (-1) z.length).length == z.length) = true then Made.val (.str z t)
    else Made.str (revS z)) (EP X pins σ Q) _
  rw [if_neg (by simp)]
  exact ⟨Nat.le_trans revS_len hz, .str _, H4, I5.tok _, ⟨_, rfl⟩, q⟩
end
section
variable {X : Cx}
theorem op_notin_rng : OpR X (compareOp .NotIn) (fun x y H Q => ∃ i a lo hi, x = V.int i ∧ y = V.ref a ∧ H a = some (.rng lo hi) ∧ Q (.bl (!decide (lo ≤ i ∧ i < hi))) H) := by
  intro pins s σ H x y v u Q I rx ry h
  obtain ⟨i, a, lo, hi, rfl, rfl, ha, q⟩ := h
  obtain ⟨k, rfl⟩ := rx
  obtain rfl : u = Value.ref a := ry
  obtain ⟨t1, t2, t3, ho⟩ := I.hok a _ ha
  show wpAny _ _ (do return Value.bool (!(← contains (Value.ref a) (Value.int i k)))) _ _ s
  refine wpAny_bind (wpAny_contains_slot (T := "range") ⟨_, ho, rfl⟩ F.slot_range_contains (call_meets F.slot_range_contains ⟨_, ho, rfl⟩ F.entry_range_contains (F.args_range_contains_2 _ _) (q_contains a lo hi i t1 t2 t3 k)
    ⟨ho, wpAny_truthy_bool (wpAny_pure ⟨.bl _, H, I, rfl, ?_⟩)⟩))
  rw [place1]
  exact q
end
section
variable {X : Cx} {B : Bs} {e a b c : Expr} {te ta tb tc : TTE} {p pos cpos : Pos}
def ttRevS (te : TTE) : TTE := fun τ P => te τ fun r τ1 => stK (r.t τ1) fun x => x.length ≤ sizeLine ∧ P (.val false (.str (revS x))) τ1
theorem z_revS {τ : TSt} {P : R → TSt → Prop} : ttRevS te τ P = te τ (@box _ ⟨fun r τ1 => stK (r.t τ1) (@box _ ⟨fun x => x.length ≤ sizeLine ∧ P (.val false (.str (revS x))) τ1⟩)⟩) := rf rfl
theorem tpe_revS {k : Nat} {p1 p2 p3 : Pos} (he : TPE X B e te)
    (hsub : ∀ o i, subscripted (.Slice none none (some (.UnaryOp .USub (.Constant (.int 1) k p1) p2)) p3) false o i = operate [o, i] (getItem o i) := by intros; with_unfolding_all rfl) :
    TPE X B (.Subscript e (.Slice none none (some (.UnaryOp .USub (.Constant (.int 1) k p1) p2)) p3) pos) (ttRevS te) := by
  refine ⟨PE.imp (pe_revS he.pe hsub) fun σ H Q h => ?_⟩
  obtain ⟨F, τ, P, I, ht, hq⟩ := h
  refine lift.go I ht fun ra τ1 F1 H1 x h1 I1 s1 r1 f1 => ?_
  obtain ⟨u, eu, hl, h1⟩ := stK_inv h1
  have rx := r1.rd I1.wf
  rw [eu] at rx
  obtain rfl := rx.str
  exact ⟨u, rfl, hl, hq _ _ _ _ _ h1 I1 s1 rfl trivial⟩
/-- c in range(a, b) -/
def ttInRg (tc ta tb : TTE) : TTE := fun τ P => tc τ fun rc τ1 => ta τ1 fun ra τ2 => tb τ2 fun rb τ3 => inK (rc.t τ3) fun i => inK (ra.t τ3) fun lo => inK (rb.t τ3) fun hi => P (.val false (.bl (decide (lo ≤ i ∧ i < hi)))) τ3
theorem z_inRg {τ : TSt} {P : R → TSt → Prop} : ttInRg tc ta tb τ P = tc τ (@box _ ⟨fun rc τ1 => ta τ1 (@box _ ⟨fun ra τ2 => tb τ2 (@box _ ⟨fun rb τ3 => inK (rc.t τ3) (@box _ ⟨fun i => inK (ra.t τ3) (@box _ ⟨fun lo => inK (rb.t τ3) (@box _ ⟨fun hi => P (.val false (.bl (decide (lo ≤ i ∧ i < hi)))) τ3⟩)⟩)⟩)⟩)⟩)⟩) := rf rfl
theorem inRg_imp (hc : PE X c (lift X.K B tc)) (ha : PE X a (lift X.K B ta)) (hb : PE X b (lift X.K B tb)) (σ : L2.St) (H : Hp) (Q : VK) (h : lift X.K B (ttInRg tc ta tb) σ H Q) :
    tOp (fun x y H Q => ∃ i a lo hi, x = V.int i ∧ y = V.ref a ∧ H a = some (.rng lo hi) ∧ Q (.bl (decide (lo ≤ i ∧ i < hi))) H) (lift X.K B tc)
      (tCB (fun vs H Q => ∃ i j, vs = [V.int i, V.int j] ∧ ∀ p, H p = none → Q (.ref p) (upd H p (.rng i j))) (tCons (lift X.K B ta) (tCons (lift X.K B tb) tNil))) σ H Q := by
  obtain ⟨F, τ, P, I, ht, hq⟩ := h
  refine lift.go I ht fun rc τ1 F1 H1 x h1 I1 s1 r1 f1 => ?_
  refine lift.go I1 h1 fun ra τ2 F2 H2 y h2 I2 s2 r2 f2 => ?_
  refine lift.go I2 h2 fun rb τ3 F3 H3 z h3 I3 s3 r3 f3 => ?_
  have rx := (r1.step (s2.trans s3)).rd I3.wf
  have ry := (r2.step s3).rd I3.wf
  have rz := r3.rd I3.wf
  obtain ⟨i, ei, h3⟩ := inK_inv h3
  obtain ⟨lo, el, h3⟩ := inK_inv h3
  obtain ⟨hi, eh, h3⟩ := inK_inv h3
  rw [ei] at rx
  rw [el] at ry
  rw [eh] at rz
  obtain rfl := rx.int
  obtain rfl := ry.int
  obtain rfl := rz.int
  refine ⟨lo, hi, rfl, fun q nq => ⟨i, q, lo, hi, rfl, rfl, upd_same, ?_⟩⟩
  have g := Grow.own (o := .rng lo hi) I3.wf.sub nq
  exact hq _ _ _ _ _ h3 (I3.step (g.wf I3.wf) g.step) (((s1.trans s2).trans s3).trans g.step) rfl trivial
theorem tpe_inRg (hg : Gl X "range") (hm : X.mg "range" = none) (hc : TPE X B c tc) (ha : TPE X B a ta) (hb : TPE X B b tb)
    (na : starEach [a, b] X.env = (false, eval a X.env) :: starEach [b] X.env := by rfl) (nb : starEach [b] X.env = (false, eval b X.env) :: starEach [] X.env := by rfl) (hpl : (backTo pos (starEach [b] X.env)).any (·.1) = false := by rfl)
    (hmk : behindInMarks .In (.Call (.Name "range" p) [a, b] [] pos) = false := by rfl) : TPE X B (.Compare c [.In] [.Call (.Name "range" p) [a, b] [] pos] cpos) (ttInRg tc ta tb) :=
  ⟨PE.imp (pe_cmpR op_in_rng hc.pe (pe_callTy cr_range2 hg hm (by decide +kernel) (pa_cons ha.pe (pa_cons hb.pe pa_nil nb) na) (by decide) (by decide) na hpl) hmk) (inRg_imp hc.pe ha.pe hb.pe)⟩
/-- c not in range(a, b) -/
def ttNiRg (tc ta tb : TTE) : TTE := fun τ P => tc τ fun rc τ1 => ta τ1 fun ra τ2 => tb τ2 fun rb τ3 => inK (rc.t τ3) fun i => inK (ra.t τ3) fun lo => inK (rb.t τ3) fun hi => P (.val false (.bl (!decide (lo ≤ i ∧ i < hi)))) τ3
theorem z_niRg {τ : TSt} {P : R → TSt → Prop} : ttNiRg tc ta tb τ P = tc τ (@box _ ⟨fun rc τ1 => ta τ1 (@box _ ⟨fun ra τ2 => tb τ2 (@box _ ⟨fun rb τ3 => inK (rc.t τ3) (@box _ ⟨fun i => inK (ra.t τ3) (@box _ ⟨fun lo => inK (rb.t τ3) (@box _ ⟨fun hi => P (.val false (.bl (!decide (lo ≤ i ∧ i < hi)))) τ3⟩)⟩)⟩)⟩)⟩)⟩) := rf rfl
theorem niRg_imp (hc : PE X c (lift X.K B tc)) (ha : PE X a (lift X.K B ta)) (hb : PE X b (lift X.K B tb)) (σ : L2.St) (H : Hp) (Q : VK) (h : lift X.K B (ttNiRg tc ta tb) σ H Q) :
    tOp (fun x y H Q => ∃ i a lo hi, x = V.int i ∧ y = V.ref a ∧ H a = some (.rng lo hi) ∧ Q (.bl (!decide (lo ≤ i ∧ i < hi))) H) (lift X.K B tc)
      (tCB (fun vs H Q => ∃ i j, vs = [V.int i, V.int j] ∧ ∀ p, H p = none → Q (.ref p) (upd H p (.rng i j))) (tCons (lift X.K B ta) (tCons (lift X.K B tb) tNil))) σ H Q := by
  obtain ⟨F, τ, P, I, ht, hq⟩ := h
  refine lift.go I ht fun rc τ1 F1 H1 x h1 I1 s1 r1 f1 => ?_
  refine lift.go I1 h1 fun ra τ2 F2 H2 y h2 I2 s2 r2 f2 => ?_
  refine lift.go I2 h2 fun rb τ3 F3 H3 z h3 I3 s3 r3 f3 => ?_
  have rx := (r1.step (s2.trans s3)).rd I3.wf
  have ry := (r2.step s3).rd I3.wf
  have rz := r3.rd I3.wf
  obtain ⟨i, ei, h3⟩ := inK_inv h3
  obtain ⟨lo, el, h3⟩ := inK_inv h3
  obtain ⟨hi, eh, h3⟩ := inK_inv h3
  rw [ei] at rx
  rw [el] at ry
  rw [eh] at rz
  obtain rfl := rx.int
  obtain rfl := ry.int
  obtain rfl := rz.int
  refine ⟨lo, hi, rfl, fun q nq => ⟨i, q, lo, hi, rfl, rfl, upd_same, ?_⟩⟩
  have g := Grow.own (o := .rng lo hi) I3.wf.sub nq
  exact hq _ _ _ _ _ h3 (I3.step (g.wf I3.wf) g.step) (((s1.trans s2).trans s3).trans g.step) rfl trivial
theorem tpe_niRg (hg : Gl X "range") (hm : X.mg "range" = none) (hc : TPE X B c tc) (ha : TPE X B a ta) (hb : TPE X B b tb)
    (na : starEach [a, b] X.env = (false, eval a X.env) :: starEach [b] X.env := by rfl) (nb : starEach [b] X.env = (false, eval b X.env) :: starEach [] X.env := by rfl) (hpl : (backTo pos (starEach [b] X.env)).any (·.1) = false := by rfl)
    (hmk : behindInMarks .NotIn (.Call (.Name "range" p) [a, b] [] pos) = false := by rfl) : TPE X B (.Compare c [.NotIn] [.Call (.Name "range" p) [a, b] [] pos] cpos) (ttNiRg tc ta tb) :=
  ⟨PE.imp (pe_cmpR op_notin_rng hc.pe (pe_callTy cr_range2 hg hm (by decide +kernel) (pa_cons ha.pe (pa_cons hb.pe pa_nil nb) na) (by decide) (by decide) na hpl) hmk) (niRg_imp hc.pe ha.pe hb.pe)⟩
end
end TL

/-! ### a text some times -/
namespace TL
open PySem PySem.Spec PyProof.Rows L2
section
variable {X : Cx}
def MSOk (z : Str) (n : Int) : Prop := 0 < z.length ∧ z.length ≤ 1000 ∧ 2 ≤ n ∧ n ≤ 1000
theorem op_mulSG : OpR X (binaryOp .Mult) (fun x y H Q => ∃ z n, x = V.str z ∧ y = V.int n ∧ MSOk z n ∧ Q (.str (Txt.mul z n)) H) := by
  intro pins s σ H x y v u Q I rx ry h
  obtain ⟨z, n, rfl, rfl, ⟨h1, h2, h3, h4⟩, q⟩ := h
  obtain ⟨t, rfl⟩ := rx
  obtain ⟨t2, rfl⟩ := ry
  have hm : z.length * n.toNat ≤ 1000 * 1000 := Nat.mul_le_mul h2 (by omega)
  refine PySem.SB.mul ⟨?_, fun _ _ => ?_, fun _ _ => ?_⟩ fun t' k => ?_
  · rw [decide_eq_false (by omega), decide_eq_false (by omega)]
    rfl
  · have : (1000 : Int) ≤ (2 ^ 63 - 1) / n := (Int.le_ediv_iff_mul_le (by omega)).mpr (by omega)
    omega
  · have := sizeLine_val
    exact decide_eq_false (by omega)
  · exact ⟨.str _, H, I.tok k, ⟨t', rfl⟩, q⟩
def mulSG : G2 := fun a b k => match a, b with
  | .str z, .int n => MSOk z n ∧ k false (.str (Txt.mul z n))
  | _, _ => False
theorem o_mulSG : OpT X (binaryOp .Mult) mulSG := by
  refine ⟨_, op_mulSG, fun F H x y tx ty G Q s rx ry hg k => ?_⟩
  unfold mulSG at hg
  split at hg
  · exact ⟨_, _, rx.str, ry.int, hg.1, k false _ _ F H hg.2 (Grow.refl s) rfl⟩
  · exact hg.elim
theorem q_mulSG {z : Str} {n : Int} {k : Bool → T → Prop} : mulSG (.str z) (.int n) k = (MSOk z n ∧ k false (.str (Txt.mul z n))) := rf rfl
end
end TL

namespace TL
open PySem PySem.Spec PyProof.Rows L2
open PySem (wpAny_tupleHeld_enum)
/-! ### dict(enumerate(v)), v told by what its iterator draws -/
section
variable {prog : Program} {w : World} {A : Around} {E : Value → Shared → Prop} {s : Shared}
theorem enum_next_heldD {e it T : Addr} {fp : List Addr} {n i : Nat} {P : Nat → Value → Prop} {St : Nat → Heap → Prop} {old : Value} {f : Bool} {oT : Obj} {Q : Value → Shared → Prop}
    (D : Draws prog w A it fp n P St) (he : IsEnumHeld s.heap e it i old T f) (hT : s.heap.get? T = some oT) (hTe : T ≠ e) (hTi : T ≠ it) (hst : St i s.heap) (hlt : i < n) (hne : e ≠ it) (hef : e ∉ fp)
    (hQ : ∀ x h' tk, P i x → IsEnumHeld h' e it ((i : Int) + 1) old T true → St (i + 1) h' →
      h'.get? s.heap.objs.size = some { cls := .type "tuple", data := .seq #[.int i tk, x] } → h'.objs.size = s.heap.objs.size + 1 →
      (∀ b o, b ≠ e → b ≠ it → s.heap.get? b = some o → h'.get? b = some o) → Q (.ref s.heap.objs.size) { s with heap := h', toks := tk + 1 }) :
    wpAny (model prog w) A (Builtin.«enumerate.__next__» ⟨[.ref e], []⟩) (fun fin s' => ∃ v, fin = .done (.ret v) ∧ Q v s') E s := by
  obtain ⟨hp, g, d, tk₀, os⟩ := s
  show wpAny _ _ (field (.ref e) 2 >>= _) _ _ _
  refine wpAny_bind (wpAny_field he rfl (x := .ref it) rfl ?_)
  refine wpAny_bind (D.item i _ _ _ hlt hst fun x h₁ tk hPx hit₁ hs₁ => ?_)
  replace hs₁ : Heap.SameBut it hp h₁ := hs₁
  have he₁ : IsEnumHeld h₁ e it i old T f := (hs₁.2 e hne).trans he
  show wpAny _ _ (field (.ref e) 3 >>= _) _ _ ⟨h₁, g, d, tk, os⟩
  refine wpAny_bind (wpAny_field he₁ rfl (x := rawInt i) rfl ?_)
  show wpAny _ _ (field (.ref e) 4 >>= _) _ _ ⟨h₁, g, d, tk, os⟩
  refine wpAny_bind (wpAny_field he₁ rfl (x := .none) rfl ?_)
  show wpAny _ _ (mkInt i >>= _) _ _ ⟨h₁, g, d, tk, os⟩
  refine wpAny_bind (wpAny_mkInt ?_)
  show wpAny _ _ (setField (.ref e) 3 (rawInt ((i : Int) + 1)) >>= _) _ _ ⟨h₁, g, d, tk + 1, os⟩
  refine wpAny_bind (wpAny_setField_rec he₁ (by simp) fun h₂ he₂ hs₂ => ?_)
  replace hs₂ : Heap.SameBut e h₁ h₂ := hs₂
  replace he₂ : IsEnumHeld h₂ e it ((i : Int) + 1) old T f := he₂
  show wpAny _ _ (setField (.ref e) 4 .none >>= _) _ _ ⟨h₂, g, d, tk + 1, os⟩
  refine wpAny_bind (wpAny_setField_rec he₂ (by simp) fun h₃ he₃ hs₃ => ?_)
  replace hs₃ : Heap.SameBut e h₂ h₃ := hs₃
  replace he₃ : IsEnumHeld h₃ e it ((i : Int) + 1) old T f := he₃
  show wpAny _ _ (newTuple [.int i tk, x] >>= _) _ _ ⟨h₃, g, d, tk + 1, os⟩
  refine wpAny_bind (wpAny_newTuple ?_)
  have he₄ : IsEnumHeld (h₃.push { cls := .type "tuple", data := .seq #[.int i tk, x] }) e it ((i : Int) + 1) old T f := Heap.get?_push_of_some _ he₃
  generalize hh₄ : h₃.push { cls := .type "tuple", data := .seq #[.int i tk, x] } = h₄ at he₄
  have hsz : h₃.objs.size = hp.objs.size := by rw [hs₃.1, hs₂.1, hs₁.1]
  have hel : e < hp.objs.size := Heap.lt_size he
  have ht₄ : h₄.get? hp.objs.size = some { cls := .type "tuple", data := .seq #[.int i tk, x] } := by rw [← hh₄, ← hsz]; exact Heap.get?_push_size _ rfl
  have hz₄ : h₄.objs.size = hp.objs.size + 1 := by rw [← hh₄, Heap.size_push, hsz]
  have hk₄ : ∀ b o, b ≠ e → b ≠ it → hp.get? b = some o → h₄.get? b = some o := fun b o hbe hbi hb => by
    rw [← hh₄]; exact Heap.get?_push_of_some _ (hs₃.extBut b o hbe (hs₂.extBut b o hbe (hs₁.extBut b o hbi hb)))
  have hit₄ : St (i + 1) h₄ := D.frame _ _ _ hit₁ fun b hb o y => by
    have hbe : b ≠ e := fun q => hef (q ▸ hb)
    rw [← hh₄]; exact Heap.get?_push_of_some _ (hs₃.extBut b o hbe (hs₂.extBut b o hbe y))
  show wpAny _ _ (Builtin.SmallTypes.ownedTupleIsFree (.ref e) >>= _) _ _ ⟨h₄, g, d, tk + 1, os⟩
  rw [hsz]
  clear hh₄ he₃ hs₃ he₂ hs₂ he₁ hs₁ hit₁ hsz h₃ h₂ h₁
  refine wpAny_bind (wpAny_tupleHeld_enum (s := ⟨h₄, g, d, tk + 1, os⟩) he₄ (hk₄ T oT hTe hTi hT) fun h₅ he₅ hs₅ => ?_)
  replace hs₅ : Heap.SameBut e h₄ h₅ := hs₅
  simp only [Bool.false_eq_true, if_false]
  refine wpAny_pure ⟨_, rfl, hQ x h₅ tk hPx he₅ (D.frame _ _ _ hit₄ fun b hb o y => hs₅.extBut b o (fun q => hef (q ▸ hb)) y) (hs₅.extBut _ _ (Nat.ne_of_gt hel) ht₄) ?_ fun b o hbe hbi hb => hs₅.extBut b o hbe (hk₄ b o hbe hbi hb)⟩
  show h₅.objs.size = hp.objs.size + 1
  rw [hs₅.1, hz₄]
theorem pyNext_enum_heldD {e it T : Addr} {fp : List Addr} {n i : Nat} {P : Nat → Value → Prop} {St : Nat → Heap → Prop} {old : Value} {f : Bool} {oT : Obj} {Q : Option Value → Shared → Prop}
    (D : Draws prog w A.in1 it fp n P St) (he : IsEnumHeld s.heap e it i old T f) (hT : s.heap.get? T = some oT) (hTe : T ≠ e) (hTi : T ≠ it) (hst : St i s.heap) (hlt : i < n) (hne : e ≠ it) (hef : e ∉ fp)
    (hQ : ∀ x h' tk, P i x → IsEnumHeld h' e it ((i : Int) + 1) old T true → St (i + 1) h' →
      h'.get? s.heap.objs.size = some { cls := .type "tuple", data := .seq #[.int i tk, x] } → h'.objs.size = s.heap.objs.size + 1 →
      (∀ b o, b ≠ e → b ≠ it → s.heap.get? b = some o → h'.get? b = some o) → Q (some (.ref s.heap.objs.size)) { s with heap := h', toks := tk + 1 }) :
    wpAny (model prog w) A (pyNext (.ref e)) Q E s := by
  have hTy : s.TypeIs (.ref e) "enumerate" := ⟨_, he, rfl⟩
  unfold pyNext
  exact wpAny_bind (wpAny_attempt (wpAny_callSpecial?_slot (name := Str.ofString "__next__") hTy F.slot_enumerate_next
    (wpAny_call_entry F.slot_enumerate_next hTy F.entry_enumerate_next
      (enum_next_heldD D he hT hTe hTi hst hlt hne hef fun x h' tk p a1 a2 a3 a4 a5 => wpAny_pure (hQ x h' tk p a1 a2 a3 a4 a5)) (F.args_enumerate_next_1 _))))
theorem pyNext_enum_endHeldD {e it T : Addr} {fp : List Addr} {n : Nat} {P : Nat → Value → Prop} {St : Nat → Heap → Prop} {i : Int} {old : Value} {f : Bool} {Q : Option Value → Shared → Prop}
    (D : Draws prog w A.in1 it fp n P St) (he : IsEnumHeld s.heap e it i old T f) (hst : St n s.heap)
    (hQ : ∀ h', Heap.ExtBut it s.heap h' → Q none { s with heap := h' }) : wpAny (model prog w) A (pyNext (.ref e)) Q E s := by
  have hTy : s.TypeIs (.ref e) "enumerate" := ⟨_, he, rfl⟩
  unfold pyNext
  refine wpAny_bind (wpAny_attempt (wpAny_callSpecial?_slot (name := Str.ofString "__next__") hTy F.slot_enumerate_next
    (wpAny_call_entry F.slot_enumerate_next hTy F.entry_enumerate_next ?_ (F.args_enumerate_next_1 _))))
  show wpAny _ _ (field (.ref e) 2 >>= _) _ _ _
  refine wpAny_bind (wpAny_field he rfl (x := .ref it) rfl ?_)
  refine wpAny_bind (D.done _ _ _ hst fun h' x he' hx' => ?_)
  obtain ⟨o, ho, hc⟩ := hx'
  refine wpAny_bind (wpAny_isInstance (T := "StopIteration") (b := true) ⟨o, ho, hc⟩ isSubtype_stop ?_)
  exact wpAny_pure (hQ _ he')
end
theorem pairArg_enumD {prog : Program} {w : World} (e it : Addr) (fp : List Addr) {n : Nat} {P : Nat → Value → Prop} {St : Nat → Heap → Prop} (hei : e ≠ it) (hef : e ∉ fp) (hif : it ∈ fp)
    (D : ∀ A : Around, A.handled = none → Draws prog w A it fp n P St) (hthere : ∀ h, St 0 h → ∀ b ∈ fp, ∃ o, h.get? b = some o) :
    PairArg prog w "enumerate" e (e :: fp) [e, it] n (fun i k v => (∃ t, k = .int i t) ∧ P i v) (fun h => (∃ old, IsEnum h e it 0 old) ∧ St 0 h) where
  type := fun s ok => let ⟨⟨_, he⟩, _⟩ := ok; ⟨_, he, rfl⟩
  notDict := by decide
  keep := fun h h' ok hk => by
    obtain ⟨⟨old, he⟩, hst⟩ := ok
    exact ⟨⟨old, hk _ _ he⟩, (D {} rfl).frame _ _ _ hst fun b _ o x => hk b o x⟩
  there := fun h ok b hb => by
    obtain ⟨⟨old, he⟩, hst⟩ := ok
    rcases List.mem_cons.mp hb with rfl | hb
    · exact ⟨_, he⟩
    · exact hthere h hst b hb
  sub := fun b hb => by
    rcases List.mem_cons.mp hb with rfl | hb
    · exact List.mem_cons_self
    · rw [List.mem_singleton.mp hb]; exact List.mem_cons_of_mem _ hif
  noKeys := fun A s Q E hA ok h => let ⟨⟨_, he⟩, _⟩ := ok; getAttrOr_miss_enumerate he rfl rfl rfl enumerate_no_keys (by decide +kernel) hA h
  iter := fun A s d Q E hA ok hd hdf h => by
    obtain ⟨⟨old, he⟩, hst⟩ := ok
    have de : d ≠ e := fun x => hdf (x ▸ List.mem_cons_self)
    have dfp : d ∉ fp := fun x => hdf (List.mem_cons_of_mem _ x)
    have dit : d ≠ it := fun x => dfp (x ▸ hif)
    refine wpAny_pyIter_enum he (h e [e, it] (fun i h => St i h ∧ ((∃ old, IsEnum h e it i old) ∨ ∃ old T f oT, IsEnumHeld h e it i old T f ∧ h.get? T = some oT ∧ T ≠ e ∧ T ≠ it ∧ T ≠ d)) s.heap s.toks ?_
      ⟨hst, .inl ⟨old, he⟩⟩ (fun _ _ e => e) fun b hb => .inl hb)
    exact {
      off := fun hm => by
        simp only [List.mem_cons, List.not_mem_nil, or_false] at hm
        rcases hm with x | x
        · exact de x
        · exact dit x
      frame := fun i h₁ h₂ st hk => by
        obtain ⟨hst, he⟩ := st
        refine ⟨(D A hA).frame _ _ _ hst fun b hb o x => hk b o (fun z => dfp (z ▸ hb)) x, ?_⟩
        rcases he with ⟨old, he⟩ | ⟨old, T, f, oT, he, hT, r1, r2, r3⟩
        · exact .inl ⟨old, hk _ _ (Ne.symm de) he⟩
        · exact .inr ⟨old, T, f, oT, hk _ _ (Ne.symm de) he, hk _ _ r3 hT, r1, r2, r3⟩
      item := fun i s₁ Q₁ E₁ hi st hds hQ => by
        obtain ⟨hst, he⟩ := st
        have ec : ((i + 1 : Nat) : Int) = (i : Int) + 1 := by omega
        have nit : s₁.heap.objs.size ≠ it := let ⟨_, x⟩ := (D A hA).live _ _ hst; Nat.ne_of_gt (Heap.lt_size x)
        rcases he with ⟨old, he⟩ | ⟨old, T, f, oT, he, hT, r1, r2, r3⟩
        · refine wpAny_pyNext_enum_itemD (D A.in1 hA) he hst hi hei hef fun x h' tk hP ho hs' hT hsz hk => ?_
          exact hQ s₁.heap.objs.size _ _ h' (tk + 1) ⟨⟨_, rfl⟩, hP⟩ (.inl ⟨_, hT, rfl, _, rfl⟩)
            ⟨hs', .inr ⟨_, s₁.heap.objs.size, false, _, (by rw [ec]; exact ho), hT, Nat.ne_of_gt (Heap.lt_size he), nit, Nat.ne_of_gt hds⟩⟩
            fun b o hb x => hk b o (fun y => hb (by simp [y])) (fun y => hb (by simp [y])) x
        · refine pyNext_enum_heldD (D A.in1 hA) he hT r1 r2 hst hi hei hef fun x h' tk hP ho hs' hT' hsz hk => ?_
          exact hQ s₁.heap.objs.size _ _ h' (tk + 1) ⟨⟨_, rfl⟩, hP⟩ (.inl ⟨_, hT', rfl, _, rfl⟩)
            ⟨hs', .inr ⟨old, T, true, oT, (by rw [ec]; exact ho), hk _ _ r1 r2 hT, r1, r2, r3⟩⟩
            fun b o hb x => hk b o (fun y => hb (by simp [y])) (fun y => hb (by simp [y])) x
      done := fun s₁ Q₁ E₁ st hQ => by
        obtain ⟨hst, he⟩ := st
        rcases he with ⟨old, he⟩ | ⟨old, T, f, oT, he, hT, r1, r2, r3⟩
        · exact wpAny_pyNext_enum_endD (D A.in1 hA) he hst fun h' hk => hQ h' s₁.toks fun b o hb x => hk b o (fun y => hb (by simp [y])) x
        · exact pyNext_enum_endHeldD (D A.in1 hA) he hst fun h' hk => hQ h' s₁.toks fun b o hb x => hk b o (fun y => hb (by simp [y])) x }
/-! ### as an expression over HandS -/
/-- the entries 0: x0, 1: x1, .. -/
def enK (k : Nat) : List V → List (Key × V)
  | [] => []
  | x :: xs => (.inl k, x) :: enK (k + 1) xs
def enW (k : Nat) : List Value → List (Key × Value)
  | [] => []
  | x :: xs => (.inl k, x) :: enW (k + 1) xs
theorem enK_len : ∀ {xs : List V} {k : Nat}, (enK k xs).length = xs.length
  | [], _ => rfl
  | _ :: xs, k => by simp [enK, enK_len (xs := xs)]
theorem enW_len : ∀ {xs : List Value} {k : Nat}, (enW k xs).length = xs.length
  | [], _ => rfl
  | _ :: xs, k => by simp [enW, enW_len (xs := xs)]
theorem enW_at : ∀ {xs : List Value} {k i : Nat} {v : Value}, xs[i]? = some v → (enW k xs)[i]? = some (.inl ((k + i : Nat) : Int), v)
  | _ :: xs, k, 0, v, h => by
    simp at h
    subst h
    rfl
  | _ :: xs, k, i + 1, v, h => by
    have := enW_at (xs := xs) (k := k + 1) (i := i) (v := v) (by simpa using h)
    rw [show k + 1 + i = k + (i + 1) by omega] at this
    exact this
theorem enK_rel : ∀ {xs : List V} {us : List Value} {k : Nat}, Vals xs us → KV (enK k xs) (enW k us)
  | _, _, _, .nil => .nil
  | _, _, _, .cons h t => .cons ⟨rfl, h⟩ (enK_rel t)
section
variable {X : Cx} {a : Expr} {ta : TE} {p p2 q pos : Pos}
def rDictEn (K : PySem.W.Frag) (b : Bool) : List V → Hp → VK → Prop := fun xs H Q => ∃ (l : Addr) (vs : List V), xs = [V.ref l] ∧ SrcK K b H l vs ∧ vs.length ≤ sizeLine ∧ ∀ p, H p = none → Q (.ref p) (upd H p (.dK (mergeK [] (enK 0 vs))))
theorem pe_dictEn (b : Bool) (hc : X.calm = true) (hg : Gl X "dict") (hm : X.mg "dict" = none) (hg2 : Gl X "enumerate") (hm2 : X.mg "enumerate" = none) (ha : PE X a ta)
    (na : starEach [a] X.env = (false, eval a X.env) :: starEach [] X.env := by rfl) (nb : starEach [.Call (.Name "enumerate" p2) [a] [] q] X.env = (false, eval (.Call (.Name "enumerate" p2) [a] [] q) X.env) :: starEach [] X.env := by rfl) :
    PE X (.Call (.Name "dict" p) [.Call (.Name "enumerate" p2) [a] [] q] [] pos) (fun σ H Q => ta σ H fun x H1 => rDictEn X.K b [x] H1 Q) := by
  refine ⟨fun pins s σ H Q I h => ?_⟩
  refine Call_ (ld_blt I hg hm boot_dict ?_)
  refine callWith_type1 (args_cons ?_ nb) nb rfl
  refine Call_ (ld_blt I hg2 hm2 boot_enumerate ?_)
  refine callWith_type1 (args_cons (thn (ha.run pins s σ H _ I h) fun v s1 ⟨x, H1, I1, r1, q1⟩ => args_nil ?_) na) na rfl
  obtain ⟨l, vs, ex, hq, hl, q1⟩ := q1
  cases ex
  cases r1
  obtain ⟨its, rv, p'⟩ := src_get I1 hq
  have go : ∀ h', IsEnum h' (s1.heap.objs.size + 1) s1.heap.objs.size 0 .none → itr b h' s1.heap.objs.size l 0 → h'.objs.size = s1.heap.objs.size + 2 → (∀ c o, s1.heap.get? c = some o → h'.get? c = some o) →
      wpAny (model X.prog X.w) X.A (call (.type "dict") [.ref (s1.heap.objs.size + 1)]) (EP X pins σ Q) X.xe { s1 with heap := h' } := fun h' he hi hsz hk => by
    have hlt : l < s1.heap.objs.size := by
      unfold sqn at p'
      split at p'
      all_goals
        obtain ⟨o, h, _⟩ := p'
        exact Heap.lt_size h
    have p2 : sqn b h' l its.toArray := by
      unfold sqn at p' ⊢
      split
      · rename_i e
        rw [if_pos e] at p'
        exact p'.at fun o x => hk l o x
      · rename_i e
        rw [if_neg e] at p'
        exact p'.at fun o x => hk l o x
    have PA := pairArg_enumD (prog := X.prog) (w := X.w) (s1.heap.objs.size + 1) s1.heap.objs.size [s1.heap.objs.size, l] (Nat.succ_ne_self _) (by
        intro z
        have z1 : s1.heap.objs.size + 1 = s1.heap.objs.size ∨ s1.heap.objs.size + 1 = l := by simpa using z
        exact z1.elim (fun z => absurd z (Nat.succ_ne_self _)) fun z => absurd hlt (by rw [← z]; exact Nat.not_lt.mpr (Nat.le_succ _))) (by simp)
      (fun A hh => draws_b b hh s1.heap.objs.size l (Nat.ne_of_lt hlt) its.toArray) (fun h st c hc => by
        rcases (show c = s1.heap.objs.size ∨ c = l by simpa using hc) with z | z
        · rw [z]
          obtain ⟨o, e, _⟩ := itr_obj st.1
          exact ⟨o, e⟩
        · rw [z]
          have st2 := st.2
          unfold sqn at st2
          split at st2
          all_goals
            obtain ⟨o, h, _⟩ := st2
            exact ⟨o, h⟩)
    have hn : its.toArray.size = its.length := List.size_toArray
    refine call_dict_pairs (knd := mixKind X.prog X.w) (kvs := enW 0 its) PA (I1.ok.hd hc) ⟨⟨.none, he⟩, hi, p2⟩ ⟨by rw [enW_len, hn], fun i key v ⟨⟨t, ek⟩, ev⟩ => ?_⟩ (by rw [hn, ← rv.length]; exact hl) fun h2 tk hd2 hk2 => ?_
    · have := enW_at (k := 0) (by simpa using ev)
      rw [Nat.zero_add] at this
      exact ⟨_, this, by rw [ek]; show decide _ = true; simp⟩
    · have hk3 : ∀ c o, s1.heap.get? c = some o → h2.get? c = some o := fun c o e => hk2 c o (fun z => by
        have := Heap.lt_size e
        rcases (show c = s1.heap.objs.size + 1 ∨ c = s1.heap.objs.size by simpa using z) with z | z
        · rw [z] at this; exact absurd this (Nat.not_lt.mpr (Nat.le_succ _))
        · rw [z] at this; exact absurd this (Nat.lt_irrefl _)) (hk c o e)
      have hS : s1.heap.objs.size ≤ h'.objs.size := by omega
      have hm : (h'.objs.size == sysModules) = false := beq_eq_false_iff_ne.mpr (Nat.ne_of_gt (Nat.lt_of_lt_of_le I1.big hS))
      have hlen : (mergeK [] (enK 0 vs)).length ≤ sizeLine := by
        refine Nat.le_trans (length_mergeK (enK 0 vs) []) ?_
        rw [List.length_nil, Nat.zero_add, enK_len]
        exact hl
      exact ⟨.ref h'.objs.size, upd H1 h'.objs.size (.dK (mergeK [] (enK 0 vs))), I1.laid (t' := tk) hk3 hS (show ObjOk X.prog X.w _ _ _ (.dK (mergeK [] (enK 0 vs))) from ⟨hlen, hm, merged [] (enW 0 its), KV.merge (enK_rel rv) .nil, hd2⟩), rfl, q1 _ (I1.hok.fresh hS)⟩
  cases b with
  | true => exact call_enumerate_list p' fun h' he hi hz hk => args_nil (go h' he hi hz hk)
  | false => exact call_enum_tup p' fun h' he hi hz hk => args_nil (go h' he hi hz hk)
end
/-! ### as an expression over trees -/
def enKs (k n : Nat) : List Key := (List.range n).map fun i => .inl ((k + i : Nat) : Int)
theorem enK_keys : ∀ {xs : List V} {k : Nat}, (enK k xs).map (·.1) = enKs k xs.length
  | [], _ => rfl
  | x :: xs, k => by
    have h := enK_keys (xs := xs) (k := k + 1)
    unfold enKs at h ⊢
    rw [List.length_cons, List.range_succ_eq_map]
    simp only [enK, List.map_cons, h, List.map_map]
    rw [List.cons.injEq]
    refine ⟨rfl, List.map_congr_left fun i _ => ?_⟩
    show (Sum.inl _ : Key) = Sum.inl _
    congr 2
    omega
theorem enK_vals : ∀ {xs : List V} {k : Nat}, (enK k xs).map (·.2) = xs
  | [], _ => rfl
  | x :: xs, k => by simp [enK, enK_vals (xs := xs)]
theorem merge_en : ∀ {xs : List V} {k : Nat} {acc : List (Key × V)}, (∀ kv ∈ acc, ∃ i : Nat, kv.1 = .inl (i : Int) ∧ i < k) → mergeK acc (enK k xs) = acc ++ enK k xs
  | [], _, acc, _ => by simp [mergeK, enK]
  | x :: xs, k, acc, h => by
    have hno : (acc.any fun kv => decide (kv.1 = (.inl (k : Int) : Key))) = false := by
      rw [List.any_eq_false]
      intro kv hkv
      obtain ⟨i, e, hi⟩ := h kv hkv
      rw [e]
      simp
      omega
    have e : putK acc (.inl (k : Int)) x = acc ++ [(.inl (k : Int), x)] := by
      unfold putK
      rw [hno]
      rfl
    have := merge_en (xs := xs) (k := k + 1) (acc := acc ++ [(.inl (k : Int), x)]) fun kv hkv => by
      rcases List.mem_append.mp hkv with q | q
      · obtain ⟨i, e, hi⟩ := h kv q
        exact ⟨i, e, by omega⟩
      · rw [List.mem_singleton.mp q]
        exact ⟨k, rfl, by omega⟩
    show mergeK (putK acc (.inl (k : Int)) x) (enK (k + 1) xs) = _
    rw [e, this, List.append_assoc]
    rfl
section
variable {X : Cx} {B : Bs} {e : Expr} {te : TTE} {p p2 q pos : Pos}
def dictEnT (b : Bool) : C1 := fun t k => match t, b with
  | .tup ts, false => k true (.dct (enKs 0 ts.length) ts)
  | .lst ts, true => k true (.dct (enKs 0 ts.length) ts)
  | _, _ => False
theorem z_dictEnF {ts : List T} {k} : dictEnT false (.tup ts) k = k true (.dct (enKs 0 ts.length) ts) := rf rfl
theorem z_dictEnT {ts : List T} {k} : dictEnT true (.lst ts) k = k true (.dct (enKs 0 ts.length) ts) := rf rfl
theorem tpe_dictEn (b : Bool) (hc : X.calm = true) (hg : Gl X "dict") (hm : X.mg "dict" = none) (hg2 : Gl X "enumerate") (hm2 : X.mg "enumerate" = none) (he : TPE X B e te)
    (na : starEach [e] X.env = (false, eval e X.env) :: starEach [] X.env := by rfl) (nb : starEach [.Call (.Name "enumerate" p2) [e] [] q] X.env = (false, eval (.Call (.Name "enumerate" p2) [e] [] q) X.env) :: starEach [] X.env := by rfl) :
    TPE X B (.Call (.Name "dict" p) [.Call (.Name "enumerate" p2) [e] [] q] [] pos) (ttC1 (dictEnT b) te) :=
  ⟨PE.imp (pe_dictEn b hc hg hm hg2 hm2 he.pe na nb) fun σ H Q h => by
    refine c1_imp (r := rDictEn X.K b) (fun F H x t G Q s r hg k => ?_) σ H Q h
    have fin : ∀ {ts : List T} {a : Addr} {vs : List V}, x = .ref a → SrcK X.K b H a vs → vs.length ≤ sizeLine → Reps X.K F ts vs → G true (.dct (enKs 0 ts.length) ts) → rDictEn X.K b [x] H Q := by
      intro ts a vs ex hd z rp hg
      subst ex
      refine ⟨a, vs, rfl, hd, z, fun p np => ?_⟩
      rw [merge_en (acc := []) (fun _ z => by cases z), List.nil_append]
      refine k true _ _ _ _ hg (Grow.own s np) ⟨p, rfl, np, s.free np, _, upd_same, ?_, ?_, ?_⟩
      · rw [enK_len]; exact z
      · rw [enK_keys, Reps.len rp]
      · rw [enK_vals]; exact rp
    cases t with
    | tup ts =>
      cases b with
      | false =>
        obtain ⟨a, vs, rfl, hd, z, rp⟩ := r.tup
        exact fin rfl (SqT.mono s hd) z rp hg
      | true => cases hg
    | lst ts =>
      cases b with
      | true =>
        obtain ⟨a, vs, rfl, hd, z, rp⟩ := r.lst s
        exact fin rfl (SqL.of hd) z rp hg
      | false => cases hg
    | non | bl _ | int _ | str _ | dct _ _ | scr _ | oth _ | ins _ _ | bdt _ _ => cases b <;> exact (show False from hg).elim⟩
end
end TL

namespace TL
open PySem PySem.Spec PyProof.Rows L2
/-! ### tuple(range(a, b, c)) -/
def rgCI (i c : Int) (n : Nat) : List Int := (List.range n).map fun k => i + (k : Nat) * c
theorem vals_rgC {i c : Int} {n : Nat} {acc : Array Value} (h : ItemsOf (fun k v => ∃ t, v = .int (i + k * c) t) acc n) : Vals ((rgCI i c n).map V.int) acc.toList := by
  have e : acc.toList.length = n := by rw [Array.length_toList]; exact h.1
  unfold rgCI
  rw [List.map_map, ← e]
  refine vals_of_get acc.toList _ fun j u hj => ?_
  obtain ⟨t, rfl⟩ := h.2 j u (by rw [← hj, Array.getElem?_toList])
  exact ⟨t, rfl⟩
section
variable {X : Cx} {a b c e : Expr} {ta : TA} {p p2 q pos : Pos}
def tTupRgC (n : Nat) (ta : TA) : TE := fun σ H Q => ta σ H fun vs H1 => ∃ (i j k : Int), vs = [.int i, .int j, .int k] ∧ (RgC i j k n ∧ n ≤ 1000) ∧ ∀ q, H1 q = none → Q (.ref q) (upd H1 q (.tup ((rgCI i k n).map V.int)))
theorem pe_tupRgC (n : Nat) (hc : X.calm = true) (hg : Gl X "tuple") (hm : X.mg "tuple" = none) (hg2 : Gl X "range") (hm2 : X.mg "range" = none) (ha : PA X [a, b, c] ta)
    (hs : starEach [a, b, c] X.env = (false, eval a X.env) :: starEach [b, c] X.env := by rfl) (hpl : (backTo q (starEach [b, c] X.env)).any (·.1) = false := by rfl)
    (na : starEach [.Call (.Name "range" p2) [a, b, c] [] q] X.env = (false, eval (.Call (.Name "range" p2) [a, b, c] [] q) X.env) :: starEach [] X.env := by rfl) :
    PE X (.Call (.Name "tuple" p) [.Call (.Name "range" p2) [a, b, c] [] q] [] pos) (tTupRgC n ta) := by
  refine ⟨fun pins s σ H Q I h => ?_⟩
  refine Call_ (ld_blt I hg hm boot_tuple ?_)
  refine callWith_type1 (args_cons ?_ na) na rfl
  refine Call_ (ld_blt I hg2 hm2 boot_range (PyProof.Rows.callWith_type1 (thn (ha.run q pins s σ H _ I h) fun us s1 ⟨vs, H1, I1, r1, q1⟩ => ?_) hs hpl))
  obtain ⟨i, j, k, ev, ⟨⟨c0, c1, c2, c3⟩, hn⟩, q1⟩ := q1
  subst ev
  cases r1 with
  | cons r rr =>
    cases rr with
    | cons r' rr =>
      cases rr with
      | cons r'' rr =>
        cases rr
        obtain ⟨t, rfl⟩ := r
        obtain ⟨t', rfl⟩ := r'
        obtain ⟨t'', rfl⟩ := r''
        refine call_range_3 c0 ?_ (.inl (PyProof.noPylong_small c1))
        refine args_nil ?_
        have I2 : Inv X pins σ H1 { s1 with heap := s1.heap.push { cls := .type "range", data := .fields #[.int i t, .int j t', .int k t''] } } := I1.kept (t' := s1.toks) fun b o e => Heap.get?_push_of_some _ e
        refine call_tuple_range (n := n) (I2.ok.hd hc) (IsRange.new ..) c2 c3 (by omega) fun h' tk acc hk hi => ?_
        have I3 : Inv X pins σ H1 { s1 with heap := h', toks := tk } := I2.kept hk
        refine ⟨.ref h'.objs.size, upd H1 h'.objs.size (.tup ((rgCI i k n).map V.int)), I3.laid (t' := tk) (fun c o e => Heap.get?_push_of_some _ e) (Nat.le_refl _) (show ObjOk X.prog X.w _ _ _ (.tup ((rgCI i k n).map V.int)) from ⟨?_, acc.toList, vals_rgC hi, ?_⟩), rfl, q1 _ (I3.hok.fresh (Nat.le_refl _))⟩
        · rw [List.length_map, rgCI, List.length_map, List.length_range, sizeLine_eq]; omega
        · rw [Array.toArray_toList]; exact IsTup.new _ _
end
section
variable {X : Cx} {B : Bs} {a b c : Expr} {tl : TTL} {p p2 q pos : Pos}
def r3C (n : Nat) (ts : List T) (τ : TSt) (P : R → TSt → Prop) : Prop := match ts with
  | [.int i, .int j, .int k] => (RgC i j k n ∧ n ≤ 1000) ∧ P (.val false (.tup ((rgCI i k n).map T.int))) τ
  | _ => False
def ttTRgC (n : Nat) (tl : TTL) : TTE := fun τ P => tl τ fun ts τ1 => r3C n ts τ1 P
theorem r3C_i {n : Nat} {i j k : Int} {τ : TSt} {P : R → TSt → Prop} : r3C n [.int i, .int j, .int k] τ P = ((RgC i j k n ∧ n ≤ 1000) ∧ P (.val false (.tup ((rgCI i k n).map T.int))) τ) := rf rfl
theorem z_trgC {n : Nat} {τ : TSt} {P : R → TSt → Prop} : ttTRgC n tl τ P = tl τ (@box _ ⟨fun ts τ1 => r3C n ts τ1 P⟩) := rf rfl
theorem tpe_trgC (n : Nat) (hc : X.calm = true) (hg : Gl X "tuple") (hm : X.mg "tuple" = none) (hg2 : Gl X "range") (hm2 : X.mg "range" = none) (ha : TPL X B [a, b, c] tl)
    (hs : starEach [a, b, c] X.env = (false, eval a X.env) :: starEach [b, c] X.env := by rfl) (hpl : (backTo q (starEach [b, c] X.env)).any (·.1) = false := by rfl)
    (na : starEach [.Call (.Name "range" p2) [a, b, c] [] q] X.env = (false, eval (.Call (.Name "range" p2) [a, b, c] [] q) X.env) :: starEach [] X.env := by rfl) :
    TPE X B (.Call (.Name "tuple" p) [.Call (.Name "range" p2) [a, b, c] [] q] [] pos) (ttTRgC n tl) := by
  refine ⟨PE.imp (pe_tupRgC n hc hg hm hg2 hm2 ha.pa hs hpl na) fun σ H Q h => ?_⟩
  obtain ⟨F, τ, P, I, ht, hq⟩ := h
  refine ⟨F, τ, _, I, ht, fun ts τ1 F1 H1 vs h1 I1 s1 r1 => ?_⟩
  unfold r3C at h1
  match ts, h1 with
  | [.int i, .int j, .int k], ⟨ok, hp⟩ =>
    obtain ⟨v, r, rfl, e1, v2, r2, rfl, e2, v3, r3, rfl, e3, e4⟩ := r1
    cases e1
    cases e2
    cases e3
    cases e4
    refine ⟨i, j, k, rfl, ok, fun q nq => ?_⟩
    have g : Grow F1 H1 (upd F1 q (.tup ((rgCI i k n).map V.int))) (upd H1 q (.tup ((rgCI i k n).map V.int))) := Grow.frz I1.wf.sub nq
    have hl : ((rgCI i k n).map V.int).length ≤ sizeLine := by
      rw [List.length_map, rgCI, List.length_map, List.length_range, sizeLine_eq]
      omega
    obtain ⟨rr, fr⟩ := RG.rr (v := .ref q) (k := false) (t := .tup ((rgCI i k n).map T.int)) I1.wf g ⟨q, (rgCI i k n).map V.int, rfl, .inl (.inl upd_same), hl, Reps.ints.mpr rfl⟩
    exact hq _ _ _ _ _ hp (I1.step (g.wf I1.wf) g.step) (s1.trans g.step) rr trivial
end
end TL

namespace TL
open PySem PySem.Spec PyProof.Rows L2
open PySem.SeqAt
open PySem.MeetsSeq PySem.MeetsSeq2 PySem.MeetsSeq3
/-! ### x[a:c] = another list, a and c anywhere behind the front -/
theorem bounds_clip {a c n : Nat} : sliceBounds (some (a : Int)) (some (c : Int)) none n = (((min a n : Nat) : Int), ((min c n : Nat) : Int), 1) := by
  simp only [sliceBounds, Option.getD_none]
  have h1 : ¬ ((a : Int) < 0) := by omega
  have h2 : ¬ ((c : Int) < 0) := by omega
  simp only [h1, h2, if_false, show (1 : Int) > 0 by decide, if_true]
  congr 1
  · omega
  · congr 1; omega
section
variable {prog : Program} {w : World} {A : Around} {E : Value → Shared → Prop} {s : Shared}
theorem setItem_cut {l b sl : Addr} {items new : Array Value} {n n2 : Nat} {vl vu : Value} {a c : Nat} {Q : Unit → Shared → Prop}
    (e : s.heap.get? l = some { cls := .type "list", data := .seq items n }) (e2 : s.heap.get? b = some { cls := .type "list", data := .seq new n2 }) (hne : l ≠ b)
    (hs : s.heap.IsSliceOf sl vl vu .none) (pl : IsPart vl (some (a : Int))) (pu : IsPart vu (some (c : Int))) (hac : a ≤ c)
    (hsz : items.size + new.size ≤ sizeLine) (h : Q () { s with heap := s.heap.update l (Obj.mapSeq fun xs => xs.extract 0 (min a items.size) ++ new ++ xs.extract (min c items.size) xs.size) }) :
    wpAny (model prog w) A (setItem (.ref l) (.ref sl) (.ref b)) Q E s := by
  have hl : s.heap.IsList l items := PySem.IsL.isList e
  have hb : s.heap.IsList b new := PySem.IsL.isList e2
  obtain ⟨os, hos, hcs, hds⟩ := id hs
  have hTs : s.TypeIs (.ref sl) "slice" := ⟨os, hos, hcs⟩
  have hstep : ¬ ((rawPart none == rawInt 0) = true) := Bool.false_ne_true
  have hsame : Builtin.List.listSameRef (.ref l) (.ref b) = false := by
    unfold Builtin.List.listSameRef
    exact beq_eq_false_iff_ne.mpr hne
  have hmax : (max ((min a items.size : Nat) : Int) ((min c items.size : Nat) : Int)).toNat = min c items.size := by omega
  have hz' : ((fun xs : Array Value => xs.extract 0 (min a items.size) ++ new ++ xs.extract (min c items.size) xs.size) items).size ≤ sizeLine + 1 := by
    simp only [Array.size_append, Array.size_extract]
    omega
  unfold setItem
  try with_reducible refine wpAny_holding ?_
  first | refine wpAny_bind (wpAny_pure ?_) | skip
  refine wpAny_bind (wpAny_sequenceKey hl.typeIs (by decide) ?_)
  refine wpAny_bind (wpAny_callSpecial?_slot (name := Str.ofString "__setitem__") hl.typeIs slot_list_setitem
    (wpAny_call_entry slot_list_setitem hl.typeIs entry_list_setitem ?_ (args_list_setitem _ _ _)))
  show wpAny _ _ (Builtin.List.listSubscript? (.ref sl) >>= _) _ _ s
  refine wpAny_bind ?_
  unfold Builtin.List.listSubscript?
  refine wpAny_bind (wpAny_specialOf hTs slice_no_index ?_)
  simp only [Option.isNone_none, if_true]
  refine wpAny_pure ?_
  show wpAny _ _ (typeOf (.ref sl) >>= _) _ _ s
  refine wpAny_bind (wpAny_typeOf hTs ?_)
  first
    | rw [if_neg (by decide)]
    | refine PySem.W.KFB.if_not (by decide) ?_
  rw [listSliceParts_eq]
  refine wpAny_bind (wpAny_bind (wpAny_field hos hds (x := .none) rfl (wpAny_bind (wpAny_listPart .none ?_))))
  rw [if_neg hstep]
  refine wpAny_bind (wpAny_field hos hds (x := vl) rfl (wpAny_bind (wpAny_listPart pl ?_)))
  refine wpAny_bind (wpAny_field hos hds (x := vu) rfl (wpAny_bind (wpAny_listPart pu (wpAny_pure ?_))))
  first
    | simp only [hsame, Bool.false_eq_true, if_false]
    | refine PySem.W.KFB.if_not hsame ?_
    | (dsimp only
       rw [if_neg (by rw [hsame]; exact Bool.false_ne_true)])
  refine wpAny_bind (m := Builtin.List.listAllItems (.ref b) "must assign iterable to extended slice") ?_
  unfold Builtin.List.listAllItems
  refine wpAny_bind (wpAny_typeOf hb.typeIs ?_)
  first
    | refine PySem.W.KFB.if_so (by decide) ?_
    | rw [if_pos (by decide)]
    | simp only [beq_self_eq_true, Bool.true_or, if_true]
  unfold Builtin.List.listItems
  refine wpAny_bind (wpAny_seqItems e2 rfl (wpAny_pure ?_))
  refine wpAny_bind (wpAny_bind (wpAny_seqItems e rfl (wpAny_pure ?_)))
  refine wpAny_bind (wpAny_of_eq ((sliceIndices_raw (some (a : Int)) (some (c : Int)) none items.size (by simp)).trans (congrArg (pure : Int × Int × Int → Sem (Int × Int × Int)) bounds_clip)) ?_)
  show wpAny _ _ (if ((1 : Int) == 1) = true then _ else _) _ _ s
  rw [if_pos (by decide)]
  refine wpAny_bind (wpAny_rule ?_)
  first
    | simp only [notLongL hsz, Bool.false_eq_true, if_false]
    | refine PySem.W.KFB.if_not (notLongL hsz) ?_
  first | refine wpAny_bind (wpAny_pure ?_) | skip
  show wpAny _ _ (updateSeq l (fun xs => xs.extract 0 (((min a items.size : Nat) : Int)).toNat ++ new ++ xs.extract (max ((min a items.size : Nat) : Int) ((min c items.size : Nat) : Int)).toNat xs.size) >>= _) _ _ s
  rw [hmax, Int.toNat_natCast]
  refine wpAny_bind (wpAny_updateSeq (hz := Nat.le_trans (Nat.le_add_right _ _) hsz) (_hz' := hz') e rfl ?_)
  refine wpAny_bind (wpAny_letGo ?_)
  first
    | exact wpAny_bind (wpAny_pure (wpAny_pure ⟨.none, rfl, wpAny_pure h⟩))
    | exact wpAny_pure ⟨.none, rfl, wpAny_pure h⟩
end
section
variable {X : Cx}
theorem splice_clip (its its2 : List Value) (a c : Nat) : its.toArray.extract 0 (min a its.toArray.size) ++ its2.toArray ++ its.toArray.extract (min c its.toArray.size) its.toArray.size = (its.take a ++ its2 ++ its.drop c).toArray := by
  rw [splice_eq]
  rw [List.size_toArray]
  have e1 : its.take (min a its.length) = its.take a := by
    rcases Nat.le_total a its.length with h | h
    · rw [Nat.min_eq_left h]
    · rw [Nat.min_eq_right h, List.take_of_length_le (Nat.le_refl _), List.take_of_length_le h]
  have e2 : its.drop (min c its.length) = its.drop c := by
    rcases Nat.le_total c its.length with h | h
    · rw [Nat.min_eq_left h]
    · rw [Nat.min_eq_right h, List.drop_of_length_le (Nat.le_refl _), List.drop_of_length_le h]
  rw [e1, e2]
theorem set_cut {pins : List (Addr × Obj)} {s : Shared} {σ : L2.St} {H : Hp} {l b sl : Addr} {xs ys : List V} {a c : Int} {vl vu : Value} {Q : Unit → Shared → Prop} (I : Inv X pins σ H s)
    (hH : H l = some (.lst xs)) (hB : H b = some (.lst ys)) (hne : l ≠ b) (hs : s.heap.IsSliceOf sl vl vu .none) (ra : RelV (.int a) vl) (rc : RelV (.int c) vu) (h0 : 0 ≤ a) (hac : a ≤ c)
    (hz : xs.length + ys.length ≤ sizeLine) (h : ∀ s', Inv X pins σ (upd H l (.lst (xs.take a.toNat ++ ys ++ xs.drop c.toNat))) s' → Q () s') :
    wpAny (model X.prog X.w) X.A (setItem (.ref l) (.ref sl) (.ref b)) Q X.xe s := by
  obtain ⟨ta, rfl⟩ := ra
  obtain ⟨tc, rfl⟩ := rc
  obtain ⟨z, its, n, r, hl, e⟩ := I.lstM hH
  obtain ⟨z2, its2, n2, r2, hl2, e2⟩ := I.lstM hB
  obtain ⟨a', rfl⟩ := Int.eq_ofNat_of_zero_le h0
  obtain ⟨c', rfl⟩ := Int.eq_ofNat_of_zero_le (Int.le_trans h0 hac)
  simp only [Int.toNat_natCast] at h
  refine setItem_cut (a := a') (c := c') e e2 hne hs (.int _ _) (.int _ _) (by omega) (by rw [List.size_toArray, List.size_toArray]; omega) (h _ ?_)
  refine I.lset (its' := its.take a' ++ its2 ++ its.drop c') (t' := s.toks) hH e ?_ (Vals.append (Vals.append (r.take _) r2) (r.drop _)) ?_
  · exact splice_clip its its2 a' c'
  · rw [List.length_append, List.length_append, List.length_take, List.length_drop]
    omega
/-- x[a:c] as a target -/
def gCut (to tl th : TE) : TG := fun v σ H Q => to σ H fun o H1 => tl σ H1 fun x H2 => th σ H2 fun y H3 => ∃ (l b : Addr) (xs ys : List V) (a c : Int), o = .ref l ∧ v = .ref b ∧ x = .int a ∧ y = .int c ∧
  H3 l = some (.lst xs) ∧ H3 b = some (.lst ys) ∧ l ≠ b ∧ 0 ≤ a ∧ a ≤ c ∧ xs.length + ys.length ≤ sizeLine ∧ Q σ (upd H3 l (.lst (xs.take a.toNat ++ ys ++ xs.drop c.toNat)))
theorem pg_cut {o lo hi : Expr} {to tl th : TE} {p2 pos : Pos} (ho : PE X o to) (hl : PE X lo tl) (hh : PE X hi th)
    (ha : ∀ v, assign (.Subscript o (.Slice (some lo) (some hi) none p2) pos) X.env v = (do
      let ov ← holding [v] (eval o X.env)
      let iv ← holding [v, ov] (eval (.Slice (some lo) (some hi) none p2) X.env)
      standAt pos
      holding [v, ov, iv] (setItem ov iv v)
      release [iv, v, ov] []) := by intro _; rfl) : PG X (.Subscript o (.Slice (some lo) (some hi) none p2) pos) (gCut to tl th) := by
  refine ⟨fun pins s σ H v u Q I r h => ?_⟩
  rw [ha]
  refine wpAny_bind (wpAny_holding (thn (ho.run pins s σ H _ I h) fun ov s1 ⟨x, H1, I1, r1, q1⟩ => ?_))
  refine wpAny_bind (wpAny_holding ?_)
  refine wpAny_Slice ?_
  rw [evalPart_some]
  refine thn (hl.run pins s1 σ H1 _ I1 q1) fun vl s2 ⟨y, H2, I2, r2, q2⟩ => ?_
  rw [evalPart_some]
  refine thn (hh.run pins s2 σ H2 _ I2 q2) fun vu s3 ⟨z, H3, I3, r3, q3⟩ => ?_
  rw [evalPart_none]
  refine wpAny_pure ?_
  obtain ⟨l, b, xs, ys, a, c, rfl, rfl, rfl, rfl, e1, e2, ne, h0, hac, hz, q⟩ := q3
  cases r1
  cases r
  have I4 : Inv X pins σ H3 { s3 with heap := s3.heap.push { cls := .type "slice", data := .fields #[vl, vu, .none] } } := I3.kept (t' := s3.toks) fun b ob q => Heap.get?_push_of_some _ q
  refine wpAny_bind (wpAny_standAt (wpAny_bind (wpAny_holding (set_cut I4 e1 e2 ne (Heap.IsSliceOf.new ..) r2 r3 h0 hac hz fun s' I5 => ?_))))
  exact wpAny_release ⟨σ, _, I5, q⟩
end
/-! ### as a statement over trees -/
def cutG (c a b v : T) (P : T → Prop) : Prop := match c, a, b, v with
  | .lst ts, .int i, .int j, .lst us => (0 ≤ i ∧ i ≤ j ∧ ts.length + us.length ≤ sizeLine) ∧ P (.lst (ts.take i.toNat ++ us ++ ts.drop j.toNat))
  | _, _, _, _ => False
theorem q_cutG {ts us : List T} {i j : Int} {P : T → Prop} : cutG (.lst ts) (.int i) (.int j) (.lst us) P = ((0 ≤ i ∧ i ≤ j ∧ ts.length + us.length ≤ sizeLine) ∧ P (.lst (ts.take i.toNat ++ us ++ ts.drop j.toNat))) := rf rfl
def sxCut (o : Option (Option Sl)) (τ : TSt) (i : Nat) (a b v : T) (P : TSt → Prop) : Prop := match o with
  | some (some ⟨.own, false, c⟩) => cutG c a b v fun c' => P (τ.set i (some ⟨.own, false, c'⟩))
  | _ => False
theorem sxCut_o {τ : TSt} {i : Nat} {c a b v : T} {P : TSt → Prop} : sxCut (some (some ⟨.own, false, c⟩)) τ i a b v P = cutG c a b v (@box _ ⟨fun c' => P (τ.set i (some ⟨.own, false, c'⟩))⟩) := rf rfl
theorem sxCut_inv {τ : TSt} {i : Nat} {a b v : T} {P : TSt → Prop} (h : sxCut τ[i]? τ i a b v P) : ∃ c, τ[i]? = some (some ⟨.own, false, c⟩) ∧ cutG c a b v fun c' => P (τ.set i (some ⟨.own, false, c'⟩)) := by
  unfold sxCut at h
  split at h
  · rename_i c e
    exact ⟨c, e, h⟩
  · exact h.elim
section
variable {X : Cx} {B : Bs} {te tl th : TTE} {i : Nat} {D : TEnds} {τ : TSt}
def ttSetCut (i : Nat) (te tl th : TTE) : TTS := fun D τ => te τ fun r τ1 => frzR r τ1 fun t τ2 => (∃ s, τ2[i]? = some (some s)) ∧ tl τ2 fun ra τ3 => th τ3 fun rb τ4 => sxCut τ4[i]? τ4 i (ra.t τ4) (rb.t τ4) t D.nx
theorem z_setCut : ttSetCut i te tl th D τ = te τ (@box _ ⟨fun r τ1 => frzR r τ1 (@box _ ⟨fun t τ2 => (∃ s, τ2[i]? = some (some s)) ∧ tl τ2 (@box _ ⟨fun ra τ3 => th τ3 (@box _ ⟨fun rb τ4 => sxCut τ4[i]? τ4 i (ra.t τ4) (rb.t τ4) t D.nx⟩)⟩)⟩)⟩) := rf rfl
theorem tps_setCut {x : Str} {e lo hi : Expr} {p0 p1 p2 pos : Pos} (hN : X.N[i]? = some x) (hv : Vis X.env.scope x) (he : TPE X B e te) (hl : TPE X B lo tl) (hh : TPE X B hi th)
    (hd : (x == ("__debug__" : Str)) = false := by decide) (hcd : (x == ("__classdict__" : Str)) = false := by decide)
    (ha : ∀ v, assign (.Subscript (.Name x p0) (.Slice (some lo) (some hi) none p2) p1) X.env v = (do
      let ov ← holding [v] (eval (.Name x p0) X.env)
      let iv ← holding [v, ov] (eval (.Slice (some lo) (some hi) none p2) X.env)
      standAt p1
      holding [v, ov, iv] (setItem ov iv v)
      release [iv, v, ov] []) := by intro _; rfl)
    (hs : swapsWithSole [.Subscript (.Name x p0) (.Slice (some lo) (some hi) none p2) p1] e pos.line X.env = pure false := by rfl) (hw : swappedStores [.Subscript (.Name x p0) (.Slice (some lo) (some hi) none p2) p1] e X.env = pure none := by rfl)
    (h1 : (assignEach [.Subscript (.Name x p0) (.Slice (some lo) (some hi) none p2) p1] X.env).map (·.2) = [assign (.Subscript (.Name x p0) (.Slice (some lo) (some hi) none p2) p1) X.env] := by rfl) : TPS X B (.Assign [.Subscript (.Name x p0) (.Slice (some lo) (some hi) none p2) p1] e pos) (ttSetCut i te tl th) := by
  refine ⟨PS.imp (ps_asg he.pe (pg_cut (tpe_v (B := B) i (pos := p0) hN hv hd hcd).pe hl.pe hh.pe ha) hs hw h1) fun D σ H h => ?_⟩
  obtain ⟨F, τ, TD, I, h, ok⟩ := h
  refine lift.go I h fun r τ1 F1 H1 v h1 I1 s1 r1 f1 => ?_
  obtain ⟨t, τ2, F2, ⟨⟨s, hs⟩, h2⟩, I2, s2, rep, _⟩ := freeze I I1 s1 r1 f1 h1
  refine lift.go I2 (P := fun r τ3 => r = .var i ∧ τ3 = τ2) ⟨⟨s, hs⟩, rfl, rfl⟩ fun r τ3 F3 H3 o ⟨er, et⟩ I3 s3 r3 f3 => ?_
  subst er et
  refine lift.go I3 h2 fun ra τ4 F4 H4 ka h4 I4 s4 r4 f4 => ?_
  refine lift.go I4 h4 fun rb τ5 F5 H5 kb h5 I5 s5 r5 f5 => ?_
  obtain ⟨c, hc, h6⟩ := sxCut_inv h5
  have rka := (r4.step s5).rd I5.wf
  have rkb := r5.rd I5.wf
  obtain ⟨a, ea, n, ow⟩ := I5.wf.own i .own false c hc (by simp)
  have eo : o = .ref a := by
    have := r3.1
    rw [ea] at this
    cases this
    rfl
  subst eo
  have rv : Rep X.K F5 t v := Rep.mono ((s3.sub.trans s4.sub).trans s5.sub) _ _ rep
  generalize ra.t τ5 = ta at h6 rka
  generalize rb.t τ5 = tb at h6 rkb
  cases c with
  | lst ts =>
    cases ta with
    | int j =>
      cases tb with
      | int k =>
        cases t with
        | lst us =>
          obtain ⟨⟨j0, jk, hz⟩, q⟩ := h6
          obtain ⟨vs, hl, z, rp⟩ := ow
          obtain ⟨b, ws, rfl, hb, zb, rb'⟩ := rv
          have ne : a ≠ b := fun e => by
            subst e
            rw [n] at hb
            cases hb
          refine ⟨a, b, vs, ws, j, k, rfl, rfl, rka.int, rkb.int, hl, I5.wf.sub _ _ hb, ne, j0, jk, by rw [← rp.len, ← rb'.len]; exact hz, ?_⟩
          obtain ⟨I6, s6⟩ := mut_ok (t' := .lst (ts.take j.toNat ++ us ++ ts.drop k.toNat)) I5 hc (by simp) ea ⟨_, upd_same, by
            have := rp.len
            have := rb'.len
            rw [List.length_append, List.length_append, List.length_take, List.length_drop]
            omega, Reps.append (Reps.append (Reps.take _ rp) rb') (Reps.drop _ rp)⟩
          exact ok.nx _ _ _ _ I6 ((((s2.trans s3).trans s4).trans s5).trans s6).ss q
        | _ => exact h6.elim
      | _ => exact h6.elim
    | _ => exact h6.elim
  | _ => exact h6.elim
end
end TL

/-! ### in range(a, b) as a test -/
namespace TL
open PySem PySem.Spec PyProof.Rows L2
section
variable {X : Cx} {B : Bs} {e a b c : Expr} {te ta tb tc : TTE} {p pos cpos : Pos}
theorem tpt_inRg (hg : Gl X "range") (hm : X.mg "range" = none) (hc : TPE X B c tc) (ha : TPE X B a ta) (hb : TPE X B b tb)
    (na : starEach [a, b] X.env = (false, eval a X.env) :: starEach [b] X.env := by rfl) (nb : starEach [b] X.env = (false, eval b X.env) :: starEach [] X.env := by rfl) (hpl : (backTo pos (starEach [b] X.env)).any (·.1) = false := by rfl)
    (hmk : behindInMarks .In (.Call (.Name "range" p) [a, b] [] pos) = false := by rfl) : TPT X B (.Compare c [.In] [.Call (.Name "range" p) [a, b] [] pos] cpos) (ttB (ttInRg tc ta tb)) :=
  ⟨PT.imp (pt_cmpR op_in_rng hc.pe (pe_callTy cr_range2 hg hm (by decide +kernel) (pa_cons ha.pe (pa_cons hb.pe pa_nil nb) na) (by decide) (by decide) na hpl) hmk) fun σ H Q h => inRg_imp hc.pe ha.pe hb.pe σ H _ (test_imp σ H Q h)⟩
theorem tpt_niRg (hg : Gl X "range") (hm : X.mg "range" = none) (hc : TPE X B c tc) (ha : TPE X B a ta) (hb : TPE X B b tb)
    (na : starEach [a, b] X.env = (false, eval a X.env) :: starEach [b] X.env := by rfl) (nb : starEach [b] X.env = (false, eval b X.env) :: starEach [] X.env := by rfl) (hpl : (backTo pos (starEach [b] X.env)).any (·.1) = false := by rfl)
    (hmk : behindInMarks .NotIn (.Call (.Name "range" p) [a, b] [] pos) = false := by rfl) : TPT X B (.Compare c [.NotIn] [.Call (.Name "range" p) [a, b] [] pos] cpos) (ttB (ttNiRg tc ta tb)) :=
  ⟨PT.imp (pt_cmpR op_notin_rng hc.pe (pe_callTy cr_range2 hg hm (by decide +kernel) (pa_cons ha.pe (pa_cons hb.pe pa_nil nb) na) (by decide) (by decide) na hpl) hmk) fun σ H Q h => niRg_imp hc.pe ha.pe hb.pe σ H _ (test_imp σ H Q h)⟩
end
end TL

/-! ### a list made over the keys of an own dict: the dict is locked meanwhile, frozen from then on -/
namespace TL
open PySem PySem.Spec PyProof.Rows L2
section
variable {K : PySem.W.Frag} {F F' H H' : Hp} {d : Addr} {od : Obj} {kvs : List (Key × V)}
/-- F' is F with the dict at d unlocked -/
structure Unl (F F' : Hp) (d : Addr) (od : Obj) (kvs : List (Key × V)) : Prop where
  at1 : F d = some (.frz od (.dK kvs))
  at2 : F' d = some (.dK kvs)
  ne : ∀ a, a ≠ d → F' a = F a
theorem Unl.get (s : Unl F F' d od kvs) {a : Addr} {o : HO} (h : F a = some o) (n : ∀ o' u, o ≠ .frz o' u) : F' a = some o := by
  by_cases e : a = d
  · subst e
    rw [s.at1] at h
    cases h
    exact absurd rfl (n _ _)
  · rw [s.ne a e]; exact h
theorem Unl.rd (s : Unl F F' d od kvs) {a : Addr} {o : HO} (h : Rd F a o) (n : ∀ o' u, o ≠ .frz o' u) : Rd F' a o := by
  rcases h with h | ⟨o', h⟩
  · exact .inl (s.get h n)
  · by_cases e : a = d
    · subst e
      rw [s.at1] at h
      cases h
      exact .inl s.at2
    · exact .inr ⟨o', by rw [s.ne a e]; exact h⟩
theorem Unl.sqT (s : Unl F F' d od kvs) {a : Addr} {xs : List V} (h : SqT K F a xs) : SqT K F' a xs := h.elim (fun h => .inl (s.rd h fun _ _ z => nomatch z)) .inr
theorem Unl.sqL (s : Unl F F' d od kvs) {a : Addr} {xs : List V} (h : SqL K F a xs) : SqL K F' a xs := h.elim (fun h => .inl (s.rd h fun _ _ z => nomatch z)) .inr
mutual
theorem Unl.rep (s : Unl F F' d od kvs) : ∀ (t : T) (v : V), Rep K F t v → Rep K F' t v
  | .non, _, h => h
  | .bl _, _, h => h
  | .int _, _, h => h
  | .str _, _, h => h
  | .tup ts, _, ⟨a, vs, e, q, z, r⟩ => ⟨a, vs, e, s.sqT q, z, Unl.reps s ts vs r⟩
  | .lst ts, _, ⟨a, vs, e, q, z, r⟩ => ⟨a, vs, e, s.get q (fun _ _ z => nomatch z), z, Unl.reps s ts vs r⟩
  | .dct ks ts, _, ⟨a, kvs, e, q, z, k, r⟩ => ⟨a, kvs, e, s.rd q (fun _ _ z => nomatch z), z, k, Unl.reps s ts _ r⟩
  | .scr _, _, ⟨a, e, q, z⟩ => ⟨a, e, s.sqL q, z⟩
  | .oth _, _, h => h
  | .ins _ ts, _, ⟨a, C, dx, vs, e, q, c, n, l, r⟩ => ⟨a, C, dx, vs, e, s.get q (fun _ _ z => nomatch z), c, n, l, Unl.reps s ts vs r⟩
  | .bdt _ ts, _, ⟨a, xs, e, q, z, k, t, r⟩ => ⟨a, xs, e, s.get q (fun _ _ z => nomatch z), z, k, fun x hx => s.sqT (t x hx), Unl.reps s ts _ r⟩
theorem Unl.reps (s : Unl F F' d od kvs) : ∀ (ts : List T) (vs : List V), Reps K F ts vs → Reps K F' ts vs
  | [], _, h => h
  | t :: ts, _, ⟨v, r, e, h1, h2⟩ => ⟨v, r, e, Unl.rep s t v h1, Unl.reps s ts r h2⟩
end
theorem Unl.ownAt (s : Unl F F' d od kvs) {a : Addr} (e : H' a = H a) : ∀ {t : T}, OwnAt K F H a t → OwnAt K F' H' a t
  | .lst _, ⟨vs, h, z, r⟩ => ⟨vs, e.trans h, z, s.reps _ _ r⟩
  | .dct _ _, ⟨kvs, h, z, k, r⟩ => ⟨kvs, e.trans h, z, k, s.reps _ _ r⟩
  | .bdt _ _, ⟨xs, h, z, k, t, r⟩ => ⟨xs, e.trans h, z, k, fun x hx => s.sqT (t x hx), s.reps _ _ r⟩
end
/-- a key as a tree -/
def kT : Key → T
  | .inl i => .int i
  | .inr x => .str x
theorem kT_rep {K : PySem.W.Frag} {F : Hp} : ∀ {k : Key}, Rep K F (kT k) (kV k)
  | .inl _ => rfl
  | .inr _ => rfl
theorem keys_src {K : PySem.W.Frag} {d : Addr} {od : Obj} {kvs : List (Key × V)} : SrcOk K (Itk d od kvs) ((kvs.map (·.1)).map kT) (fun F _ _ => F d = some (.frz od (.dK kvs))) := by
  refine ⟨fun F σ τ F' σ' τ' h q => q.sub _ _ h, fun i F H σ τ h w hi => ⟨w.sub _ _ h, by simpa using hi⟩, fun F H σ τ h w => ⟨w.sub _ _ h, by simp⟩, fun i t F H σ τ x H' h w ht y => ?_⟩
  obtain ⟨rfl, k, v, hk, rfl⟩ := y
  refine ⟨F, Grow.refl w.sub, ?_⟩
  rw [List.getElem?_map, List.getElem?_map, hk] at ht
  cases ht
  exact kT_rep
section
variable {X : Cx} {B : Bs}
/-- the locked dict as a source -/
def tiD (i : Nat) (d : V) (ks : List Key) : TTI := fun τ P => τ[i]? = some (some ⟨.frz, false, .oth d⟩) ∧ P (ks.map kT) none τ
def lcDK (ti : TTI) (g : TTG) (tt : TTT) (te : TTE) (vs : List Nat) (i : Nat) (τ : TSt) (P : R → TSt → Prop) (d : V) (t : T) : Prop :=
  ttLc ti g tt te vs (τ.set i (some ⟨.frz, false, .oth d⟩)) (@box _ ⟨fun r τ1 => P r (τ1.set i (some ⟨.frz, false, t⟩))⟩)
def lcDT (g : TTG) (tt : TTT) (te : TTE) (vs : List Nat) (i : Nat) (o : Option (Option Sl)) (τ : TSt) (P : R → TSt → Prop) : Prop := match o with
  | some (some ⟨.own, false, .dct ks ts⟩) => ∀ d : V, lcDK (tiD i d ks) g tt te vs i τ P d (.dct ks ts)
  | _ => False
def ttLcD (i : Nat) (g : TTG) (tt : TTT) (te : TTE) (vs : List Nat) : TTE := fun τ P => lcDT g tt te vs i τ[i]? τ P
theorem pi_locked {tg : Expr} {i : Nat} {x : Str} {pos : Pos} {d : Addr} {od : Obj} {kvs : List (Key × V)} (hF : B.F d = some (.frz od (.dK kvs))) (hN : X.N[i]? = some x) (hv : Vis X.env.scope x)
    (hd : (x == ("__debug__" : Str)) = false := by decide) (hcd : (x == ("__classdict__" : Str)) = false := by decide) : PI X tg (.Name x pos) (liftI X.K B (tiD i (.ref d) (kvs.map (·.1)))) :=
  PI.imp (pi_keys (tpe_v (B := B) i (pos := pos) hN hv hd hcd).pe) fun σ H R q => by
    obtain ⟨F, τ, P, I, ⟨hs, hp⟩, hq⟩ := q
    refine lift.go I (P := fun r τ1 => r = .var i ∧ τ1 = τ) ⟨⟨_, hs⟩, rfl, rfl⟩ fun r τ1 F1 H1 v ⟨er, et⟩ I1 s1 r1 f1 => ?_
    subst er et
    obtain ⟨v', e, q⟩ := I1.wf.frz i _ _ hs
    have ev : v' = v := by
      have hv2 := r1.1
      rw [e] at hv2
      cases hv2
      rfl
    subst ev
    obtain rfl : v' = .ref d := q
    have h1 : F1 d = some (.frz od (.dK kvs)) := I1.sub _ _ hF
    exact ⟨d, od, rfl, .inl ⟨kvs, I1.wf.sub _ _ h1, hq _ none τ1 F1 H1 _ _ hp I1 s1 keys_src h1⟩⟩
theorem lcDT_inv {g : TTG} {tt : TTT} {te : TTE} {vs : List Nat} {i : Nat} {τ : TSt} {P : R → TSt → Prop} {o : Option (Option Sl)} (h : lcDT g tt te vs i o τ P) :
    ∃ ks ts, o = some (some ⟨.own, false, .dct ks ts⟩) ∧ ∀ d : V, ttLc (tiD i d ks) g tt te vs (τ.set i (some ⟨.frz, false, .oth d⟩)) fun r τ1 => P r (τ1.set i (some ⟨.frz, false, .dct ks ts⟩)) := by
  unfold lcDT at h
  split at h
  · rename_i ks ts
    exact ⟨ks, ts, rfl, fun d => h d⟩
  · exact h.elim
theorem set_at {τ : TSt} {i j : Nat} {s : Option Sl} {x : Option Sl} (h : (τ.set i s)[j]? = some x) : (i = j ∧ x = s) ∨ (i ≠ j ∧ τ[j]? = some x) := by
  by_cases e : i = j
  · subst e
    rw [List.getElem?_set_self'] at h
    cases hx : τ[i]? with
    | none => rw [hx] at h; cases h
    | some y =>
      rw [hx] at h
      cases h
      exact .inl ⟨rfl, rfl⟩
  · rw [List.getElem?_set_ne e] at h
    exact .inr ⟨e, h⟩
theorem own_set {σ : L2.St} {τ : TSt} {i : Nat} {l : Bool} {t : T} {j : Nat} {k : Kd} {a : Addr} (h : Owns σ (τ.set i (some ⟨.frz, l, t⟩)) j k a) : i ≠ j ∧ Owns σ τ j k a := by
  obtain ⟨l', t', h1, h2, h3⟩ := h
  rcases set_at h1 with ⟨_, e⟩ | ⟨ne, h1⟩
  · cases e
    exact absurd rfl h2
  · exact ⟨ne, l', t', h1, h2, h3⟩
theorem tpe_lcD {i : Nat} {x : Str} {xpos : Pos} {elt tg : Expr} {ifs : List Expr} {scope : Scope} {own : List (Str × Nat)} {pos : Pos} {g : TTG} {tt : TTT} {te : TTE} {is : List Nat} (hc : X.calm = true) (hN : X.N.Nodup) (hx : X.N[i]? = some x) (hvis : Vis X.env.scope x) (ok : BlkOk X.N X.env.scope scope own) (hv : ∀ v ∈ is, v ∈ own.map (·.2))
    (hg : ∀ (B' : Bs) (s : Shared) (H : Hp) (C : Addr) (cl : List (Str × Addr)) (fp : List Addr), TPG (X.blk s H scope (compEnvC scope cl C X.env) fp) B' is tg g) (ht : ∀ (B' : Bs) (s : Shared) (H : Hp) (C : Addr) (cl : List (Str × Addr)) (fp : List Addr), TPTs (X.blk s H scope (compEnvC scope cl C X.env) fp) B' ifs tt)
    (he : ∀ (B' : Bs) (s : Shared) (H : Hp) (C : Addr) (cl : List (Str × Addr)) (fp : List Addr), TPE (X.blk s H scope (compEnvC scope cl C X.env) fp) B' elt te)
    (hd : (x == ("__debug__" : Str)) = false := by decide) (hcd : (x == ("__classdict__" : Str)) = false := by decide) (hs : ∀ y, foldedSetIterable (.Name x xpos) X.env y = pure y := by intro _; rfl) :
    TPE X B (.ListComp elt [⟨tg, .Name x xpos, ifs, 0⟩] scope pos) (ttLcD i g tt te (own.map (·.2))) := by
  refine ⟨⟨fun pins s σ H Q J h => ?_⟩⟩
  obtain ⟨F, τ, P, I, h, hq⟩ := h
  obtain ⟨ks, ts, hsl, h⟩ := lcDT_inv h
  obtain ⟨d, hσ, nF, ow⟩ := I.wf.own i .own false _ hsl (by simp)
  obtain ⟨kvs, hd', hz, hk, rp⟩ := id ow
  subst hk
  have h := h (.ref d)
  have hBd : B.H d = none := I.ow i d ⟨false, _, hsl, by simp, hσ⟩
  refine (pe_lock (t := fun σ H Q => ∃ od B' F1 τ1 P', B'.F d = some (.frz od (.dK kvs)) ∧ Inn X.K B' F1 H σ τ1 ∧ ttLc (tiD i (.ref d) (kvs.map (·.1))) g tt te (own.map (·.2)) τ1 P' ∧
    ∀ r τ' F' H' v, P' r τ' → Inn X.K B' F' H' σ τ' → Stp F1 H σ τ1 F' H' τ' → RR X.K F' H' σ τ' v r → Fresh H v r → Q v H') ⟨fun pins s σ H Q J h => ?_⟩).run pins s σ H Q J ⟨d, .dK kvs, hd', trivial, fun od => ⟨od, { B with F := upd F d (.frz od (.dK kvs)) }, upd F d (.frz od (.dK kvs)), τ.set i (some ⟨.frz, false, .oth (.ref d)⟩), _, upd_same, ?_, h, ?_⟩⟩
  · obtain ⟨od, B', F1, τ1, P', hF, I1, h1, hq1⟩ := h
    exact (pe_lc hc hN (pi_locked (B := B') hF hx hvis hd hcd) ok (fun s H C cl fp => (hg B' s H C cl fp).pg) (fun s H C cl fp => (ht B' s H C cl fp).pts) (fun s H C cl fp => (he B' s H C cl fp).pe) hs).run pins s σ H Q J (lc_imp hv σ H Q ⟨F1, τ1, P', I1, h1, hq1⟩)
  · have sF : Same F (upd F d (.frz od (.dK kvs))) := same_upd nF
    have nd : ∀ a, H a = none → a ≠ d := fun a e z => by rw [z, hd'] at e; cases e
    refine ⟨⟨fun a u e => ?_, by rw [List.length_set]; exact I.wf.len, fun j l t e => ?_, fun j k l t e hk => ?_, fun j j' k l a o1 o2 => I.wf.sep j j' k l a (own_set o1).2 (own_set o2).2⟩, fun a o e => e, fun a e => .inl e, fun a o e n => ?_, fun a e => ?_, fun j a o => I.ow j a (own_set o).2, fun j j' a o => I.ar j j' a (own_set o).2⟩
    · by_cases ha : a = d
      · rw [ha, upd_same] at e ⊢; exact e
      · rw [upd_ne ha] at e ⊢; exact I.wf.sub a u e
    · rcases set_at e with ⟨ej, e'⟩ | ⟨ne, e'⟩
      · cases e'
        exact ⟨_, by rw [← ej]; exact hσ, rfl⟩
      · obtain ⟨v, e1, q⟩ := I.wf.frz j l t e'
        exact ⟨v, e1, Rep.mono sF _ _ q⟩
    · rcases set_at e with ⟨ej, e'⟩ | ⟨ne, e'⟩
      · cases e'
        exact absurd rfl hk
      · obtain ⟨a, e1, n1, q⟩ := I.wf.own j k l t e' hk
        have ha : a ≠ d := fun z => by
          subst z
          exact ne (I.wf.sep i j .own k a ⟨false, _, hsl, by simp, hσ⟩ ⟨l, t, e', hk, e1⟩)
        exact ⟨a, e1, by rw [upd_ne ha]; exact n1, OwnAt.mono sF (upd_ne ha) q⟩
    · have ha : a ≠ d := fun z => by rw [z, hBd] at e; cases e
      rw [upd_ne ha]
      exact I.fr a o e n
    · by_cases ha : a = d
      · rw [ha, upd_same]; simp
      · rw [upd_ne ha]; exact I.dom a e
  · intro r τ2 F2 H2 v hp I2 s2 rr fr
    have hF2 : F2 d = some (.frz od (.dK kvs)) := s2.sub _ _ upd_same
    have hH2 : H2 d = some (.frz od (.dK kvs)) := I2.wf.sub _ _ hF2
    refine ⟨hH2, ?_⟩
    have u1 : Unl F2 (upd F2 d (.dK kvs)) d od kvs := ⟨hF2, upd_same, fun a ha => upd_ne ha⟩
    have hi : i < τ2.length := by
      obtain ⟨s', e⟩ := s2.slot i ⟨.frz, false, .oth (.ref d)⟩ (by rw [List.getElem?_set_self (List.getElem?_eq_some_iff.mp hsl).1])
      exact (List.getElem?_eq_some_iff.mp e).1
    have F03 : Same F (upd F2 d (.dK kvs)) := fun a o e => by
      have ha : a ≠ d := fun z => by rw [z, nF] at e; cases e
      rw [upd_ne ha]
      exact s2.sub _ _ (by rw [upd_ne ha]; exact e)
    have noi : ∀ k a, ¬ Owns σ τ2 i k a := fun k a o => (own_set (s2.own i k a o)).1 rfl
    have nod : ∀ j k, ¬ Owns σ τ2 j k d := fun j k o => by
      have o1 := own_set (s2.own j k d o)
      exact o1.1 (I.wf.sep i j .own k d ⟨false, _, hsl, by simp, hσ⟩ o1.2)
    have ow3 : ∀ j k a, Owns σ (τ2.set i (some ⟨.frz, false, .dct (kvs.map (·.1)) ts⟩)) j k a → Owns σ τ2 j k a := fun j k a o => (own_set o).2
    have w3 : WF X.K (upd F2 d (.dK kvs)) (upd H2 d (.dK kvs)) σ (τ2.set i (some ⟨.frz, false, .dct (kvs.map (·.1)) ts⟩)) := by
      refine ⟨fun a u e => ?_, by rw [List.length_set]; exact I2.wf.len, fun j l t e => ?_, fun j k l t e hk => ?_, fun j j' k l a o1 o2 => I2.wf.sep j j' k l a (ow3 _ _ _ o1) (ow3 _ _ _ o2)⟩
      · by_cases ha : a = d
        · rw [ha, upd_same] at e ⊢; exact e
        · rw [upd_ne ha] at e ⊢; exact I2.wf.sub a u e
      · rcases set_at e with ⟨ej, e'⟩ | ⟨ne, e'⟩
        · cases e'
          exact ⟨_, by rw [← ej]; exact hσ, d, kvs, rfl, .inl upd_same, hz, rfl, Reps.mono F03 _ _ rp⟩
        · obtain ⟨v, e1, q⟩ := I2.wf.frz j l t e'
          exact ⟨v, e1, u1.rep _ _ q⟩
      · rcases set_at e with ⟨ej, e'⟩ | ⟨ne, e'⟩
        · cases e'
          exact absurd rfl hk
        · obtain ⟨a, e1, n1, q⟩ := I2.wf.own j k l t e' hk
          have ha : a ≠ d := fun z => by rw [z, hF2] at n1; cases n1
          exact ⟨a, e1, by rw [upd_ne ha]; exact n1, u1.ownAt (upd_ne ha) q⟩
    have st3 : Stp F H σ τ (upd F2 d (.dK kvs)) (upd H2 d (.dK kvs)) (τ2.set i (some ⟨.frz, false, .dct (kvs.map (·.1)) ts⟩)) := by
      refine ⟨F03, fun a e => ?_, fun a o e n => ?_, fun a e => ?_, fun j k a o => (own_set (s2.own j k a (ow3 j k a o))).2, fun j s e => ?_, fun j k t e => ?_⟩
      · by_cases ha : a = d
        · exact .inr (.inr ⟨i, by rw [ha]; exact ⟨false, _, hsl, by simp, hσ⟩⟩)
        · rw [upd_ne ha] at e
          rcases s2.new a e with q | q | ⟨j, q⟩
          · rw [upd_ne ha] at q; exact .inl q
          · rw [upd_ne ha] at q; exact .inr (.inl q)
          · exact .inr (.inr ⟨j, (own_set q).2⟩)
      · have ha : a ≠ d := fun z => n i .own (by rw [z]; exact ⟨false, _, hsl, by simp, hσ⟩)
        rw [upd_ne ha]
        exact s2.fr a o (by rw [upd_ne ha]; exact e) fun j k q => n j k (own_set q).2
      · by_cases ha : a = d
        · rw [ha, upd_same]; simp
        · rw [upd_ne ha]; exact s2.dom a (by rw [upd_ne ha]; exact e)
      · by_cases ej : i = j
        · subst ej
          exact ⟨_, List.getElem?_set_self hi⟩
        · obtain ⟨s', e'⟩ := s2.slot j s (by rw [List.getElem?_set_ne ej]; exact e)
          exact ⟨s', by rw [List.getElem?_set_ne ej]; exact e'⟩
      · have ej : i ≠ j := fun z => by
          subst z
          rw [hsl] at e
          cases e
        rw [List.getElem?_set_ne ej]
        exact s2.lock j k t (by rw [List.getElem?_set_ne ej]; exact e)
    refine hq r _ _ _ v hp (I.step w3 st3) st3 ?_ ?_
    · cases r with
      | val k t =>
        cases k with
        | false => exact u1.rep _ _ rr
        | true =>
          obtain ⟨p, e, n, o, no⟩ := rr
          have hp' : p ≠ d := fun z => by rw [z, hF2] at n; cases n
          exact ⟨p, e, by rw [upd_ne hp']; exact n, u1.ownAt (upd_ne hp') o, fun j k q => no j k (ow3 j k p q)⟩
      | var j =>
        obtain ⟨e, s', es⟩ := rr
        refine ⟨e, ?_⟩
        by_cases ej : i = j
        · subst ej
          exact ⟨_, List.getElem?_set_self hi⟩
        · exact ⟨s', by rw [List.getElem?_set_ne ej]; exact es⟩
    · cases r with
      | val k t =>
        cases k with
        | false => trivial
        | true =>
          obtain ⟨p, e, n⟩ := fr
          have hp' : p ≠ d := fun z => by rw [z, upd_same] at n; cases n
          exact ⟨p, e, by rw [upd_ne hp'] at n; exact n⟩
      | var j => trivial
theorem lcDT_o {g : TTG} {tt : TTT} {te : TTE} {vs : List Nat} {i : Nat} {τ : TSt} {P : R → TSt → Prop} {ks : List Key} {ts : List T} : lcDT g tt te vs i (some (some ⟨.own, false, .dct ks ts⟩)) τ P = ∀ d : V, lcDK (tiD i d ks) g tt te vs i τ P d (.dct ks ts) := rf rfl
theorem z_lcD {g : TTG} {tt : TTT} {te : TTE} {vs : List Nat} {i : Nat} {τ : TSt} {P : R → TSt → Prop} : ttLcD i g tt te vs τ P = lcDT g tt te vs i τ[i]? τ P := rf rfl
theorem z_lcDK {ti : TTI} {g : TTG} {tt : TTT} {te : TTE} {vs : List Nat} {i : Nat} {τ : TSt} {P : R → TSt → Prop} {d : V} {t : T} : lcDK ti g tt te vs i τ P d t = ttLc ti g tt te vs (τ.set i (some ⟨.frz, false, .oth d⟩)) (@box _ ⟨fun r τ1 => P r (τ1.set i (some ⟨.frz, false, t⟩))⟩) := rf rfl
theorem z_tiD {i : Nat} {d : V} {ks : List Key} {τ : TSt} {Pi : List T → Lk → TSt → Prop} : tiD i d ks τ Pi = (τ[i]? = some (some ⟨.frz, false, .oth d⟩) ∧ Pi (ks.map kT) none τ) := rf rfl
theorem kT_ints {zs : List Int} : (zs.map (Sum.inl : Int → Key)).map kT = zs.map T.int := by rw [List.map_map]; rfl
end
end TL

local macro_rules | `(tactic| walk_at "tl") => `(tactic| simp -dsimp only [TL.y_sl2, TL.y_mkf, TL.y_mko, TL.y_mka, TL.y_tv, TL.y_tn, TL.y_slT, TL.y_set, TL.y_mkN, TL.y_mkV, TL.y_mkn, TL.y_pbV, TL.y_pbn, TL.y_pbN, TL.y_pbf, TL.y_pbo, TL.y_pba, TL.y_pbl, TL.y_pbm, TL.y_voN, TL.y_voV, TL.y_von, TL.y_vnV, TL.y_vnn, TL.y_out, TL.y_onN, TL.y_onC, TL.y_st, TL.y_kp, TL.y_kpN, TL.y_kpC, TL.y_kpf, TL.y_kpa, TL.y_lkN, TL.y_lkS, TL.y_lkT, TL.y_lks, TL.y_unN, TL.y_unS, TL.y_uns, TL.y_wN, TL.y_wC, TL.z_v, TL.z_k, TL.z_tf, TL.z_nil, TL.z_cons, TL.z_tup, TL.z_lst, TL.z_bin, TL.z_B, TL.z_and, TL.z_or, TL.z_not, TL.z_if, TL.z_andV, TL.z_orV, TL.z_notV, TL.z_chain, TL.z_ix, TL.z_toN, TL.z_toS, TL.z_sl, TL.z_mut, TL.z_d0, TL.z_c1, TL.z_u, TL.z_cn, TL.z_isi, TL.z_aN, TL.z_aF, TL.z_aV, TL.z_call, TL.z_next, TL.z_brk, TL.z_cont, TL.z_seq, TL.z_drop, TL.z_ret, TL.z_retN, TL.z_ifS, TL.z_set, TL.z_tgN, TL.z_gsN, TL.z_gsC, TL.z_tgT, TL.z_asg, TL.z_setIx, TL.z_sf, TL.z_seqs, TL.z_rev, TL.z_zip, TL.z_rng1, TL.z_rng2, TL.z_fld, TL.fldK_i, TL.fg_r, TL.fg_n, TL.fg_b, TL.q_sortSetL, TL.z_lrg1, TL.z_lrg2, TL.z_get2, TL.isD_d, TL.dgK_i, TL.q_minL, TL.q_maxL, TL.q_divmod, TL.q_lenSet, TL.q_sortSet, TL.z_tgL, TL.z_par, TL.parK_2, TL.z_enum, TL.q_enum_0, TL.q_enum_1, TL.z_zp, TL.q_zpL, TL.q_sqOf_0, TL.q_sqOf_1, TL.q_sortedR, TL.q_sortedD, TL.q_ix_d, TL.q_eq_rows, TL.q_ne_rows, TL.q_eq_rows0, TL.q_ne_rows0, TL.q_eq_t0, TL.q_ne_t0, TL.q_eq_l0, TL.q_is_r, TL.isi_tuple_r, TL.isi_list_r, TL.b2i_t, TL.b2i_f, TL.q_r0_e, TL.q_r0_s, TL.q_r0_p, TL.q_r0_g, TL.q_r1_g, TL.q_es_evens_evens, TL.q_ns_evens_evens, TL.q_es_evens_sums, TL.q_ns_evens_sums, TL.q_es_evens_pairs, TL.q_ns_evens_pairs, TL.q_es_evens_gaps, TL.q_ns_evens_gaps, TL.q_es_sums_evens, TL.q_ns_sums_evens, TL.q_es_sums_sums, TL.q_ns_sums_sums, TL.q_es_sums_pairs, TL.q_ns_sums_pairs, TL.q_es_sums_gaps, TL.q_ns_sums_gaps, TL.q_es_pairs_evens, TL.q_ns_pairs_evens, TL.q_es_pairs_sums, TL.q_ns_pairs_sums, TL.q_es_pairs_pairs, TL.q_ns_pairs_pairs, TL.q_es_pairs_gaps, TL.q_ns_pairs_gaps, TL.q_es_gaps_evens, TL.q_ns_gaps_evens, TL.q_es_gaps_sums, TL.q_ns_gaps_sums, TL.q_es_gaps_pairs, TL.q_ns_gaps_pairs, TL.q_es_gaps_gaps, TL.q_ns_gaps_gaps, TL.z_try, TL.xt_e, TL.noLk_c, TL.noLk_n, TL.noLk_0, TL.z_raise, TL.oD_rt, TL.oD_nx, TL.z_isE, TL.isEK_o, TL.q_mulS, TL.r2L_i, TL.z_rng2L, TL.z_call2, TL.q_sortSetA0, TL.q_sortSetA1, TL.z_trg2, TL.q_dn0, TL.q_dn1, TL.q_dn2, TL.q_d4e, TL.q_d4s, TL.q_d4p, TL.q_d4g, TL.q_lenSetU, TL.q_sortTup, TL.z_sumRg1, TL.z_dB, TL.z_ixB, TL.z_setIxB, TL.q_ixB, TL.q_inB, TL.stIxB_eq, TL.sxBK_o, TL.q_mulTT, TL.stK_s, TL.q_seq_3, TL.z_join, TL.joinT_l, TL.z_split, TL.z_partn, TL.z_orS, TL.q_int_2, TL.q_str_0, TL.z_revS, TL.z_inRg, TL.z_niRg, TL.q_mulSG, TL.z_dictEnF, TL.z_dictEnT, TL.z_trgC, TL.r3C_i, TL.z_setCut, TL.sxCut_o, TL.q_cutG, TL.z_lcD, TL.lcDT_o, TL.z_lcDK, TL.z_tiD, TL.kT_ints, TL.z_yes, TL.bx_app, TL.sD_nx, TL.sD_rt, TL.sD_bk, TL.sD_ct, TL.lD_nx, TL.lD_rt, TL.lD_bk, TL.lD_ct, decide_true, decide_false, eq_self, TL.cnd_t, TL.cnd_f, TL.cnd_not, TL.blK_bl, TL.inK_int, TL.opK_some, TL.r1K_i, TL.r2K_i, TL.frz_val, TL.frz_var, TL.frK_f, TL.frK_o, TL.stR_v, TL.stR_f, TL.stR_n, TL.sl_eq, TL.slK_s, TL.mutS_eq, TL.mtK_o, TL.mtK_a, TL.stIx_eq, TL.sxK_o, TL.sxK_a, TL.ret_val, TL.ret_var, TL.rtK_f, TL.rtK_o, TL.ends_rt, TL.ends_nx, TL.mtL_l, TL.mtL_d, 
  TL.q_add_0, TL.q_add_1, TL.q_add_2, TL.q_add_3, TL.q_sub_0, TL.q_mul_0, TL.q_mul_1, TL.q_fdiv_0, TL.q_mod_0, TL.q_pow_0, TL.q_shl_0, TL.q_lt_0, TL.q_le_0, TL.q_gt_0, TL.q_ge_0, TL.q_eq_0, TL.q_ne_0, TL.q_eq_1, TL.q_ne_1, TL.q_eq_2, TL.q_ne_2, TL.q_eq_3, TL.q_ne_3, TL.q_is_0, TL.q_is_1, TL.q_is_2, TL.q_is_3, TL.q_is_4, TL.q_is_5, TL.q_is_6, TL.q_in_0, TL.q_in_1, TL.q_in_2, TL.q_ix_0, TL.q_ix_1, TL.q_ix_2, TL.q_ix_3, TL.q_sl_0, TL.q_sl_1, TL.q_sl_2, TL.q_sl_3, TL.q_len_0, TL.q_len_1, TL.q_len_2, TL.q_len_3, TL.q_list_0, TL.q_list_1, TL.q_list_2, TL.q_tuple_0, TL.q_tuple_1, TL.q_tuple_2, TL.q_int_0, TL.q_int_1, TL.q_sum_0, TL.q_all_0, TL.q_any_0, TL.q_sorted_0, TL.q_max2_0, TL.q_min2_0, TL.q_neg_0, TL.q_append_0, TL.q_extend_0, TL.q_insert_0, TL.q_seq_0, TL.q_seq_1, TL.q_seq_2, TL.q_rev_0, TL.q_rev_1, TL.q_zip_0, TL.q_zip_1, TL.q_setG_0, TL.q_setG_1,
  TL.canS_of, TL.canS_none, TL.canS_some, TL.atI_0, TL.atI_1, TL.atI_2, TL.atI_3, TL.ex_some,
  TL.ttFor_eq, TL.ttLc_eq, TL.y_bN, TL.y_bC, TL.ofT_none, TL.ofT_some, TL.keyT, TL.intsT_map, TL.blsT_map,
  TL.isi_int_non, TL.isi_int_bl, TL.isi_int_int, TL.isi_int_str, TL.isi_int_tup, TL.isi_int_lst, TL.isi_bool_non, TL.isi_bool_bl, TL.isi_bool_int, TL.isi_bool_str, TL.isi_bool_tup, TL.isi_bool_lst, TL.isi_str_non, TL.isi_str_bl, TL.isi_str_int, TL.isi_str_str, TL.isi_str_tup, TL.isi_str_lst, TL.isi_tuple_non, TL.isi_tuple_bl, TL.isi_tuple_int, TL.isi_tuple_str, TL.isi_tuple_tup, TL.isi_tuple_lst, TL.isi_list_non, TL.isi_list_bl, TL.isi_list_int, TL.isi_list_str, TL.isi_list_tup, TL.isi_list_lst, TL.canS_ofO, TL.ofO_none, TL.ofO_some, TL.q_abs_0, TL.canS_ofE, TL.ofE_none, TL.ofE_f, TL.ofE_o, TL.atI_4, TL.atI_5, TL.ixN_0, TL.ixN_1, TL.ixN_2, exists_const, exists_eq_left, exists_and_left, decide_eq_true_eq, Int.reduceLT, Int.reduceLE, Int.reduceAdd, Int.reduceSub, Int.reduceMul, Int.reducePow, Int.reduceNeg, Int.reduceToNat, Nat.reduceAdd, Nat.reducePow, Nat.reduceLT, Nat.reduceLeDiff, Nat.reduceMul, Nat.reduceSub,
  List.getElem?_cons_zero, List.getElem?_cons_succ, List.set_cons_zero, List.set_cons_succ, List.map_cons, List.map_nil, List.length_cons, List.length_nil, List.replicate, List.cons_append, List.nil_append, Option.getD_some,
  Option.some.injEq, exists_eq', exists_eq_left', true_and, and_true, Bool.true_and, if_true, if_false, Bool.false_eq_true, ite_true, ite_false, List.all_nil, List.all_cons, Bool.and_true, Bool.false_bne, Bool.true_bne, Bool.not_true, Bool.not_false, String.reduceEq, Option.map_some, Int.zero_add])
local macro_rules | `(tactic| walk_at "side") => `(tactic| first | omega | assumption | exact trivial | exact Or.inl ⟨by omega, by omega⟩ | exact Or.inr (Or.inl ⟨by omega, by omega⟩) | exact TL.log2_ok (n := 1000) (by assumption) (by assumption) (by decide) (by decide) | decide)
local macro_rules | `(tactic| walk_at "vc") => `(tactic| ((repeat' apply And.intro) <;> (try (walk_at "side"))))

local macro_rules | `(tactic| walk_at "fz") => `(tactic| (intro v hv; have := List.mem_singleton.mp hv; subst this; first | exact TL.frzAt_none rfl | exact TL.frzAt_of rfl | exact trivial))
local macro_rules | `(tactic| walk_at "t") => `(tactic| try walk_at "tl")
local macro_rules | `(tactic| walk_at "g") => `(tactic| repeat (first | walk_at "tl" | simp -dsimp only [TL.q_rg0, TL.q_rgs, TL.q_rgsn, TL.q_rgp, TL.q_rgpn]))
local macro_rules | `(tactic| walk_at "z") => `(tactic| repeat (refine And.intro (by omega) ?_))
namespace Lib
open PySem L2 TL
abbrev fz (t : T) : Sl := ⟨.frz, false, t⟩
abbrev ag (j : Nat) (t : T) : Sl := ⟨.arg j, false, t⟩
/-! ### drawing -/
abbrev pl (a b c : Int) : T := .lst [.int a, .int b, .int c]
abbrev plA (a b c : Int) : Sl := ⟨.arg 0, false, pl a b c⟩
def sp_law_next_c : TSp := fun as PR PX => ∃ a b c base, as = [plA a b c, fz (.int base)] ∧ 0 < base ∧ base < 2 ^ 1000 ∧ ∀ d a' b' c', 0 ≤ d → d < base → PR (.val false (.int d)) [pl a' b' c', .int base]
def rd_law_next_c : TTS := ttSeq (ttIfS (ttB (ttBin (gtT) (ttIx (tv 0) (tk (.int 0))) (tk (.int 0)))) (ttSeq (ttSet 4 (ttBin modT (ttIx (tv 0) (tk (.int 0))) (tv 1)))
  (ttSeq (ttSetIx 0 (ttBin fdivT (ttIx (tv 0) (tk (.int 0))) (tv 1)) (tk (.int 0)))
  (ttRet (tv 4)))) (ttNext))
  (ttSeq (ttSetIx 0 (ttBin addT (ttIx (tv 0) (tk (.int 2))) (tk (.int 1))) (tk (.int 2)))
  (ttSeq (ttSet 2 (ttBin modT (ttBin addT (ttIx (tv 0) (tk (.int 1))) (ttBin mulT (tk (.int 7717)) (ttIx (tv 0) (tk (.int 2))))) (tk (.int 1000000007))))
  (ttSeq (ttSet 3 (ttBin modT (ttBin mulT (ttBin addT (tv 2) (tk (.int 31))) (ttBin addT (tv 2) (tk (.int 88001)))) (tk (.int 998244353))))
  (ttRet (ttBin modT (ttBin fdivT (ttBin modT (ttBin mulT (tv 3) (tv 3)) (tk (.int 2147483647))) (tk (.int 16))) (tv 1))))))
theorem ok_law_next_c : ∀ as PR PX, sp_law_next_c as PR PX → rd_law_next_c (endsT as PR) (startT 5 as) := by
  rintro as PR PX ⟨a, b, c, base, rfl, h0, h1, k⟩
  unfold rd_law_next_c
  walk_at "tl"
  refine cnd_2 (fun h => ?_) (fun h => ?_)
  · walk_at "tl"
    walk_at "vc"
    exact k _ _ _ _ (Int.emod_nonneg _ (by omega)) (Int.emod_lt_of_pos _ h0)
  · walk_at "tl"
    walk_at "vc"
    exact k _ _ _ _ (Int.emod_nonneg _ (by omega)) (Int.emod_lt_of_pos _ h0)
theorem ln_law_next_c : ∀ as PR PX, sp_law_next_c as PR PX → as.length = 2 := by
  rintro as PR PX ⟨a, b, c, base, rfl, _⟩
  rfl
theorem i_next_c {a b c base : Int} {PR : R → List T → Prop} {PX : String → List T → Prop} (h0 : 0 < base) (h1 : base < 2 ^ 1000) (k : ∀ d a' b' c', 0 ≤ d → d < base → PR (.val false (.int d)) [pl a' b' c', .int base]) : sp_law_next_c [plA a b c, fz (.int base)] PR PX :=
  ⟨a, b, c, base, rfl, h0, h1, k⟩
def sp_law_next_a : TSp := fun as PR PX => ∃ a b c base, as = [plA a b c, fz (.int base)] ∧ 0 < base ∧ base < 2 ^ 1000 ∧ ∀ d a' b' c', 0 ≤ d → d < base → PR (.val false (.int d)) [pl a' b' c', .int base]
def rd_law_next_a : TTS := ttSeq (ttIfS (ttB (ttBin (gtT) (ttIx (tv 0) (tk (.int 0))) (tk (.int 0)))) (ttSeq (ttSet 4 (ttBin modT (ttIx (tv 0) (tk (.int 0))) (tv 1)))
  (ttSeq (ttSetIx 0 (ttBin fdivT (ttIx (tv 0) (tk (.int 0))) (tv 1)) (tk (.int 0)))
  (ttRet (tv 4)))) (ttNext))
  (ttSeq (ttSetIx 0 (ttBin addT (ttIx (tv 0) (tk (.int 2))) (tk (.int 1))) (tk (.int 2)))
  (ttSeq (ttSet 2 (ttBin modT (ttBin addT (ttIx (tv 0) (tk (.int 1))) (ttBin mulT (tk (.int 7919)) (ttIx (tv 0) (tk (.int 2))))) (tk (.int 1000000007))))
  (ttSeq (ttSet 3 (ttBin modT (ttBin mulT (ttBin addT (tv 2) (tk (.int 11))) (ttBin addT (tv 2) (tk (.int 48271)))) (tk (.int 998244353))))
  (ttRet (ttBin modT (ttBin fdivT (ttBin modT (ttBin mulT (tv 3) (tv 3)) (tk (.int 2147483647))) (tk (.int 8))) (tv 1))))))
theorem ok_law_next_a : ∀ as PR PX, sp_law_next_a as PR PX → rd_law_next_a (endsT as PR) (startT 5 as) := by
  rintro as PR PX ⟨a, b, c, base, rfl, h0, h1, k⟩
  unfold rd_law_next_a
  walk_at "tl"
  refine cnd_2 (fun h => ?_) (fun h => ?_)
  · walk_at "tl"
    walk_at "vc"
    exact k _ _ _ _ (Int.emod_nonneg _ (by omega)) (Int.emod_lt_of_pos _ h0)
  · walk_at "tl"
    walk_at "vc"
    exact k _ _ _ _ (Int.emod_nonneg _ (by omega)) (Int.emod_lt_of_pos _ h0)
theorem ln_law_next_a : ∀ as PR PX, sp_law_next_a as PR PX → as.length = 2 := by
  rintro as PR PX ⟨a, b, c, base, rfl, _⟩
  rfl
theorem i_next_a {a b c base : Int} {PR : R → List T → Prop} {PX : String → List T → Prop} (h0 : 0 < base) (h1 : base < 2 ^ 1000) (k : ∀ d a' b' c', 0 ≤ d → d < base → PR (.val false (.int d)) [pl a' b' c', .int base]) : sp_law_next_a [plA a b c, fz (.int base)] PR PX :=
  ⟨a, b, c, base, rfl, h0, h1, k⟩
def sp_law_next_b : TSp := fun as PR PX => ∃ a b c base, as = [plA a b c, fz (.int base)] ∧ 0 < base ∧ base < 2 ^ 1000 ∧ ∀ d a' b' c', 0 ≤ d → d < base → PR (.val false (.int d)) [pl a' b' c', .int base]
def rd_law_next_b : TTS := ttSeq (ttIfS (ttB (ttBin (gtT) (ttIx (tv 0) (tk (.int 0))) (tk (.int 0)))) (ttSeq (ttSet 4 (ttBin modT (ttIx (tv 0) (tk (.int 0))) (tv 1)))
  (ttSeq (ttSetIx 0 (ttBin fdivT (ttIx (tv 0) (tk (.int 0))) (tv 1)) (tk (.int 0)))
  (ttRet (tv 4)))) (ttNext))
  (ttSeq (ttSetIx 0 (ttBin addT (ttIx (tv 0) (tk (.int 2))) (tk (.int 1))) (tk (.int 2)))
  (ttSeq (ttSet 2 (ttBin modT (ttBin addT (ttIx (tv 0) (tk (.int 1))) (ttBin mulT (tk (.int 7919)) (ttIx (tv 0) (tk (.int 2))))) (tk (.int 1000000007))))
  (ttSeq (ttSet 3 (ttBin modT (ttBin mulT (ttBin addT (tv 2) (tk (.int 11))) (ttBin addT (tv 2) (tk (.int 48271)))) (tk (.int 998244353))))
  (ttRet (ttBin modT (ttBin fdivT (ttBin modT (ttBin mulT (tv 3) (tv 3)) (tk (.int 2147483647))) (tk (.int 8))) (tv 1))))))
theorem ok_law_next_b : ∀ as PR PX, sp_law_next_b as PR PX → rd_law_next_b (endsT as PR) (startT 5 as) := by
  rintro as PR PX ⟨a, b, c, base, rfl, h0, h1, k⟩
  unfold rd_law_next_b
  walk_at "tl"
  refine cnd_2 (fun h => ?_) (fun h => ?_)
  · walk_at "tl"
    walk_at "vc"
    exact k _ _ _ _ (Int.emod_nonneg _ (by omega)) (Int.emod_lt_of_pos _ h0)
  · walk_at "tl"
    walk_at "vc"
    exact k _ _ _ _ (Int.emod_nonneg _ (by omega)) (Int.emod_lt_of_pos _ h0)
theorem ln_law_next_b : ∀ as PR PX, sp_law_next_b as PR PX → as.length = 2 := by
  rintro as PR PX ⟨a, b, c, base, rfl, _⟩
  rfl
theorem i_next_b {a b c base : Int} {PR : R → List T → Prop} {PX : String → List T → Prop} (h0 : 0 < base) (h1 : base < 2 ^ 1000) (k : ∀ d a' b' c', 0 ≤ d → d < base → PR (.val false (.int d)) [pl a' b' c', .int base]) : sp_law_next_b [plA a b c, fz (.int base)] PR PX :=
  ⟨a, b, c, base, rfl, h0, h1, k⟩
def sp_law_pool_a : TSp := fun as PR PX => ∃ n, as = [fz (.int n)] ∧ ∀ a b c, PR (.val true (pl a b c)) [.int n]
def rd_law_pool_a : TTS := ttRet (ttLst (tlcons (ttCn max2T (tlcons (tk (.int 0)) (tlcons (ttBin subT (tv 0) (ttBin powT (tk (.int 10)) (tk (.int 18)))) (tlnil)))) (tlcons (ttBin modT (tv 0) (ttBin powT (tk (.int 10)) (tk (.int 18)))) (tlcons (tk (.int 0)) (tlnil)))))
theorem ok_law_pool_a : ∀ as PR PX, sp_law_pool_a as PR PX → rd_law_pool_a (endsT as PR) (startT 1 as) := by
  rintro as PR PX ⟨n, rfl, k⟩
  unfold rd_law_pool_a
  walk_at "tl"
  walk_at "vc"
  exact k _ _ _
theorem ln_law_pool_a : ∀ as PR PX, sp_law_pool_a as PR PX → as.length = 1 := by
  rintro as PR PX ⟨n, rfl, _⟩
  rfl
/-- base ** many, step by step -/
def sp_law_power_a : TSp := fun as PR PX => ∃ (b : Int) (n : Nat), as = [fz (.int b), fz (.int n)] ∧ 0 < b ∧ b < 2 ^ 20 ∧ n ≤ 200 ∧ PR (.val false (.int (b ^ n))) [.int b, .int n]
def rd_law_power_a : TTS := ttSeq (ttSet 2 (tk (.int 1)))
  (ttSeq (ttFor (tiRng1 (tlcons (tv 1) (tlnil))) (tgN 3) (ttSet 2 (ttBin mulT (tv 2) (tv 0))))
  (ttRet (tv 2)))
theorem ok_law_power_a : ∀ as PR PX, sp_law_power_a as PR PX → rd_law_power_a (endsT as PR) (startT 4 as) := by
  rintro as PR PX ⟨b, n, rfl, hb, hb2, hn, k⟩
  unfold rd_law_power_a
  walk_at "tl"
  refine ⟨by omega, ?_⟩
  refine forT_p (α := Int × Option T) (fun x => [some (fz (.int b)), some (fz (.int n)), some (fz (.int x.1)), ofT x.2]) (fun i x => x.1 = b ^ i) (1, none) rfl (by simp) (fun i t x ht hx => ?_) (fun x hx => ?_)
  · obtain ⟨y, o⟩ := x
    obtain ⟨hi, rfl⟩ := rngT_get ht
    simp only at hx
    subst hx
    walk_at "tl"
    refine ⟨?_, ?_⟩
    · exact Or.inr (Or.inl ⟨by omega, by omega⟩)
    · exact ⟨(b ^ i * b, some _), rfl, by simp [Int.pow_succ]⟩
  · obtain ⟨y, o⟩ := x
    simp only [rngT_len, Int.toNat_natCast] at hx
    subst hx
    walk_at "tl"
    exact k
theorem ln_law_power_a : ∀ as PR PX, sp_law_power_a as PR PX → as.length = 2 := by
  rintro as PR PX ⟨b, n, rfl, _⟩
  rfl
theorem cut_len {xs : List T} {lo hi : Option Int} : (cutT xs lo hi).length ≤ xs.length := by
  unfold cutT
  rw [List.length_take, List.length_drop]
  omega
theorem cells_mem {ns : List Int} {t : T} {n : Int} (h : t ∈ T.int 0 :: cutT (ns.map T.int) none (some n)) : ∃ i, t = .int i := by
  rcases List.mem_cons.mp h with h | h
  · exact ⟨0, h⟩
  · unfold cutT at h
    obtain ⟨i, _, rfl⟩ := List.mem_map.mp (List.mem_of_mem_drop (List.mem_of_mem_take h))
    exact ⟨i, rfl⟩
theorem i_pool_a {n : Int} {PR : R → List T → Prop} {PX : String → List T → Prop} (k : ∀ a b c, PR (.val true (pl a b c)) [.int n]) : sp_law_pool_a [fz (.int n)] PR PX := ⟨n, rfl, k⟩
def sp_law_sound_a : TSp := fun as PR PX => ∃ n : Int, as = [fz (.int n)] ∧ PR (.val false (.bl true)) [.int n]
def rd_law_sound_a : TTS := ttRet (ttAndV (ttIsi "int" (tv 0)) (ttNotV (ttIsi "bool" (tv 0))))
theorem ln_law_sound_a : ∀ as PR PX, sp_law_sound_a as PR PX → as.length = 1 := by
  rintro as PR PX ⟨n, rfl, _⟩
  rfl
theorem ok_law_sound_a : ∀ as PR PX, sp_law_sound_a as PR PX → rd_law_sound_a (endsT as PR) (startT 1 as) := by
  rintro as PR PX ⟨n, rfl, k⟩
  unfold rd_law_sound_a
  walk_at "tl"
  exact k
theorem pickI {is : List Int} {i : Int} {p : Int → Prop} (h0 : 0 ≤ i) (h1 : i < is.length) (h : ∀ n ∈ is, p n) : ∃ n, atI (is.map T.int) i = some (.int n) ∧ p n :=
  ⟨_, atI_int h0 h1, h _ (List.getElem_mem _)⟩
theorem i_law_sound_a {n : Int} {PR : R → List T → Prop} {PX : String → List T → Prop} (k : PR (.val false (.bl true)) [.int n]) : sp_law_sound_a [fz (.int n)] PR PX := ⟨n, rfl, k⟩
end Lib

namespace Lib
open PySem L2 TL
/-! ### rules and bars -/
structure StOk (ss : List Int) : Prop where
  pw : ss.Pairwise (· < ·)
  bd : ∀ s ∈ ss, 1 ≤ s ∧ s ≤ 10
  l0 : 0 < ss.length
  l1 : ss.length ≤ 4
def RlOk : Rl → Prop
  | .gaps ss => StOk ss
  | _ => True
def barP (r : Rl) (xs : List Int) (n : Int) (w : List Int) : Prop := match r with
  | .evens => ∃ x y, w = [x, y] ∧ x ∈ xs ∧ y ∈ xs ∧ x < y ∧ n = 2 * y - x
  | .sums => ∃ x y, w = [x, y] ∧ x ∈ xs ∧ y ∈ xs ∧ x ≤ y ∧ n = x + y
  | .pairs => ∃ x y z, w = [x, y, z] ∧ x ∈ xs ∧ y ∈ xs ∧ z ∈ xs ∧ x < y ∧ y ≤ z ∧ n = y + z - x
  | .gaps ss => ∃ x, w = [x] ∧ x ∈ xs ∧ n - x ∈ ss
def evB (xs : List Int) (n : Int) : List (List Int) := (xs.filter fun y => decide (2 * y - n ∈ xs) && decide (2 * y - n < y)).map fun y => [2 * y - n, y]
def suB (xs : List Int) (n : Int) : List (List Int) := (xs.filter fun x => decide (x ≤ n - x) && decide (n - x ∈ xs)).map fun x => [x, n - x]
def paS (xs : List Int) (n : Int) (i : Nat) : List (List Int) := ((xs.take i).filter fun x => decide (xs.getD i 0 ≤ n + x - xs.getD i 0) && decide (n + x - xs.getD i 0 ∈ xs)).map fun x => [x, xs.getD i 0, n + x - xs.getD i 0]
def paB (xs : List Int) (n : Int) : List (List Int) := (List.range xs.length).flatMap (paS xs n)
def gaB (ss xs : List Int) (n : Int) : List (List Int) := (ss.filter fun s => decide (n - s ∈ xs)).map fun s => [n - s]
def rawB (r : Rl) (xs : List Int) (n : Int) : List (List Int) := match r with
  | .evens => evB xs n
  | .sums => suB xs n
  | .pairs => paB xs n
  | .gaps ss => gaB ss xs n
def barsR (r : Rl) (xs : List Int) (n : Int) : List (List Int) := srtR (rawB r xs n)
theorem getD_at {xs : List Int} {i : Nat} (h : i < xs.length) : xs[i]? = some (xs.getD i 0) := by
  rw [List.getD_eq_getElem?_getD, List.getElem?_eq_getElem h]
  rfl
theorem sorted_take {xs : List Int} {i : Nat} {y x : Int} (hs : xs.Pairwise (· < ·)) (hy : xs[i]? = some y) : x ∈ xs.take i ↔ (x ∈ xs ∧ x < y) := by
  have h := sorted_drop0 hs hy (y := x)
  have e : x ∈ xs ↔ x ∈ xs.take i ∨ x ∈ xs.drop i := by
    rw [← List.mem_append, List.take_append_drop]
  have hn := hs
  rw [← List.take_append_drop i xs, List.pairwise_append] at hn
  constructor
  · intro hx
    refine ⟨e.mpr (.inl hx), ?_⟩
    have hyd : y ∈ xs.drop i := (sorted_drop0 hs hy).mpr ⟨List.mem_of_getElem? hy, Int.le_refl _⟩
    exact hn.2.2 x hx y hyd
  · rintro ⟨hx, hlt⟩
    rcases e.mp hx with q | q
    · exact q
    · have := (h.mp q).2
      omega
theorem nodup_lt {xs : List Int} (h : xs.Pairwise (· < ·)) : xs.Nodup := h.imp fun h => by omega
theorem mem_raw {r : Rl} {xs : List Int} {n : Int} {w : List Int} (hs : xs.Pairwise (· < ·)) : w ∈ rawB r xs n ↔ barP r xs n w := by
  cases r with
  | evens =>
    simp only [rawB, evB, barP, List.mem_map, List.mem_filter, Bool.and_eq_true, decide_eq_true_eq]
    constructor
    · rintro ⟨y, ⟨hy, hx, hl⟩, rfl⟩
      exact ⟨2 * y - n, y, rfl, hx, hy, hl, by omega⟩
    · rintro ⟨x, y, rfl, hx, hy, hl, e⟩
      have ex : x = 2 * y - n := by omega
      subst ex
      exact ⟨y, ⟨hy, hx, hl⟩, rfl⟩
  | sums =>
    simp only [rawB, suB, barP, List.mem_map, List.mem_filter, Bool.and_eq_true, decide_eq_true_eq]
    constructor
    · rintro ⟨x, ⟨hx, hl, hy⟩, rfl⟩
      exact ⟨x, n - x, rfl, hx, hy, hl, by omega⟩
    · rintro ⟨x, y, rfl, hx, hy, hl, e⟩
      have ey : y = n - x := by omega
      subst ey
      exact ⟨x, ⟨hx, hl, hy⟩, rfl⟩
  | pairs =>
    simp only [rawB, paB, paS, barP, List.mem_flatMap, List.mem_range, List.mem_map, List.mem_filter, Bool.and_eq_true, decide_eq_true_eq]
    constructor
    · rintro ⟨i, hi, x, ⟨hx, hl, hz⟩, rfl⟩
      have hy := getD_at hi
      obtain ⟨h1, h2⟩ := (sorted_take hs hy).mp hx
      exact ⟨x, _, _, rfl, h1, List.mem_of_getElem? hy, hz, h2, hl, by omega⟩
    · rintro ⟨x, y, z, rfl, hx, hy, hz, hl, hl2, e⟩
      obtain ⟨i, hi, ey⟩ := List.mem_iff_getElem.mp hy
      have hyi : xs[i]? = some y := by rw [List.getElem?_eq_getElem hi, ey]
      have eg : xs.getD i 0 = y := by rw [List.getD_eq_getElem?_getD, hyi]; rfl
      have ez : z = n + x - y := by omega
      subst ez
      exact ⟨i, hi, x, ⟨(sorted_take hs hyi).mpr ⟨hx, hl⟩, by rw [eg]; exact hl2, by rw [eg]; exact hz⟩, by rw [eg]⟩
  | gaps ss =>
    simp only [rawB, gaB, barP, List.mem_map, List.mem_filter, decide_eq_true_eq]
    constructor
    · rintro ⟨s, ⟨h1, h2⟩, rfl⟩
      exact ⟨n - s, rfl, h2, by rw [show n - (n - s) = s by omega]; exact h1⟩
    · rintro ⟨x, rfl, h1, h2⟩
      exact ⟨n - x, ⟨h2, by rw [show n - (n - x) = x by omega]; exact h1⟩, by rw [show n - (n - x) = x by omega]⟩
theorem nodup_map_inj {α : Type} {f : Int → α} (hf : ∀ a b, f a = f b → a = b) {xs : List Int} (h : xs.Nodup) : (xs.map f).Nodup := by
  rw [List.nodup_iff_pairwise_ne, List.pairwise_map]
  exact h.imp fun hab e => hab (hf _ _ e)
theorem nodup_raw {r : Rl} {xs : List Int} {n : Int} (hs : xs.Pairwise (· < ·)) (hr : RlOk r) : (rawB r xs n).Nodup := by
  cases r with
  | evens => exact nodup_map_inj (fun a b h => by injection h with _ h; injection h) ((nodup_lt hs).filter _)
  | sums => exact nodup_map_inj (fun a b h => by injection h) ((nodup_lt hs).filter _)
  | gaps ss => exact nodup_map_inj (fun a b h => by injection h with h; omega) ((nodup_lt hr.pw).filter _)
  | pairs =>
    unfold rawB paB
    rw [List.nodup_iff_pairwise_ne, List.pairwise_flatMap]
    refine ⟨fun i hi => ?_, ?_⟩
    · unfold paS
      rw [List.pairwise_map]
      have h1 : (xs.take i).Pairwise (· < ·) := hs.sublist (List.take_sublist ..)
      refine (h1.filter _).imp fun hab e => ?_
      injection e with e
      omega
    · refine List.pairwise_lt_range.imp_of_mem fun {i j} hi hj hij => ?_
      intro w hw v hv e
      subst e
      unfold paS at hw hv
      obtain ⟨x, _, rfl⟩ := List.mem_map.mp hw
      obtain ⟨y, _, e⟩ := List.mem_map.mp hv
      injection e with _ e
      injection e with e
      have hi := List.mem_range.mp hi
      have hj := List.mem_range.mp hj
      have := List.pairwise_iff_getElem.mp hs i j hi hj hij
      have e1 := getD_at hi
      have e2 := getD_at hj
      rw [List.getElem?_eq_getElem hi] at e1
      rw [List.getElem?_eq_getElem hj] at e2
      have e1 := Option.some.inj e1
      have e2 := Option.some.inj e2
      omega
theorem mem_bars {r : Rl} {xs : List Int} {n : Int} {w : List Int} (hs : xs.Pairwise (· < ·)) : w ∈ barsR r xs n ↔ barP r xs n w := by
  unfold barsR
  rw [(srtR_perm _).mem_iff, mem_raw hs]
theorem bars_of {r : Rl} {xs : List Int} {n : Int} {ws : List (List Int)} (hs : xs.Pairwise (· < ·)) (hr : RlOk r) (hn : ws.Nodup) (h : ∀ w, w ∈ ws ↔ barP r xs n w) : srtR ws = barsR r xs n :=
  srtR_ext hn (nodup_raw hs hr) fun w => by rw [h, mem_raw hs]
theorem barP_ne {r : Rl} {xs : List Int} {n : Int} {w : List Int} (h : barP r xs n w) : w ≠ [] := by
  cases r with
  | evens => obtain ⟨x, y, rfl, _⟩ := h; simp
  | sums => obtain ⟨x, y, rfl, _⟩ := h; simp
  | pairs => obtain ⟨x, y, z, rfl, _⟩ := h; simp
  | gaps ss => obtain ⟨x, rfl, _⟩ := h; simp
/-! ### bars gone through one by one -/
def lwS (r : Rl) (xs : List Int) (n : Int) (i : Nat) : List (List Int) := match r with
  | .evens => ((xs.drop (i + 1)).filter fun y => decide (y - xs.getD i 0 = n - y)).map fun y => [xs.getD i 0, y]
  | .sums => ((xs.drop i).filter fun y => decide (xs.getD i 0 + y = n)).map fun y => [xs.getD i 0, y]
  | .gaps ss => if n - xs.getD i 0 ∈ ss then [[xs.getD i 0]] else []
  | .pairs => (List.range (xs.length - (i + 1))).flatMap fun j => ((xs.drop (i + 1 + j)).filter fun z => decide (xs.getD (i + 1 + j) 0 + z = n + xs.getD i 0)).map fun z => [xs.getD i 0, xs.getD (i + 1 + j) 0, z]
def lwB (r : Rl) (xs : List Int) (n : Int) : List (List Int) := (List.range xs.length).flatMap (lwS r xs n)
theorem mem_lw {r : Rl} {xs : List Int} {n : Int} {w : List Int} (hs : xs.Pairwise (· < ·)) : w ∈ lwB r xs n ↔ barP r xs n w := by
  unfold lwB
  rw [List.mem_flatMap]
  have idx : ∀ x, x ∈ xs → ∃ i, i < xs.length ∧ xs[i]? = some x ∧ xs.getD i 0 = x := fun x hx => by
    obtain ⟨i, hi, e⟩ := List.mem_iff_getElem.mp hx
    have h : xs[i]? = some x := by rw [List.getElem?_eq_getElem hi, e]
    exact ⟨i, hi, h, by rw [List.getD_eq_getElem?_getD, h]; rfl⟩
  cases r with
  | evens =>
    simp only [lwS, barP, List.mem_range, List.mem_map, List.mem_filter, decide_eq_true_eq]
    constructor
    · rintro ⟨i, hi, y, ⟨hy, e⟩, rfl⟩
      have hx := getD_at hi
      obtain ⟨h1, h2⟩ := (sorted_drop hs hx).mp hy
      exact ⟨_, y, rfl, List.mem_of_getElem? hx, h1, h2, by omega⟩
    · rintro ⟨x, y, rfl, hx, hy, hl, e⟩
      obtain ⟨i, hi, hxi, eg⟩ := idx x hx
      exact ⟨i, hi, y, ⟨(sorted_drop hs hxi).mpr ⟨hy, hl⟩, by omega⟩, by rw [eg]⟩
  | sums =>
    simp only [lwS, barP, List.mem_range, List.mem_map, List.mem_filter, decide_eq_true_eq]
    constructor
    · rintro ⟨i, hi, y, ⟨hy, e⟩, rfl⟩
      have hx := getD_at hi
      obtain ⟨h1, h2⟩ := (sorted_drop0 hs hx).mp hy
      exact ⟨_, y, rfl, List.mem_of_getElem? hx, h1, h2, by omega⟩
    · rintro ⟨x, y, rfl, hx, hy, hl, e⟩
      obtain ⟨i, hi, hxi, eg⟩ := idx x hx
      exact ⟨i, hi, y, ⟨(sorted_drop0 hs hxi).mpr ⟨hy, hl⟩, by omega⟩, by rw [eg]⟩
  | gaps ss =>
    simp only [lwS, barP, List.mem_range]
    constructor
    · rintro ⟨i, hi, hw⟩
      split at hw
      · rename_i h
        rw [List.mem_singleton] at hw
        exact ⟨_, hw, List.mem_of_getElem? (getD_at hi), h⟩
      · cases hw
    · rintro ⟨x, rfl, hx, h⟩
      obtain ⟨i, hi, hxi, eg⟩ := idx x hx
      exact ⟨i, hi, by rw [eg, if_pos h]; simp⟩
  | pairs =>
    simp only [lwS, barP, List.mem_range, List.mem_flatMap, List.mem_map, List.mem_filter, decide_eq_true_eq]
    constructor
    · rintro ⟨i, hi, j, hj, z, ⟨hz, e⟩, rfl⟩
      have hx := getD_at hi
      have hy := getD_at (xs := xs) (i := i + 1 + j) (by omega)
      obtain ⟨h1, h2⟩ := (sorted_drop0 hs hy).mp hz
      have h3 : xs.getD (i + 1 + j) 0 ∈ xs.drop (i + 1) := by
        rw [List.mem_iff_getElem?]
        exact ⟨j, by rw [List.getElem?_drop]; exact hy⟩
      obtain ⟨h4, h5⟩ := (sorted_drop hs hx).mp h3
      exact ⟨_, _, z, rfl, List.mem_of_getElem? hx, h4, h1, h5, h2, by omega⟩
    · rintro ⟨x, y, z, rfl, hx, hy, hz, hl, hl2, e⟩
      obtain ⟨i, hi, hxi, eg⟩ := idx x hx
      have hyd := (sorted_drop hs hxi).mpr ⟨hy, hl⟩
      obtain ⟨j, hj⟩ := List.mem_iff_getElem?.mp hyd
      rw [List.getElem?_drop] at hj
      have hj' := (List.getElem?_eq_some_iff.mp hj).1
      have ey : xs.getD (i + 1 + j) 0 = y := by rw [List.getD_eq_getElem?_getD, hj]; rfl
      exact ⟨i, hi, j, by omega, z, ⟨(sorted_drop0 hs hj).mpr ⟨hz, hl2⟩, by rw [ey, eg]; omega⟩, by rw [ey, eg]⟩
theorem getD_inj {xs : List Int} (hs : xs.Pairwise (· < ·)) {i j : Nat} (hi : i < xs.length) (hj : j < xs.length) (h : i < j) : xs.getD i 0 < xs.getD j 0 := by
  have := List.pairwise_iff_getElem.mp hs i j hi hj h
  have e1 := getD_at hi
  have e2 := getD_at hj
  rw [List.getElem?_eq_getElem hi] at e1
  rw [List.getElem?_eq_getElem hj] at e2
  have e1 := Option.some.inj e1
  have e2 := Option.some.inj e2
  omega
theorem nodup_lw {r : Rl} {xs : List Int} {n : Int} (hs : xs.Pairwise (· < ·)) : (lwB r xs n).Nodup := by
  unfold lwB
  have hd : ∀ k, (xs.drop k).Pairwise (· < ·) := fun k => hs.sublist (List.drop_sublist ..)
  have head : ∀ i w, w ∈ lwS r xs n i → w.head? = some (xs.getD i 0) := fun i w hw => by
    cases r with
    | evens => obtain ⟨y, _, rfl⟩ := List.mem_map.mp hw; rfl
    | sums => obtain ⟨y, _, rfl⟩ := List.mem_map.mp hw; rfl
    | gaps ss =>
      simp only [lwS] at hw
      split at hw
      · rw [List.mem_singleton.mp hw]; rfl
      · cases hw
    | pairs =>
      obtain ⟨j, _, hw⟩ := List.mem_flatMap.mp hw
      obtain ⟨y, _, rfl⟩ := List.mem_map.mp hw; rfl
  rw [List.nodup_iff_pairwise_ne, List.pairwise_flatMap]
  refine ⟨fun i hi => ?_, ?_⟩
  · cases r with
    | evens =>
      simp only [lwS]
      rw [List.pairwise_map]
      exact ((hd _).filter _).imp fun hab e => by injection e with _ e; injection e with e; omega
    | sums =>
      simp only [lwS]
      rw [List.pairwise_map]
      exact ((hd _).filter _).imp fun hab e => by injection e with _ e; injection e with e; omega
    | gaps ss =>
      simp only [lwS]
      split
      · exact List.pairwise_singleton _ _
      · exact List.Pairwise.nil
    | pairs =>
      simp only [lwS]
      rw [List.pairwise_flatMap]
      refine ⟨fun j _ => ?_, ?_⟩
      · rw [List.pairwise_map]
        exact ((hd _).filter _).imp fun hab e => by injection e with _ e; injection e with _ e; injection e with e; omega
      · refine List.pairwise_lt_range.imp_of_mem fun {j k} hj hk hjk => ?_
        intro w hw v hv e
        subst e
        obtain ⟨x, _, rfl⟩ := List.mem_map.mp hw
        obtain ⟨y, _, e⟩ := List.mem_map.mp hv
        injection e with _ e
        injection e with e
        have hj := List.mem_range.mp hj
        have hk := List.mem_range.mp hk
        have := getD_inj hs (i := i + 1 + j) (j := i + 1 + k) (by omega) (by omega) (by omega)
        omega
  · refine List.pairwise_lt_range.imp_of_mem fun {i j} hi hj hij => ?_
    intro w hw v hv e
    subst e
    have e1 := head i w hw
    have e2 := head j w hv
    rw [e1] at e2
    have hi := List.mem_range.mp hi
    have hj := List.mem_range.mp hj
    have := getD_inj hs hi hj hij
    have := Option.some.inj e2
    omega
theorem lw_bars {r : Rl} {xs : List Int} {n : Int} (hs : xs.Pairwise (· < ·)) (hr : RlOk r) : srtR (lwB r xs n) = barsR r xs n := bars_of hs hr (nodup_lw hs) fun _ => mem_lw hs
/-! ### step by step -/
def evB' (xs : List Int) (n : Int) (ys : List Int) : List (List Int) := (ys.filter fun y => decide (2 * y - n ∈ xs) && decide (2 * y - n < y)).map fun y => [2 * y - n, y]
theorem evB'_len {xs ys : List Int} {n : Int} : (evB' xs n ys).length ≤ ys.length := by
  unfold evB'
  rw [List.length_map]
  exact List.length_filter_le _ _
theorem evB'_yes {xs ys : List Int} {n y : Int} (h : 2 * y - n ∈ xs) (h2 : 2 * y - n < y) : evB' xs n (ys ++ [y]) = evB' xs n ys ++ [[2 * y - n, y]] := by
  unfold evB'
  rw [List.filter_append, List.map_append, List.filter_cons, if_pos (by simp [h, h2])]
  rfl
theorem evB'_no {xs ys : List Int} {n y : Int} (h : ¬(2 * y - n ∈ xs ∧ 2 * y - n < y)) : evB' xs n (ys ++ [y]) = evB' xs n ys := by
  unfold evB'
  rw [List.filter_append, List.map_append, List.filter_cons, if_neg (by simpa using h)]
  simp
end Lib

namespace Lib
open PySem L2 TL
/-! ### draws -/
def sp_law_dig_a : TSp := fun as PR PX => ∃ n, as = [fz (.int n)] ∧ ∀ a b c, PR (.val true (pl a b c)) [.int n]
def rd_law_dig_a : TTS := ttRet (ttLst (tlcons (ttCn max2T (tlcons (tk (.int 0)) (tlcons (ttBin subT (tv 0) (ttBin powT (tk (.int 10)) (tk (.int 18)))) (tlnil)))) (tlcons (ttBin modT (tv 0) (ttBin powT (tk (.int 10)) (tk (.int 18)))) (tlcons (tk (.int 0)) (tlnil)))))
theorem ok_law_dig_a : ∀ as PR PX, sp_law_dig_a as PR PX → rd_law_dig_a (endsT as PR) (startT 1 as) := by
  rintro as PR PX ⟨n, rfl, k⟩
  unfold rd_law_dig_a
  walk_at "tl"
  walk_at "vc"
  exact k _ _ _
theorem ln_law_dig_a : ∀ as PR PX, sp_law_dig_a as PR PX → as.length = 1 := by
  rintro as PR PX ⟨n, rfl, _⟩
  rfl
theorem i_dig {n : Int} {PR : R → List T → Prop} {PX : String → List T → Prop} (k : ∀ a b c, PR (.val true (pl a b c)) [.int n]) : sp_law_dig_a [fz (.int n)] PR PX := ⟨n, rfl, k⟩
def sp_law_cells_a : TSp := fun as PR PX => ∃ (ns : List Int) (l m : Nat), as = [fz (.scr ns), fz (.int l), fz (.int m)] ∧ ns.length ≤ 63 ∧ l ≤ 100 ∧ ∀ cs : List Int, cs.length ≤ 200 → PR (.val true (.lst (cs.map T.int))) [.scr ns, .int l, .int m]
def rd_law_cells_a : TTS := ttSeq (ttSet 3 (ttC1 listT (ttSl (tv 0) (toN) (toS (tv 2)))))
  (ttSeq (ttWhile (ttB (ttBin (ltT) (ttC1 lenT (tv 3)) (tv 1))) (ttDrop (ttMut true 3 (tlcons (ttBin addT (ttBin mulT (ttBin mulT (tk (.int 7919)) (ttC1 lenT (tv 3))) (ttC1 lenT (tv 3))) (ttBin mulT (tk (.int 31)) (ttC1 lenT (tv 3)))) (tlnil)) appendG)))
  (ttRet (tv 3)))
theorem ln_law_cells_a : ∀ as PR PX, sp_law_cells_a as PR PX → as.length = 3 := by
  rintro as PR PX ⟨n, l, m, rfl, _⟩
  rfl
theorem ok_law_cells_a : ∀ as PR PX, sp_law_cells_a as PR PX → rd_law_cells_a (endsT as PR) (startT 4 as) := by
  rintro as PR PX ⟨ns, l, m, rfl, hn, hl, k⟩
  have sz := sizeLine_val
  unfold rd_law_cells_a
  walk_at "tl"
  rw [cut_takeI]
  refine while_b (α := List Int) (fun x => [some (fz (.scr ns)), some (fz (.int l)), some (fz (.int m)), some ⟨.own, false, .lst (x.map T.int)⟩]) (fun x => x.length ≤ 200) (fun x => l - x.length) (ns.take m) rfl (by rw [List.length_take]; omega) (fun x hI => ?_)
  walk_at "tl"
  simp only [List.length_map]
  refine cnd_2 (fun h => ?_) (fun h => ?_)
  · walk_at "tl"
    simp only [List.length_map]
    refine ⟨Or.inl (by decide), Or.inr (Or.inl ⟨by omega, by omega⟩), Or.inl (by decide), by omega, ?_⟩
    exact ⟨x ++ [7919 * (x.length : Int) * x.length + 31 * (x.length : Int)], by rw [List.map_append]; rfl, by simp only [List.length_append, List.length_singleton]; omega, by simp only [List.length_append, List.length_singleton]; omega⟩
  · walk_at "tl"
    exact k _ hI
theorem i_cells {ns : List Int} {l m : Nat} {PR : R → List T → Prop} {PX : String → List T → Prop} (hn : ns.length ≤ 63) (hl : l ≤ 100) (k : ∀ cs : List Int, cs.length ≤ 200 → PR (.val true (.lst (cs.map T.int))) [.scr ns, .int l, .int m]) : sp_law_cells_a [fz (.scr ns), fz (.int l), fz (.int m)] PR PX := ⟨ns, l, m, rfl, hn, hl, k⟩
def sp_law_rule_a : TSp := fun as PR PX => ∃ a b c, as = [plA a b c] ∧ ∀ r a b c, RlOk r → PR (.val false (ruleT r)) [pl a b c]
def rd_law_rule_a : TTS := ttSeq (ttSet 1 (ttCall sp_law_next_a nox (taV 0 (taF (tk (.int 5)) (taNil)))))
  (ttSeq (ttIfS (ttB (ttBin (ltT) (tv 1) (tk (.int 3)))) (ttRet (ttTup (tlcons (ttIx (ttLst (tlcons (tk (.str "evens")) (tlcons (tk (.str "sums")) (tlcons (tk (.str "pairs")) (tlnil))))) (tv 1)) (tlnil)))) (ttNext))
  (ttSeq (ttSet 2 (ttDict0))
  (ttSeq (ttFor (tiRng1 (tlcons (ttBin addT (tk (.int 1)) (ttCall sp_law_next_a nox (taV 0 (taF (tk (.int 4)) (taNil))))) (tlnil))) (tgN 3) (ttSetIx 2 (tk (.bl true)) (ttBin addT (tk (.int 1)) (ttCall sp_law_next_a nox (taV 0 (taF (tk (.int 10)) (taNil)))))))
  (ttRet (ttTup (tlcons (tk (.str "gaps")) (tlcons (ttC1 tupleT (ttC1 sortedDT (tv 2))) (tlnil))))))))
theorem ln_law_rule_a : ∀ as PR PX, sp_law_rule_a as PR PX → as.length = 1 := by
  rintro as PR PX ⟨a, b, c, rfl, _⟩
  rfl
structure StpI (i : Nat) (zs : List Int) : Prop where
  nd : zs.Nodup
  bd : ∀ z ∈ zs, 1 ≤ z ∧ z ≤ 10
  len : zs.length ≤ i
  pos : 0 < i → 0 < zs.length
theorem ok_law_rule_a : ∀ as PR PX, sp_law_rule_a as PR PX → rd_law_rule_a (endsT as PR) (startT 4 as) := by
  rintro as PR PX ⟨a, b, c, rfl, k⟩
  have sz := sizeLine_val
  unfold rd_law_rule_a
  walk_at "tl"
  refine i_next_a (by decide) (by decide) (fun d a b c d0 d1 => ?_)
  walk_at "tl"
  refine cnd_2 (fun h => ?_) (fun h => ?_)
  · walk_at "tl"
    obtain rfl | rfl | rfl : d = 0 ∨ d = 1 ∨ d = 2 := by omega
    all_goals
      walk_at "tl"
      walk_at "z"
    · exact k .evens _ _ _ trivial
    · exact k .sums _ _ _ trivial
    · exact k .pairs _ _ _ trivial
  · walk_at "tl"
    refine i_next_a (by decide) (by decide) (fun e a b c e0 e1 => ?_)
    walk_at "tl"
    refine ⟨by omega, ?_⟩
    refine forT_p (α := Int × Int × Int × List Int × List T × Option T) (fun x => [some (plA x.1 x.2.1 x.2.2.1), some (fz (.int d)), some ⟨.own, false, .dct (x.2.2.2.1.map Sum.inl) x.2.2.2.2.1⟩, ofT x.2.2.2.2.2]) (fun i x => StpI i x.2.2.2.1) (a, b, c, [], [], none) rfl ⟨List.nodup_nil, by simp, Nat.zero_le _, by simp⟩ (fun i t x ht hI => ?_) (fun x hI => ?_)
    · obtain ⟨a, b, c, zs, ts, o⟩ := x
      obtain ⟨hi, rfl⟩ := rngT_get ht
      obtain ⟨q1, q2, q3, q4⟩ := hI
      simp only at q1 q2 q3 q4
      walk_at "tl"
      refine i_next_a (by decide) (by decide) (fun v a b c v0 v1 => ?_)
      walk_at "tl"
      simp only [List.length_map]
      refine ⟨by omega, ?_⟩
      rw [dPutK_ints]
      refine ⟨(a, b, c, addI zs (1 + v), dPutV (zs.map Sum.inl) ts (Sum.inl (1 + v)) (.bl true), some _), rfl, addI_nd q1, fun z hz => ?_, Nat.le_trans addI_len (by omega), fun _ => addI_pos⟩
      rcases addI_mem.mp hz with q | q
      · exact q2 z q
      · rw [q]
        omega
    · obtain ⟨a, b, c, zs, ts, o⟩ := x
      obtain ⟨q1, q2, q3, q4⟩ := hI
      rw [rngT_len] at q3 q4
      simp only at q1 q2 q3 q4
      walk_at "tl"
      refine ⟨zs, rfl, ?_⟩
      walk_at "t"
      walk_at "z"
      refine k (.gaps (srt zs)) _ _ _ ⟨srt_lt q1, fun s hs => q2 s ((srt_perm zs).mem_iff.mp hs), ?_, ?_⟩
      · rw [(srt_perm zs).length_eq]
        exact q4 (by omega)
      · rw [(srt_perm zs).length_eq]
        omega
theorem i_rule_a {a b c : Int} {PR : R → List T → Prop} {PX : String → List T → Prop} (k : ∀ r a b c, RlOk r → PR (.val false (ruleT r)) [pl a b c]) : sp_law_rule_a [plA a b c] PR PX := ⟨a, b, c, rfl, k⟩
/-! ### bars, by the program -/
def sp_even_bars_a : TSp := fun as PR PX => ∃ o xs n, as = [fz (sqT o xs), fz (.int n)] ∧ xs.length ≤ 2000 ∧ PR (.val true (.lst ((evB xs n).map tupI))) [sqT o xs, .int n]
def rd_even_bars_a : TTS := ttSeq (ttSet 2 (ttLst (tlnil)))
  (ttSeq (ttFor (tiSeq (sl 0)) (tgN 3) (ttIfS (ttAnd (ttB (ttBin (inT false) (ttBin subT (ttBin mulT (tk (.int 2)) (tv 3)) (tv 1)) (tv 0))) (ttB (ttBin (ltT) (ttBin subT (ttBin mulT (tk (.int 2)) (tv 3)) (tv 1)) (tv 3)))) (ttDrop (ttMut true 2 (tlcons (ttTup (tlcons (ttBin subT (ttBin mulT (tk (.int 2)) (tv 3)) (tv 1)) (tlcons (tv 3) (tlnil)))) (tlnil)) appendG)) (ttNext)))
  (ttRet (tv 2)))
theorem ln_even_bars_a : ∀ as PR PX, sp_even_bars_a as PR PX → as.length = 2 := by
  rintro as PR PX ⟨o, xs, n, rfl, _⟩
  rfl
theorem ok_even_bars_a : ∀ as PR PX, sp_even_bars_a as PR PX → rd_even_bars_a (endsT as PR) (startT 4 as) := by
  rintro as PR PX ⟨o, xs, n, rfl, hl, k⟩
  have sz := sizeLine_val
  unfold rd_even_bars_a
  cases o
  all_goals
    simp only [sqT_t, sqT_f] at k ⊢
    walk_at "tl"
    refine ⟨by omega, ?_⟩
    refine forT_p (α := List (List Int) × Option T) (fun x => [some ⟨.frz, true, _⟩, some (fz (.int n)), some ⟨.own, false, .lst (x.1.map tupI)⟩, ofT x.2]) (fun i x => x.1 = evB' xs n (xs.take i)) ([], none) rfl rfl (fun i t x ht hI => ?_) (fun x hI => ?_)
    · obtain ⟨w, o⟩ := x
      obtain ⟨y, hy, rfl⟩ := ints_get ht
      simp only at hI
      subst hI
      have hwl : (evB' xs n (xs.take i)).length ≤ 2000 := Nat.le_trans evB'_len (by rw [List.length_take]; omega)
      have tk : xs.take (i + 1) = xs.take i ++ [y] := by rw [List.take_add_one, hy]; rfl
      walk_at "tl"
      refine ⟨Or.inl (by decide), ?_⟩
      refine cnd_2 (fun h => ?_) (fun h => ?_)
      · walk_at "tl"
        refine ⟨Or.inl (by decide), ?_⟩
        refine cnd_2 (fun h2 => ?_) (fun h2 => ?_)
        · walk_at "tl"
          refine ⟨Or.inl (by decide), by omega, by rw [List.length_map]; omega, ?_⟩
          exact ⟨(evB' xs n (xs.take i) ++ [[2 * y - n, y]], some _), by rw [List.map_append]; rfl, by rw [tk, evB'_yes h h2]⟩
        · walk_at "tl"
          exact ⟨(evB' xs n (xs.take i), some _), rfl, by rw [tk, evB'_no fun q => h2 q.2]⟩
      · walk_at "tl"
        exact ⟨(evB' xs n (xs.take i), some _), rfl, by rw [tk, evB'_no fun q => h q.1]⟩
    · obtain ⟨w, o⟩ := x
      rw [List.length_map, List.take_length] at hI
      simp only at hI
      subst hI
      walk_at "tl"
      exact k
end Lib

namespace Lib
open PySem L2 TL
theorem i_even_bars {o : Bool} {xs : List Int} {n : Int} {PR : R → List T → Prop} {PX : String → List T → Prop} (hl : xs.length ≤ 2000) (k : PR (.val true (.lst ((evB xs n).map tupI))) [sqT o xs, .int n]) : sp_even_bars_a [fz (sqT o xs), fz (.int n)] PR PX := ⟨o, xs, n, rfl, hl, k⟩
def sp_sum_bars_a : TSp := fun as PR PX => ∃ o xs n, as = [fz (sqT o xs), fz (.int n)] ∧ xs.length ≤ 2000 ∧ PR (.val true (.lst ((suB xs n).map tupI))) [sqT o xs, .int n]
def rd_sum_bars_a : TTS := ttRet (ttLc (tiSeq (sl 0)) (tgN 2) (ttAnd (ttB (ttBin (leT) (tv 2) (ttBin subT (tv 1) (tv 2)))) (ttB (ttBin (inT false) (ttBin subT (tv 1) (tv 2)) (tv 0)))) (ttTup (tlcons (tv 2) (tlcons (ttBin subT (tv 1) (tv 2)) (tlnil)))) [2])
theorem ln_sum_bars_a : ∀ as PR PX, sp_sum_bars_a as PR PX → as.length = 2 := by
  rintro as PR PX ⟨o, xs, n, rfl, _⟩
  rfl
theorem ok_sum_bars_a : ∀ as PR PX, sp_sum_bars_a as PR PX → rd_sum_bars_a (endsT as PR) (startT 3 as) := by
  rintro as PR PX ⟨o, xs, n, rfl, hl, k⟩
  have sz := sizeLine_val
  unfold rd_sum_bars_a
  cases o
  all_goals
    simp only [sqT_t, sqT_f] at k ⊢
    walk_at "tl"
    refine lcT_ft (fun x => decide (x ≤ n - x) && decide (n - x ∈ xs)) (fun x => tupI [x, n - x]) (by walk_at "fz") (by omega) (fun x hx => ?_) ?_
    · walk_at "tl"
      refine cnd_2 (fun h => ?_) (fun h => ?_)
      · walk_at "tl"
        refine cnd_2 (fun h2 => ?_) (fun h2 => ?_)
        · walk_at "tl"
          refine ⟨by omega, ?_⟩
          rw [intFT_y (by simp [h, h2])]
          rfl
        · walk_at "tl"
          exact intFT_n (by simp [h2])
      · walk_at "tl"
        exact intFT_n (by simp [h])
    rw [map_row]
    walk_at "tl"
    exact k
theorem i_sum_bars {o : Bool} {xs : List Int} {n : Int} {PR : R → List T → Prop} {PX : String → List T → Prop} (hl : xs.length ≤ 2000) (k : PR (.val true (.lst ((suB xs n).map tupI))) [sqT o xs, .int n]) : sp_sum_bars_a [fz (sqT o xs), fz (.int n)] PR PX := ⟨o, xs, n, rfl, hl, k⟩
def paS' (xs : List Int) (n y : Int) (ys : List Int) : List (List Int) := (ys.filter fun x => decide (y ≤ n + x - y) && decide (n + x - y ∈ xs)).map fun x => [x, y, n + x - y]
theorem paS_eq {xs : List Int} {n : Int} {i : Nat} {y : Int} (h : xs[i]? = some y) : paS xs n i = paS' xs n y (xs.take i) := by
  unfold paS paS'
  rw [List.getD_eq_getElem?_getD, h]
  rfl
theorem paS'_len {xs ys : List Int} {n y : Int} : (paS' xs n y ys).length ≤ ys.length := by
  unfold paS'
  rw [List.length_map]
  exact List.length_filter_le _ _
theorem paS'_yes {xs ys : List Int} {n y x : Int} (h : y ≤ n + x - y) (h2 : n + x - y ∈ xs) : paS' xs n y (ys ++ [x]) = paS' xs n y ys ++ [[x, y, n + x - y]] := by
  unfold paS'
  rw [List.filter_append, List.map_append, List.filter_cons, if_pos (by simp [h, h2])]
  rfl
theorem paS'_no {xs ys : List Int} {n y x : Int} (h : ¬(y ≤ n + x - y ∧ n + x - y ∈ xs)) : paS' xs n y (ys ++ [x]) = paS' xs n y ys := by
  unfold paS'
  rw [List.filter_append, List.map_append, List.filter_cons, if_neg (by simpa using h)]
  simp
theorem flat_len {α β : Type} {f : α → List β} {m : Nat} (hf : ∀ a, (f a).length ≤ m) : ∀ l : List α, (l.flatMap f).length ≤ l.length * m
  | [] => by simp
  | a :: l => by
    have ih := flat_len hf l
    have := hf a
    rw [List.flatMap_cons, List.length_append, List.length_cons, Nat.add_mul]
    omega
theorem flat_snoc {β : Type} {f : Nat → List β} {i : Nat} : (List.range (i + 1)).flatMap f = (List.range i).flatMap f ++ f i := by
  rw [List.range_succ, List.flatMap_append]
  simp
def sp_pair_bars_a : TSp := fun as PR PX => ∃ o xs n, as = [fz (sqT o xs), fz (.int n)] ∧ xs.length ≤ 2000 ∧ PR (.val true (.lst ((paB xs n).map tupI))) [sqT o xs, .int n]
def rd_pair_bars_a : TTS := ttSeq (ttSet 2 (ttLst (tlnil)))
  (ttSeq (ttFor (tiEnum (sl 0)) (tgTup 2 (tgsCons (tgN 3) (tgsCons (tgN 4) (tgsNil)))) (ttFor (tiSeq (sf (ttSl (tv 0) (toN) (toS (tv 3))))) (tgN 5) (ttIfS (ttAnd (ttB (ttBin (geT) (ttBin subT (ttBin addT (tv 1) (tv 5)) (tv 4)) (tv 4))) (ttB (ttBin (inT false) (ttBin subT (ttBin addT (tv 1) (tv 5)) (tv 4)) (tv 0)))) (ttDrop (ttMut true 2 (tlcons (ttTup (tlcons (tv 5) (tlcons (tv 4) (tlcons (ttBin subT (ttBin addT (tv 1) (tv 5)) (tv 4)) (tlnil))))) (tlnil)) appendG)) (ttNext))))
  (ttRet (tv 2)))
theorem ln_pair_bars_a : ∀ as PR PX, sp_pair_bars_a as PR PX → as.length = 2 := by
  rintro as PR PX ⟨o, xs, n, rfl, _⟩
  rfl
theorem ok_pair_bars_a : ∀ as PR PX, sp_pair_bars_a as PR PX → rd_pair_bars_a (endsT as PR) (startT 6 as) := by
  rintro as PR PX ⟨o, xs, n, rfl, hl, k⟩
  have sz := sizeLine_val
  have tot : ∀ i, i ≤ 2000 → ((List.range i).flatMap (paS xs n)).length ≤ 4000000 := fun i hi => by
    refine Nat.le_trans (flat_len (m := 2000) (fun j => ?_) _) ?_
    · unfold paS
      rw [List.length_map]
      exact Nat.le_trans (List.length_filter_le _ _) (by rw [List.length_take]; omega)
    · rw [List.length_range]
      exact Nat.mul_le_mul_right 2000 hi
  unfold rd_pair_bars_a
  cases o
  all_goals
    simp only [sqT_t, sqT_f] at k ⊢
    walk_at "tl"
    refine ⟨by omega, ?_⟩
    refine forT_p (α := List (List Int) × Option T × Option T × Option T) (fun x => [some ⟨.frz, true, _⟩, some (fz (.int n)), some ⟨.own, false, .lst (x.1.map tupI)⟩, ofT x.2.1, ofT x.2.2.1, ofT x.2.2.2]) (fun i x => x.1 = (List.range i).flatMap (paS xs n)) ([], none, none, none) rfl rfl (fun i t x ht hI => ?_) (fun x hI => ?_)
    · obtain ⟨w, o3, o4, o5⟩ := x
      obtain ⟨y, hy, rfl⟩ := numd_ints_get ht
      have hi : i < xs.length := (List.getElem?_eq_some_iff.mp hy).1
      simp only at hI
      subst hI
      have hw := tot i (by omega)
      have htl : (xs.take i).length ≤ 2000 := by rw [List.length_take]; omega
      walk_at "tl"
      rw [cut_takeI]
      refine forT_p (α := List (List Int) × Option T) (fun x => [some ⟨.frz, true, _⟩, some (fz (.int n)), some ⟨.own, false, .lst (x.1.map tupI)⟩, some (fz (.int i)), some (fz (.int y)), ofT x.2]) (fun j x => x.1 = (List.range i).flatMap (paS xs n) ++ paS' xs n y ((xs.take i).take j)) ((List.range i).flatMap (paS xs n), o5) rfl (by simp only [List.take_zero, paS', List.filter_nil, List.map_nil, List.append_nil]) (fun j t x ht hJ => ?_) (fun x hJ => ?_)
      · obtain ⟨w, o5⟩ := x
        obtain ⟨x, hx, rfl⟩ := ints_get ht
        simp only at hJ
        subst hJ
        have hp : (paS' xs n y ((xs.take i).take j)).length ≤ 2000 := Nat.le_trans paS'_len (by rw [List.length_take]; omega)
        have tk : (xs.take i).take (j + 1) = (xs.take i).take j ++ [x] := by rw [List.take_add_one, hx]; rfl
        walk_at "tl"
        refine cnd_2 (fun h => ?_) (fun h => ?_)
        · walk_at "tl"
          refine cnd_2 (fun h2 => ?_) (fun h2 => ?_)
          · walk_at "tl"
            refine ⟨by omega, by rw [List.length_map, List.length_append]; omega, ?_⟩
            exact ⟨((List.range i).flatMap (paS xs n) ++ paS' xs n y ((xs.take i).take j) ++ [[x, y, n + x - y]], some (.int x)), by simp only [List.map_append]; rfl, by rw [tk, paS'_yes h h2, List.append_assoc]⟩
          · walk_at "tl"
            exact ⟨((List.range i).flatMap (paS xs n) ++ paS' xs n y ((xs.take i).take j), some (.int x)), by simp only [List.map_append]; rfl, by rw [tk, paS'_no fun q => h2 q.2]⟩
        · walk_at "tl"
          exact ⟨((List.range i).flatMap (paS xs n) ++ paS' xs n y ((xs.take i).take j), some (.int x)), by simp only [List.map_append]; rfl, by rw [tk, paS'_no fun q => h q.1]⟩
      · obtain ⟨w, o5⟩ := x
        rw [List.length_map, List.take_length] at hJ
        simp only at hJ
        subst hJ
        walk_at "tl"
        exact ⟨((List.range i).flatMap (paS xs n) ++ paS' xs n y (xs.take i), some _, some _, o5), by simp only [List.map_append]; rfl, by rw [flat_snoc, paS_eq hy]⟩
    · obtain ⟨w, o3, o4, o5⟩ := x
      rw [numd_len, List.length_map] at hI
      simp only at hI
      subst hI
      walk_at "tl"
      exact k
theorem i_pair_bars {o : Bool} {xs : List Int} {n : Int} {PR : R → List T → Prop} {PX : String → List T → Prop} (hl : xs.length ≤ 2000) (k : PR (.val true (.lst ((paB xs n).map tupI))) [sqT o xs, .int n]) : sp_pair_bars_a [fz (sqT o xs), fz (.int n)] PR PX := ⟨o, xs, n, rfl, hl, k⟩
def sp_all_bars_a : TSp := fun as PR PX => ∃ r o xs n, as = [fz (ruleT r), fz (sqT o xs), fz (.int n)] ∧ RlOk r ∧ xs.length ≤ 2000 ∧ PR (.val true (.lst ((barsR r xs n).map tupI))) [ruleT r, sqT o xs, .int n]
def rd_all_bars_a : TTS := ttSeq (ttIfS (ttB (ttBin (eqT) (ttIx (tv 0) (tk (.int 0))) (tk (.str "evens")))) (ttRet (ttC1 sortedRT (ttCall sp_even_bars_a nox (taF (tv 1) (taF (tv 2) (taNil)))))) (ttNext))
  (ttSeq (ttIfS (ttB (ttBin (eqT) (ttIx (tv 0) (tk (.int 0))) (tk (.str "sums")))) (ttRet (ttC1 sortedRT (ttCall sp_sum_bars_a nox (taF (tv 1) (taF (tv 2) (taNil)))))) (ttNext))
  (ttSeq (ttIfS (ttB (ttBin (eqT) (ttIx (tv 0) (tk (.int 0))) (tk (.str "pairs")))) (ttRet (ttC1 sortedRT (ttCall sp_pair_bars_a nox (taF (tv 1) (taF (tv 2) (taNil)))))) (ttNext))
  (ttRet (ttC1 sortedRT (ttLc (tiSeq (sf (ttIx (tv 0) (tk (.int 1))))) (tgN 3) (ttB (ttBin (inT false) (ttBin subT (tv 2) (tv 3)) (tv 1))) (ttTup (tlcons (ttBin subT (tv 2) (tv 3)) (tlnil))) [3])))))
theorem ln_all_bars_a : ∀ as PR PX, sp_all_bars_a as PR PX → as.length = 3 := by
  rintro as PR PX ⟨r, o, xs, n, rfl, _⟩
  rfl
theorem ne_map {α : Type} {f : α → List Int} (h : ∀ a, f a ≠ []) {l : List α} : ∀ w ∈ l.map f, w ≠ [] := fun w hw => by
  obtain ⟨a, _, rfl⟩ := List.mem_map.mp hw
  exact h a
theorem ok_all_bars_a : ∀ as PR PX, sp_all_bars_a as PR PX → rd_all_bars_a (endsT as PR) (startT 4 as) := by
  rintro as PR PX ⟨r, o, xs, n, rfl, hr, hl, k⟩
  have sz := sizeLine_val
  unfold rd_all_bars_a
  cases r with
  | evens =>
    walk_at "tl"
    refine i_even_bars hl ?_
    walk_at "tl"
    refine ⟨evB xs n, rfl, ne_map fun _ => by simp, ?_⟩
    exact k
  | sums =>
    walk_at "tl"
    refine i_sum_bars hl ?_
    walk_at "tl"
    refine ⟨suB xs n, rfl, ne_map fun _ => by simp, ?_⟩
    exact k
  | pairs =>
    walk_at "tl"
    refine i_pair_bars hl ?_
    walk_at "tl"
    refine ⟨paB xs n, rfl, fun w hw => ?_, ?_⟩
    · obtain ⟨i, _, hw⟩ := List.mem_flatMap.mp hw
      exact ne_map (fun _ => by simp) w hw
    · exact k
  | gaps ss =>
    have hs := hr.l1
    cases o
    all_goals
      simp only [sqT_t, sqT_f] at k ⊢
      walk_at "tl"
      refine lcT_ft (fun s => decide (n - s ∈ xs)) (fun s => tupI [n - s]) (by walk_at "fz") (by omega) (fun s _ => ?_) ?_
      · walk_at "tl"
        refine cnd_2 (fun h => ?_) (fun h => ?_)
        · walk_at "tl"
          refine ⟨by omega, ?_⟩
          rw [intFT_y (by simp [h])]
          rfl
        · walk_at "tl"
          exact intFT_n (by simp [h])
      rw [map_row]
      walk_at "tl"
      refine ⟨_, rfl, ne_map fun _ => by simp, ?_⟩
      exact k
theorem i_all_bars {r : Rl} {o : Bool} {xs : List Int} {n : Int} {PR : R → List T → Prop} {PX : String → List T → Prop} (hr : RlOk r) (hl : xs.length ≤ 2000) (k : PR (.val true (.lst ((barsR r xs n).map tupI))) [ruleT r, sqT o xs, .int n]) : sp_all_bars_a [fz (ruleT r), fz (sqT o xs), fz (.int n)] PR PX := ⟨r, o, xs, n, rfl, hr, hl, k⟩
theorem i_all_barsT {r : Rl} {xs : List Int} {n : Int} {PR : R → List T → Prop} {PX : String → List T → Prop} (hr : RlOk r) (hl : xs.length ≤ 2000) (k : PR (.val true (.lst ((barsR r xs n).map tupI))) [ruleT r, .tup (xs.map T.int), .int n]) : sp_all_bars_a [fz (ruleT r), fz (.tup (xs.map T.int)), fz (.int n)] PR PX := ⟨r, false, xs, n, rfl, hr, hl, k⟩
def barT (r : Rl) (xs : List Int) (n : Int) : T := match barsR r xs n with
  | [] => .non
  | w :: _ => tupI w
def sp_bar_a : TSp := fun as PR PX => ∃ r o xs n, as = [fz (ruleT r), fz (sqT o xs), fz (.int n)] ∧ RlOk r ∧ xs.length ≤ 2000 ∧ PR (.val false (barT r xs n)) [ruleT r, sqT o xs, .int n]
def rd_bar_a : TTS := ttSeq (ttSet 3 (ttCall sp_all_bars_a nox (taF (tv 0) (taF (tv 1) (taF (tv 2) (taNil))))))
  (ttSeq (ttIfS (ttB (ttBin (eqT) (tv 3) (ttLst (tlnil)))) (ttRet (tk .non)) (ttNext))
  (ttRet (ttIx (tv 3) (tk (.int 0)))))
theorem ln_bar_a : ∀ as PR PX, sp_bar_a as PR PX → as.length = 3 := by
  rintro as PR PX ⟨r, o, xs, n, rfl, _⟩
  rfl
theorem ok_bar_a : ∀ as PR PX, sp_bar_a as PR PX → rd_bar_a (endsT as PR) (startT 4 as) := by
  rintro as PR PX ⟨r, o, xs, n, rfl, hr, hl, k⟩
  have sz := sizeLine_val
  unfold rd_bar_a
  walk_at "tl"
  refine i_all_bars hr hl ?_
  walk_at "tl"
  refine ⟨by omega, ?_⟩
  refine cnd_2 (fun h => ?_) (fun h => ?_)
  · walk_at "tl"
    unfold barT at k
    rw [h] at k
    exact k
  · walk_at "tl"
    unfold barT at k
    cases e : barsR r xs n with
    | nil => exact absurd e h
    | cons w ws =>
      rw [e] at k
      walk_at "tl"
      exact k
theorem i_bar {r : Rl} {o : Bool} {xs : List Int} {n : Int} {PR : R → List T → Prop} {PX : String → List T → Prop} (hr : RlOk r) (hl : xs.length ≤ 2000) (k : PR (.val false (barT r xs n)) [ruleT r, sqT o xs, .int n]) : sp_bar_a [fz (ruleT r), fz (sqT o xs), fz (.int n)] PR PX := ⟨r, o, xs, n, rfl, hr, hl, k⟩
theorem i_barT {r : Rl} {xs : List Int} {n : Int} {PR : R → List T → Prop} {PX : String → List T → Prop} (hr : RlOk r) (hl : xs.length ≤ 2000) (k : PR (.val false (barT r xs n)) [ruleT r, .tup (xs.map T.int), .int n]) : sp_bar_a [fz (ruleT r), fz (.tup (xs.map T.int)), fz (.int n)] PR PX := ⟨r, false, xs, n, rfl, hr, hl, k⟩
end Lib

namespace Lib
open PySem L2 TL
/-! ### bars gone through, in the law -/
def sqA (b : Bool) (xs : List Int) : Sl := if b = true then ag 1 (.lst (xs.map T.int)) else fz (.tup (xs.map T.int))
def sp_law_bars_a : TSp := fun as PR PX => ∃ r o xs n, as = [fz (ruleT r), sqA o xs, fz (.int n)] ∧ RlOk r ∧ xs.Pairwise (· < ·) ∧ xs.length ≤ 100 ∧ PR (.val true (.lst ((barsR r xs n).map tupI))) [ruleT r, sqT o xs, .int n]
def rd_law_bars_a : TTS := ttSeq (ttSet 3 (ttLst (tlnil)))
  (ttSeq (ttFor (tiRng1 (tlcons (ttC1 lenT (tv 1)) (tlnil))) (tgN 4) (ttSeq (ttSet 5 (ttIx (tv 1) (tv 4)))
  (ttSeq (ttIfS (ttAnd (ttB (ttBin (eqT) (ttIx (tv 0) (tk (.int 0))) (tk (.str "gaps")))) (ttB (ttBin (inT false) (ttBin subT (tv 2) (tv 5)) (ttIx (tv 0) (tk (.int 1)))))) (ttDrop (ttMut true 3 (tlcons (ttTup (tlcons (tv 5) (tlnil))) (tlnil)) appendG)) (ttNext))
  (ttSeq (ttIfS (ttB (ttBin (eqT) (ttIx (tv 0) (tk (.int 0))) (tk (.str "sums")))) (ttSet 3 (ttBin addT (tv 3) (ttLc (tiSeq (sf (ttSl (tv 1) (toS (tv 4)) (toN)))) (tgN 7) (ttB (ttBin (eqT) (ttBin addT (tv 5) (tv 7)) (tv 2))) (ttTup (tlcons (tv 5) (tlcons (tv 7) (tlnil)))) [7]))) (ttNext))
  (ttSeq (ttIfS (ttB (ttBin (eqT) (ttIx (tv 0) (tk (.int 0))) (tk (.str "evens")))) (ttSet 3 (ttBin addT (tv 3) (ttLc (tiSeq (sf (ttSl (tv 1) (toS (ttBin addT (tv 4) (tk (.int 1)))) (toN)))) (tgN 7) (ttB (ttBin (eqT) (ttBin subT (tv 7) (tv 5)) (ttBin subT (tv 2) (tv 7)))) (ttTup (tlcons (tv 5) (tlcons (tv 7) (tlnil)))) [7]))) (ttNext))
  (ttIfS (ttB (ttBin (eqT) (ttIx (tv 0) (tk (.int 0))) (tk (.str "pairs")))) (ttFor (tiRng2 (tlcons (ttBin addT (tv 4) (tk (.int 1))) (tlcons (ttC1 lenT (tv 1)) (tlnil)))) (tgN 6) (ttSet 3 (ttBin addT (tv 3) (ttLc (tiSeq (sf (ttSl (tv 1) (toS (tv 6)) (toN)))) (tgN 8) (ttB (ttBin (eqT) (ttBin addT (ttIx (tv 1) (tv 6)) (tv 8)) (ttBin addT (tv 2) (tv 5)))) (ttTup (tlcons (tv 5) (tlcons (ttIx (tv 1) (tv 6)) (tlcons (tv 8) (tlnil))))) [8])))) (ttNext)))))))
  (ttRet (ttC1 sortedRT (tv 3))))
theorem ln_law_bars_a : ∀ as PR PX, sp_law_bars_a as PR PX → as.length = 3 := by
  rintro as PR PX ⟨r, o, xs, n, rfl, _⟩
  rfl
theorem lwS_len {r : Rl} {xs : List Int} {n : Int} (hl : xs.length ≤ 100) (i : Nat) : (lwS r xs n i).length ≤ 10000 := by
  have hd : ∀ k p, ((xs.drop k).filter p).length ≤ 100 := fun k p => Nat.le_trans (List.length_filter_le _ _) (by rw [List.length_drop]; omega)
  cases r with
  | evens =>
    have := hd (i + 1) fun y => decide (y - xs.getD i 0 = n - y)
    simp only [lwS, List.length_map]
    omega
  | sums =>
    have := hd i fun y => decide (xs.getD i 0 + y = n)
    simp only [lwS, List.length_map]
    omega
  | gaps ss =>
    simp only [lwS]
    split <;> simp
  | pairs =>
    simp only [lwS]
    refine Nat.le_trans (flat_len (m := 100) (fun j => ?_) _) ?_
    · rw [List.length_map]
      exact hd _ _
    · rw [List.length_range]
      omega
def lwU (r : Rl) (xs : List Int) (n : Int) (i : Nat) : List (List Int) := (List.range i).flatMap (lwS r xs n)
theorem lwU_len {r : Rl} {xs : List Int} {n : Int} (hl : xs.length ≤ 100) {i : Nat} (hi : i ≤ 100) : (lwU r xs n i).length ≤ 1000000 := by
  refine Nat.le_trans (flat_len (m := 10000) (fun j => lwS_len hl j) _) ?_
  rw [List.length_range]
  exact Nat.mul_le_mul_right 10000 hi
def lwP (xs : List Int) (n : Int) (i j : Nat) : List (List Int) := (List.range j).flatMap fun j => ((xs.drop (i + 1 + j)).filter fun z => decide (xs.getD (i + 1 + j) 0 + z = n + xs.getD i 0)).map fun z => [xs.getD i 0, xs.getD (i + 1 + j) 0, z]
theorem atI_getD {xs : List Int} {i : Nat} (h : i < xs.length) : atI (xs.map T.int) (i : Int) = some (.int (xs.getD i 0)) := by
  rw [atI_map, atI_nat (getD_at h)]
  rfl
theorem ok_law_bars_a : ∀ as PR PX, sp_law_bars_a as PR PX → rd_law_bars_a (endsT as PR) (startT 9 as) := by
  rintro as PR PX ⟨r, o, xs, n, rfl, hr, hs, hl, k⟩
  have sz := sizeLine_val
  have e2 := lw_bars (n := n) hs hr
  have ne : ∀ w ∈ lwB r xs n, w ≠ [] := fun w hw => barP_ne ((mem_lw hs).mp hw)
  unfold rd_law_bars_a
  cases o
  all_goals
    simp only [sqT, sqA, if_true, Bool.false_eq_true, if_false] at k ⊢
    walk_at "tl"
    simp only [List.length_map]
    refine ⟨by omega, by omega, ?_⟩
    refine forT_p (α := List (List Int) × Option T × Option T × Option T) (fun x => [some (fz (ruleT r)), _, some (fz (.int n)), some ⟨.own, false, .lst (x.1.map tupI)⟩, ofT x.2.1, ofT x.2.2.1, ofT x.2.2.2, none, none]) (fun i x => x.1 = lwU r xs n i) ([], none, none, none) rfl rfl (fun i t x ht hI => ?_) (fun x hI => ?_)
    · obtain ⟨w, o4, o5, o6⟩ := x
      obtain ⟨hi, rfl⟩ := rngT_get ht
      have hi : i < xs.length := by simpa using hi
      simp only at hI
      subst hI
      have hax := atI_getD hi
      have hU := lwU_len (r := r) (n := n) hl (i := i) (by omega)
      have hS := lwS_len (r := r) (n := n) hl i
      have hsn : lwU r xs n (i + 1) = lwU r xs n i ++ lwS r xs n i := flat_snoc
      have hdl : ∀ k, (xs.drop k).length ≤ 100 := fun k => by rw [List.length_drop]; omega
      walk_at "tl"
      refine ⟨_, hax, ?_⟩
      walk_at "t"
      cases r with
      | gaps ss =>
        walk_at "tl"
        refine cnd_2 (fun h => ?_) (fun h => ?_)
        · walk_at "tl"
          refine ⟨by omega, by rw [List.length_map]; omega, ?_⟩
          exact ⟨(lwU (.gaps ss) xs n i ++ [[xs.getD i 0]], some _, some _, o6), by rw [List.map_append]; rfl, by rw [hsn]; simp only [lwS, if_pos h]⟩
        · walk_at "tl"
          exact ⟨(lwU (.gaps ss) xs n i, some _, some _, o6), rfl, by rw [hsn]; simp only [lwS, if_neg h, List.append_nil]⟩
      | sums =>
        walk_at "tl"
        rw [cut_dropI]
        refine lcT_ft (fun y => decide (xs.getD i 0 + y = n)) (fun y => tupI [xs.getD i 0, y]) (by walk_at "fz") (by have := hdl i; omega) (fun y _ => ?_) ?_
        · walk_at "tl"
          refine cnd_2 (fun h => ?_) (fun h => ?_)
          · walk_at "tl"
            refine ⟨by omega, ?_⟩
            rw [intFT_y (decide_eq_true h)]
            rfl
          · walk_at "tl"
            exact intFT_n (decide_eq_false h)
        rw [map_row]
        have eS : lwS .sums xs n i = ((xs.drop i).filter fun y => decide (xs.getD i 0 + y = n)).map fun y => [xs.getD i 0, y] := rfl
        rw [← eS]
        walk_at "tl"
        refine ⟨by rw [List.length_map, List.length_map]; omega, ?_⟩
        exact ⟨(lwU .sums xs n i ++ lwS .sums xs n i, some _, some _, o6), by rw [List.map_append]; rfl, hsn.symm⟩
      | evens =>
        walk_at "tl"
        rw [show ((i : Int) + 1) = ((i + 1 : Nat) : Int) by omega, cut_dropI]
        refine lcT_ft (fun y => decide (y - xs.getD i 0 = n - y)) (fun y => tupI [xs.getD i 0, y]) (by walk_at "fz") (by have := hdl (i + 1); omega) (fun y _ => ?_) ?_
        · walk_at "tl"
          refine cnd_2 (fun h => ?_) (fun h => ?_)
          · walk_at "tl"
            refine ⟨by omega, ?_⟩
            rw [intFT_y (decide_eq_true h)]
            rfl
          · walk_at "tl"
            exact intFT_n (decide_eq_false h)
        rw [map_row]
        have eS : lwS .evens xs n i = ((xs.drop (i + 1)).filter fun y => decide (y - xs.getD i 0 = n - y)).map fun y => [xs.getD i 0, y] := rfl
        rw [← eS]
        walk_at "tl"
        refine ⟨by rw [List.length_map, List.length_map]; omega, ?_⟩
        exact ⟨(lwU .evens xs n i ++ lwS .evens xs n i, some _, some _, o6), by rw [List.map_append]; rfl, hsn.symm⟩
      | pairs =>
        walk_at "tl"
        simp only [List.length_map]
        refine ⟨⟨by omega, by omega, by omega, by omega⟩, ?_⟩
        have hP : ∀ j, j ≤ 100 → (lwP xs n i j).length ≤ 10000 := fun j hj => by
          refine Nat.le_trans (flat_len (m := 100) (fun j => ?_) _) ?_
          · rw [List.length_map]
            exact Nat.le_trans (List.length_filter_le _ _) (hdl _)
          · rw [List.length_range]
            omega
        have hps : ∀ j, lwP xs n i (j + 1) = lwP xs n i j ++ ((xs.drop (i + 1 + j)).filter fun z => decide (xs.getD (i + 1 + j) 0 + z = n + xs.getD i 0)).map fun z => [xs.getD i 0, xs.getD (i + 1 + j) 0, z] := fun j => flat_snoc
        refine forT_p (α := List (List Int) × Option T) (fun x => [some (fz (ruleT .pairs)), _, some (fz (.int n)), some ⟨.own, false, .lst (x.1.map tupI)⟩, some (fz (.int i)), some (fz (.int (xs.getD i 0))), ofT x.2, none, none]) (fun j x => x.1 = lwU .pairs xs n i ++ lwP xs n i j) (lwU .pairs xs n i, o6) rfl (by simp only [lwP, List.range_zero, List.flatMap_nil, List.append_nil]) (fun j t x ht hJ => ?_) (fun x hJ => ?_)
        · obtain ⟨w, o6⟩ := x
          obtain ⟨hj, rfl⟩ := rngT_get ht
          simp only at hJ
          subst hJ
          have hj : i + 1 + j < xs.length := by omega
          have hay := atI_getD hj
          have hPj := hP j (by omega)
          rw [show ((i : Int) + 1 + (j : Int)) = ((i + 1 + j : Nat) : Int) by omega]
          walk_at "tl"
          rw [cut_dropI]
          refine lcT_ft (fun z => decide (xs.getD (i + 1 + j) 0 + z = n + xs.getD i 0)) (fun z => tupI [xs.getD i 0, xs.getD (i + 1 + j) 0, z]) (by walk_at "fz") (by have := hdl (i + 1 + j); omega) (fun y _ => ?_) ?_
          · walk_at "tl"
            refine ⟨_, hay, ?_⟩
            walk_at "t"
            refine cnd_2 (fun h => ?_) (fun h => ?_)
            · walk_at "tl"
              refine ⟨_, hay, ?_⟩
              walk_at "t"
              refine ⟨by omega, ?_⟩
              rw [intFT_y (decide_eq_true h)]
              rfl
            · walk_at "tl"
              exact intFT_n (decide_eq_false h)
          rw [map_row fun z => [xs.getD i 0, xs.getD (i + 1 + j) 0, z]]
          have hdf : (((xs.drop (i + 1 + j)).filter fun z => decide (xs.getD (i + 1 + j) 0 + z = n + xs.getD i 0)).map fun z => [xs.getD i 0, xs.getD (i + 1 + j) 0, z]).length ≤ 100 := by
            rw [List.length_map]
            exact Nat.le_trans (List.length_filter_le _ _) (hdl _)
          walk_at "tl"
          refine ⟨by rw [List.length_map, List.length_map, List.length_append]; omega, ?_⟩
          exact ⟨(lwU .pairs xs n i ++ lwP xs n i (j + 1), some _), by rw [hps]; simp only [List.map_append, List.append_assoc]; rfl, rfl⟩
        · obtain ⟨w, o6⟩ := x
          rw [rngT_len] at hJ
          simp only at hJ
          subst hJ
          walk_at "tl"
          refine ⟨(lwU .pairs xs n i ++ lwS .pairs xs n i, some (.int i), some (.int (xs.getD i 0)), o6), ?_, hsn.symm⟩
          have e : ((xs.length : Int) - ((i : Int) + 1)).toNat = xs.length - (i + 1) := by omega
          rw [e]
          rfl
    · obtain ⟨w, o4, o5, o6⟩ := x
      rw [rngT_len] at hI
      simp only [Int.toNat_natCast] at hI
      subst hI
      have e3 : lwU r xs n xs.length = lwB r xs n := rfl
      rw [e3]
      walk_at "tl"
      refine ⟨lwB r xs n, rfl, ne, ?_⟩
      rw [e2]
      walk_at "t"
      exact k
end Lib

namespace Lib
open PySem L2 TL
theorem i_law_barsL {r : Rl} {xs : List Int} {n : Int} {PR : R → List T → Prop} {PX : String → List T → Prop} (hr : RlOk r) (hs : xs.Pairwise (· < ·)) (hl : xs.length ≤ 100) (k : PR (.val true (.lst ((barsR r xs n).map tupI))) [ruleT r, .lst (xs.map T.int), .int n]) : sp_law_bars_a [fz (ruleT r), ag 1 (.lst (xs.map T.int)), fz (.int n)] PR PX := ⟨r, true, xs, n, rfl, hr, hs, hl, k⟩
theorem i_law_barsT {r : Rl} {xs : List Int} {n : Int} {PR : R → List T → Prop} {PX : String → List T → Prop} (hr : RlOk r) (hs : xs.Pairwise (· < ·)) (hl : xs.length ≤ 100) (k : PR (.val true (.lst ((barsR r xs n).map tupI))) [ruleT r, .tup (xs.map T.int), .int n]) : sp_law_bars_a [fz (ruleT r), fz (.tup (xs.map T.int)), fz (.int n)] PR PX := ⟨r, false, xs, n, rfl, hr, hs, hl, k⟩
/-! ### sets that are drawn -/
def loR : Rl → Int
  | .sums => 1
  | _ => 0
theorem loR_nn (r : Rl) : 0 ≤ loR r ∧ loR r ≤ 1 := by cases r <;> simp [loR]
structure SmOk (r : Rl) (m : Int) (xs : List Int) : Prop where
  pw : xs.Pairwise (· < ·)
  len : xs.length ≤ 60
  bd : ∀ x ∈ xs, loR r ≤ x ∧ x < m
def sp_law_small_a : TSp := fun as PR PX => ∃ a b c r most, as = [plA a b c, fz (ruleT r), fz (.int most)] ∧ RlOk r ∧ 4 ≤ most ∧ most ≤ 60 ∧ ∀ xs a b c, SmOk r (2 ^ 41) xs → PR (.val true (.lst (xs.map T.int))) [pl a b c, ruleT r, .int most]
def rd_law_small_a : TTS := ttSeq (ttSet 3 (ttCall sp_law_next_a nox (taV 0 (taF (tk (.int 6)) (taNil)))))
  (ttSeq (ttSet 4 (ttIx (ttLst (tlcons (ttCall sp_law_next_a nox (taV 0 (taF (tk (.int 5)) (taNil)))) (tlcons (ttCall sp_law_next_a nox (taV 0 (taF (ttBin addT (tv 2) (tk (.int 1))) (taNil)))) (tlcons (tv 2) (tlnil))))) (ttCall sp_law_next_a nox (taV 0 (taF (tk (.int 3)) (taNil))))))
  (ttSeq (ttSet 5 (ttLst (tlnil)))
  (ttSeq (ttSet 6 (ttBin mulT (ttC1 intC (ttBin (eqT) (ttIx (tv 1) (tk (.int 0))) (tk (.str "sums")))) (ttBin addT (tk (.int 1)) (ttCall sp_law_next_a nox (taV 0 (taF (tk (.int 3)) (taNil)))))))
  (ttSeq (ttIfS (ttB (ttBin (eqT) (tv 3) (tk (.int 2)))) (ttRet (ttLc (tiRng1 (tlcons (tv 4) (tlnil))) (tgN 8) (ttYes) (ttBin addT (tv 6) (ttBin mulT (tv 8) (ttBin addT (tk (.int 1)) (ttBin modT (tv 4) (tk (.int 7)))))) [8])) (ttNext))
  (ttSeq (ttIfS (ttB (ttBin (eqT) (tv 3) (tk (.int 3)))) (ttRet (ttLc (tiRng1 (tlcons (ttCn min2T (tlcons (tv 4) (tlcons (tk (.int 40)) (tlnil)))) (tlnil))) (tgN 8) (ttYes) (ttBin subT (ttBin shlT (tk (.int 1)) (tv 8)) (ttC1 intC (ttBin (neT) (ttIx (tv 1) (tk (.int 0))) (tk (.str "sums"))))) [8])) (ttNext))
  (ttSeq (ttSet 7 (ttIx (ttLst (tlcons (tk (.int 24)) (tlcons (tk (.int 12)) (tlnil)))) (ttC1 intC (ttBin (eqT) (ttIx (tv 1) (tk (.int 0))) (tk (.str "pairs"))))))
  (ttSeq (ttWhile (ttAnd (ttB (ttBin (ltT) (ttC1 lenT (tv 5)) (tv 4))) (ttB (ttBin (ltT) (tv 6) (tk (.int 4000))))) (ttSeq (ttIfS (ttOr (ttB (ttBin (ltT) (tv 3) (tk (.int 2)))) (ttAnd (ttB (ttBin (gtT) (ttCall sp_law_next_a nox (taV 0 (taF (tk (.int 4)) (taNil)))) (tk (.int 0)))) (ttOr (ttB (ttBin (gtT) (tv 4) (tv 7))) (ttB (ttBin (eqT) (ttCall sp_law_bars_a nox (taF (tv 1) (taV 5 (taF (tv 6) (taNil))))) (ttLst (tlnil))))))) (ttDrop (ttMut true 5 (tlcons (tv 6) (tlnil)) appendG)) (ttNext))
  (ttSet 6 (ttBin addT (ttBin addT (tv 6) (tk (.int 1))) (ttCall sp_law_next_a nox (taV 0 (taF (ttIx (ttLst (tlcons (tk (.int 3)) (tlcons (tk (.int 9)) (tlcons (tk (.int 2)) (tlcons (tk (.int 2)) (tlcons (tk (.int 4)) (tlcons (tk (.int 12)) (tlnil)))))))) (tv 3)) (taNil))))))))
  (ttRet (tv 5)))))))))
theorem ln_law_small_a : ∀ as PR PX, sp_law_small_a as PR PX → as.length = 3 := by
  rintro as PR PX ⟨a, b, c, r, m, rfl, _⟩
  rfl
theorem sm_line {r : Rl} {a s : Int} {n : Nat} (ha : loR r ≤ a) (ha2 : a ≤ 10) (hs : 1 ≤ s) (hs2 : s ≤ 7) (hn : n ≤ 60) : SmOk r (2 ^ 41) ((rngI 0 n).map fun k => a + k * s) := by
  refine ⟨map_pw rngI_pw fun x _ y _ h => ?_, by rw [List.length_map, rngI_len]; exact hn, fun x hx => ?_⟩
  · have : (x + 1) * s ≤ y * s := Int.mul_le_mul_of_nonneg_right (by omega) (by omega)
    rw [Int.add_mul] at this
    omega
  · obtain ⟨k, hk, rfl⟩ := List.mem_map.mp hx
    obtain ⟨k0, k1⟩ := rngI_mem.mp hk
    have h1 : 0 ≤ k * s := Int.mul_nonneg k0 (by omega)
    have h2 : k * s ≤ 60 * 7 := Int.mul_le_mul (by omega) hs2 (by omega) (by omega)
    omega
theorem sm_pow {r : Rl} {e : Int} {n : Nat} (he : e = 1 - loR r) (hn : n ≤ 40) : SmOk r (2 ^ 41) ((rngI 0 n).map fun k => 1 * 2 ^ k.toNat - e) := by
  have hp : ∀ i j : Nat, i < j → (2 : Int) ^ i < 2 ^ j := fun i j h => by
    have := Nat.pow_lt_pow_right (a := 2) (by decide) h
    exact_mod_cast this
  have hl := loR_nn r
  refine ⟨map_pw rngI_pw fun x hx y hy h => ?_, by rw [List.length_map, rngI_len]; omega, fun x hx => ?_⟩
  · have h1 := rngI_mem.mp hx
    have h2 := rngI_mem.mp hy
    have := hp x.toNat y.toNat (by omega)
    omega
  · obtain ⟨k, hk, rfl⟩ := List.mem_map.mp hx
    obtain ⟨k0, k1⟩ := rngI_mem.mp hk
    have h1 := hp k.toNat 41 (by omega)
    have h2 : (1 : Int) ≤ 2 ^ k.toNat := by
      have := Nat.one_le_two_pow (n := k.toNat)
      exact_mod_cast this
    omega
theorem SmOk.snoc {r : Rl} {m n : Int} {xs : List Int} (h : SmOk r m xs) (h0 : loR r ≤ m) (hl : xs.length < 60) (hn : m < n) : SmOk r n (xs ++ [m]) := by
  refine ⟨pw_snoc h.pw fun y hy => (h.bd y hy).2, by rw [List.length_append, List.length_singleton]; omega, fun x hx => ?_⟩
  rcases List.mem_append.mp hx with q | q
  · have := h.bd x q
    omega
  · rw [List.mem_singleton.mp q]
    omega
theorem SmOk.mono {r : Rl} {m n : Int} {xs : List Int} (h : SmOk r m xs) (hn : m ≤ n) : SmOk r n xs := ⟨h.pw, h.len, fun x hx => by have := h.bd x hx; omega⟩
theorem ok_law_small_a : ∀ as PR PX, sp_law_small_a as PR PX → rd_law_small_a (endsT as PR) (startT 9 as) := by
  rintro as PR PX ⟨a, b, c, r, most, rfl, hr, m0, m1, k⟩
  have sz := sizeLine_val
  have lo := loR_nn r
  unfold rd_law_small_a
  walk_at "tl"
  refine i_next_a (by decide) (by decide) (fun way a b c y0 y1 => ?_)
  walk_at "tl"
  refine i_next_a (by decide) (by decide) (fun d a b c d0 d1 => ?_)
  walk_at "tl"
  refine i_next_a (by omega) (by omega) (fun e a b c e0 e1 => ?_)
  walk_at "tl"
  walk_at "z"
  refine i_next_a (by decide) (by decide) (fun g a b c g0 g1 => ?_)
  walk_at "tl"
  obtain ⟨many, hm, w0, w1⟩ := pickI (is := [d, e, most]) (i := g) (p := fun n => 0 ≤ n ∧ n ≤ 60) g0 g1 (fun n hn => by
    simp only [List.mem_cons, List.not_mem_nil, or_false] at hn
    rcases hn with rfl | rfl | rfl <;> omega)
  refine ⟨_, hm, ?_⟩
  walk_at "t"
  walk_at "z"
  walk_at "g"
  refine i_next_a (by decide) (by decide) (fun num a b c n0 n1 => ?_)
  walk_at "g"
  have eb : TL.b2i (isS r) = loR r := by cases r <;> rfl
  have ebn : TL.b2i (!isS r) = 1 - loR r := by cases r <;> rfl
  rw [eb]
  refine ⟨Or.inl ⟨by omega, by omega⟩, ?_⟩
  obtain ⟨nm0, hn0, hn1, en⟩ : ∃ nm0, loR r ≤ nm0 ∧ nm0 ≤ 10 ∧ loR r * (1 + num) = nm0 := by
    obtain q | q : loR r = 0 ∨ loR r = 1 := by omega
    · exact ⟨0, by omega, by omega, by rw [q]; omega⟩
    · exact ⟨1 + num, by omega, by omega, by rw [q]; omega⟩
  rw [en]
  refine cnd_2 (fun h => ?_) (fun h => ?_)
  · walk_at "tl"
    refine ⟨by omega, ?_⟩
    rw [rngT_eq]
    refine lcT_mi (fun x => nm0 + x * (1 + many % 7)) (by walk_at "fz") (by rw [rngI_len]; omega) (fun x hx => ?_) ?_
    · have hx := rngI_mem.mp hx
      walk_at "tl"
      exact Or.inl ⟨by omega, by omega⟩
    walk_at "tl"
    exact k _ _ _ _ (sm_line hn0 hn1 (by omega) (by omega) (by omega))
  walk_at "tl"
  refine cnd_2 (fun h2 => ?_) (fun h2 => ?_)
  · walk_at "tl"
    refine ⟨⟨by split <;> omega, by split <;> omega⟩, ?_⟩
    rw [rngT_eq]
    refine lcT_mi (fun x => 1 * 2 ^ x.toNat - (1 - loR r)) (by walk_at "fz") (by rw [rngI_len]; split <;> omega) (fun x hx => ?_) ?_
    · have hx := rngI_mem.mp hx
      have hx2 : x < 40 := by
        have h3 := hx.2
        split at h3 <;> omega
      walk_at "g"
      rw [ebn]
      exact ⟨⟨by omega, by omega, by decide⟩, rfl⟩
    walk_at "tl"
    exact k _ _ _ _ (sm_pow rfl (by split <;> omega))
  walk_at "g"
  obtain ⟨cap, hcap, _⟩ := pickI (is := [24, 12]) (i := TL.b2i (isP r)) (p := fun _ => True) (b2i_01 _).1 (by have := (b2i_01 (isP r)).2; simp; omega) (fun _ _ => trivial)
  refine ⟨by omega, _, hcap, ?_⟩
  walk_at "t"
  refine while_b (α := Int × Int × Int × List Int × Int) (fun x => [some (plA x.1 x.2.1 x.2.2.1), some (fz (ruleT r)), some (fz (.int most)), some (fz (.int way)), some (fz (.int many)), some ⟨.own, false, .lst (x.2.2.2.1.map T.int)⟩, some (fz (.int x.2.2.2.2)), some (fz (.int cap)), none]) (fun x => SmOk r x.2.2.2.2 x.2.2.2.1 ∧ loR r ≤ x.2.2.2.2 ∧ x.2.2.2.2 ≤ 4012) (fun x => (4000 - x.2.2.2.2).toNat) (a, b, c, [], nm0) rfl ⟨⟨List.Pairwise.nil, by simp, by simp⟩, hn0, by simp only; omega⟩ (fun x hI => ?_)
  obtain ⟨a, b, c, xs, nm⟩ := x
  obtain ⟨hS, hlo, hnm⟩ := hI
  simp only at hS hlo hnm
  have hsl := hS.len
  walk_at "tl"
  simp only [List.length_map]
  refine cnd_2 (fun q1 => ?_) (fun q1 => ?_)
  rotate_left
  · walk_at "tl"
    exact k _ _ _ _ (hS.mono (by omega))
  walk_at "tl"
  refine cnd_2 (fun q2 => ?_) (fun q2 => ?_)
  rotate_left
  · walk_at "tl"
    exact k _ _ _ _ (hS.mono (by omega))
  walk_at "tl"
  refine cnd_2 (fun q3 => ?_) (fun q3 => ?_)
  · walk_at "tl"
    refine ⟨by rw [List.length_map]; omega, by omega, ?_⟩
    obtain ⟨up, hup, u0, u1⟩ := pickI (is := [3, 9, 2, 2, 4, 12]) (p := fun n => 0 < n ∧ n ≤ 12) y0 y1 (by decide)
    refine ⟨_, hup, i_next_a u0 (by omega) (fun v a b c v0 v1 => ?_)⟩
    walk_at "tl"
    exact ⟨(a, b, c, xs ++ [nm], nm + 1 + v), by simp only [List.map_append]; rfl, ⟨hS.snoc hlo (by omega) (by simp only; omega), by simp only; omega, by simp only; omega⟩, by simp only; omega⟩
  walk_at "tl"
  refine i_next_a (by decide) (by decide) (fun gg a b c _ _ => ?_)
  walk_at "tl"
  refine cnd_2 (fun q4 => ?_) (fun q4 => ?_)
  · walk_at "tl"
    refine cnd_2 (fun q5 => ?_) (fun q5 => ?_)
    · walk_at "tl"
      refine ⟨by rw [List.length_map]; omega, by omega, ?_⟩
      obtain ⟨up, hup, u0, u1⟩ := pickI (is := [3, 9, 2, 2, 4, 12]) (p := fun n => 0 < n ∧ n ≤ 12) y0 y1 (by decide)
      refine ⟨_, hup, i_next_a u0 (by omega) (fun v a b c v0 v1 => ?_)⟩
      walk_at "tl"
      exact ⟨(a, b, c, xs ++ [nm], nm + 1 + v), by simp only [List.map_append]; rfl, ⟨hS.snoc hlo (by omega) (by simp only; omega), by simp only; omega, by simp only; omega⟩, by simp only; omega⟩
    walk_at "tl"
    refine i_law_barsL hr hS.pw (by omega) ?_
    walk_at "tl"
    refine ⟨by omega, ?_⟩
    refine cnd_2 (fun q6 => ?_) (fun q6 => ?_)
    · walk_at "tl"
      refine ⟨by rw [List.length_map]; omega, by omega, ?_⟩
      obtain ⟨up, hup, u0, u1⟩ := pickI (is := [3, 9, 2, 2, 4, 12]) (p := fun n => 0 < n ∧ n ≤ 12) y0 y1 (by decide)
      refine ⟨_, hup, i_next_a u0 (by omega) (fun v a b c v0 v1 => ?_)⟩
      walk_at "tl"
      exact ⟨(a, b, c, xs ++ [nm], nm + 1 + v), by simp only [List.map_append]; rfl, ⟨hS.snoc hlo (by omega) (by simp only; omega), by simp only; omega, by simp only; omega⟩, by simp only; omega⟩
    · walk_at "tl"
      refine ⟨by omega, ?_⟩
      obtain ⟨up, hup, u0, u1⟩ := pickI (is := [3, 9, 2, 2, 4, 12]) (p := fun n => 0 < n ∧ n ≤ 12) y0 y1 (by decide)
      refine ⟨_, hup, i_next_a u0 (by omega) (fun v a b c v0 v1 => ?_)⟩
      walk_at "tl"
      exact ⟨(a, b, c, xs, nm + 1 + v), rfl, ⟨hS.mono (by simp only; omega), by simp only; omega, by simp only; omega⟩, by simp only; omega⟩
  · walk_at "tl"
    refine ⟨by omega, ?_⟩
    obtain ⟨up, hup, u0, u1⟩ := pickI (is := [3, 9, 2, 2, 4, 12]) (p := fun n => 0 < n ∧ n ≤ 12) y0 y1 (by decide)
    refine ⟨_, hup, i_next_a u0 (by omega) (fun v a b c v0 v1 => ?_)⟩
    walk_at "tl"
    exact ⟨(a, b, c, xs, nm + 1 + v), rfl, ⟨hS.mono (by simp only; omega), by simp only; omega, by simp only; omega⟩, by simp only; omega⟩
theorem i_law_small {a b c most : Int} {r : Rl} {PR : R → List T → Prop} {PX : String → List T → Prop} (hr : RlOk r) (m0 : 4 ≤ most) (m1 : most ≤ 60) (k : ∀ xs a b c, SmOk r (2 ^ 41) xs → PR (.val true (.lst (xs.map T.int))) [pl a b c, ruleT r, .int most]) : sp_law_small_a [plA a b c, fz (ruleT r), fz (.int most)] PR PX := ⟨a, b, c, r, most, rfl, hr, m0, m1, k⟩
def sp_law_set_a : TSp := fun as PR PX => ∃ a b c r most, as = [plA a b c, fz (ruleT r), fz (.int most)] ∧ RlOk r ∧ 4 ≤ most ∧ most ≤ 60 ∧ ∀ xs a b c, SmOk r (10 ^ 60) xs → PR (.val false (.tup (xs.map T.int))) [pl a b c, ruleT r, .int most]
def rd_law_set_a : TTS := ttSeq (ttSet 3 (ttCall sp_law_small_a nox (taV 0 (taF (tv 1) (taF (tv 2) (taNil))))))
  (ttSeq (ttSet 4 (ttIx (ttLst (tlcons (tk (.int 1)) (tlcons (tk (.int 1)) (tlcons (ttBin addT (tk (.int 1)) (ttCall sp_law_next_a nox (taV 0 (taF (tk (.int 9)) (taNil))))) (tlcons (ttBin powT (tk (.int 10)) (tk (.int 18))) (tlcons (ttBin powT (tk (.int 10)) (tk (.int 40))) (tlcons (ttBin powT (tk (.int 10)) (tk (.int 47))) (tlnil)))))))) (ttCall sp_law_next_a nox (taV 0 (taF (tk (.int 6)) (taNil))))))
  (ttSeq (ttSet 5 (ttBin mulT (ttIx (ttLst (tlcons (tk (.int 0)) (tlcons (tk (.int 0)) (tlcons (tk (.int 1)) (tlcons (ttBin addT (ttBin powT (tk (.int 10)) (tk (.int 17))) (tk (.int 3))) (tlcons (ttBin powT (tk (.int 10)) (tk (.int 59))) (tlnil))))))) (ttCall sp_law_next_a nox (taV 0 (taF (tk (.int 5)) (taNil))))) (ttC1 intC (ttBin (neT) (ttIx (tv 1) (tk (.int 0))) (tk (.str "sums"))))))
  (ttSeq (ttIfS (ttB (ttBin (eqT) (ttCall sp_law_next_a nox (taV 0 (taF (tk (.int 8)) (taNil)))) (tk (.int 0)))) (ttSeq (ttSet 6 (ttBin fdivT (ttC1 lenT (tv 3)) (tk (.int 2))))
  (ttRet (ttC1 tupleT (ttBin addT (ttSl (tv 3) (toN) (toS (tv 6))) (ttLc (tiSeq (sf (ttSl (tv 3) (toS (tv 6)) (toN)))) (tgN 7) (ttYes) (ttBin addT (tv 7) (ttBin powT (tk (.int 10)) (tk (.int 59)))) [7]))))) (ttNext))
  (ttRet (ttC1 tupleT (ttLc (tiSeq (sl 3)) (tgN 7) (ttYes) (ttBin addT (ttBin mulT (tv 7) (tv 4)) (tv 5)) [7]))))))
theorem ln_law_set_a : ∀ as PR PX, sp_law_set_a as PR PX → as.length = 3 := by
  rintro as PR PX ⟨a, b, c, r, m, rfl, _⟩
  rfl
theorem ok_law_set_a : ∀ as PR PX, sp_law_set_a as PR PX → rd_law_set_a (endsT as PR) (startT 8 as) := by
  rintro as PR PX ⟨a, b, c, r, most, rfl, hr, m0, m1, k⟩
  have sz := sizeLine_val
  have lo := loR_nn r
  have ebn : TL.b2i (!isS r) = 1 - loR r := by cases r <;> rfl
  unfold rd_law_set_a
  walk_at "tl"
  refine i_law_small hr m0 m1 fun xs a b c hS => ?_
  have hsl := hS.len
  walk_at "tl"
  refine i_next_a (by decide) (by decide) (fun d a b c d0 d1 => ?_)
  walk_at "tl"
  refine ⟨by decide, by decide, by decide, by omega, ?_⟩
  refine i_next_a (by decide) (by decide) (fun g a b c g0 g1 => ?_)
  walk_at "tl"
  obtain ⟨tm, htm, t0, t1⟩ := pickI (is := [1, 1, 1 + d, 10 ^ 18, 10 ^ 40, 10 ^ 47]) (i := g) (p := fun n => 1 ≤ n ∧ n ≤ 10 ^ 47) g0 g1 (fun n hn => by
    simp only [List.mem_cons, List.not_mem_nil, or_false] at hn
    rcases hn with rfl | rfl | rfl | rfl | rfl | rfl <;> omega)
  refine ⟨_, htm, ?_⟩
  walk_at "t"
  refine ⟨by decide, by decide, by omega, i_next_a (by decide) (by decide) (fun j a b c j0 j1 => ?_)⟩
  walk_at "tl"
  obtain ⟨mo, hmo, o0, o1⟩ := pickI (is := [0, 0, 1, 100000000000000003, 10 ^ 59]) (i := j) (p := fun n => 0 ≤ n ∧ n ≤ 10 ^ 59) j0 j1 (by decide)
  refine ⟨_, hmo, ?_⟩
  walk_at "g"
  rw [ebn]
  refine ⟨Or.inr (Or.inl ⟨by omega, by omega⟩), i_next_a (by decide) (by decide) (fun w a b c w0 w1 => ?_)⟩
  walk_at "tl"
  obtain ⟨add, ea, a0, a1⟩ : ∃ add, mo * (1 - loR r) = add ∧ 0 ≤ add ∧ add ≤ 10 ^ 59 := by
    obtain q | q : loR r = 0 ∨ loR r = 1 := by omega
    · exact ⟨mo, by rw [q]; omega, o0, o1⟩
    · exact ⟨0, by rw [q]; omega, by omega, by omega⟩
  rw [ea]
  refine cnd_2 (fun h => ?_) (fun h => ?_)
  · walk_at "tl"
    simp only [List.length_map]
    refine ⟨by decide, ?_⟩
    rw [show ((xs.length : Int) / 2) = ((xs.length / 2 : Nat) : Int) by omega, cut_dropI]
    refine lcT_mi (fun x => x + 10 ^ 59) (by walk_at "fz") (by rw [List.length_drop]; omega) (fun x _ => ?_) ?_
    · walk_at "tl"
      exact (by decide)
    walk_at "tl"
    rw [show (((xs.map T.int).length : Int) / 2) = ((xs.length / 2 : Nat) : Int) by rw [List.length_map]; omega, cut_takeI]
    refine ⟨by simp only [List.length_map, List.length_take, List.length_drop]; omega, ?_⟩
    rw [← List.map_append]
    refine k _ _ _ _ ⟨?_, ?_, fun x hx => ?_⟩
    · have hp := hS.pw
      have hd : (xs.drop (xs.length / 2)).Pairwise (· < ·) := hp.sublist (List.drop_sublist ..)
      rw [List.pairwise_append]
      refine ⟨hp.sublist (List.take_sublist ..), map_pw hd fun x _ y _ h => by omega, fun x hx y hy => ?_⟩
      obtain ⟨z, hz, rfl⟩ := List.mem_map.mp hy
      have h1 := hS.bd x (List.mem_of_mem_take hx)
      have h2 := hS.bd z (List.mem_of_mem_drop hz)
      omega
    · simp only [List.length_append, List.length_map, List.length_take, List.length_drop]
      omega
    · rcases List.mem_append.mp hx with q | q
      · have h1 := hS.bd x (List.mem_of_mem_take q)
        omega
      · obtain ⟨z, hz, rfl⟩ := List.mem_map.mp q
        have h2 := hS.bd z (List.mem_of_mem_drop hz)
        omega
  · walk_at "tl"
    refine lcT_mi (fun x => x * tm + add) (by walk_at "fz") (by omega) (fun x hx => ?_) ?_
    · have h1 := hS.bd x hx
      walk_at "tl"
      exact Or.inl ⟨by omega, by omega⟩
    walk_at "tl"
    refine k _ _ _ _ ⟨?_, by rw [List.length_map]; exact hsl, fun x hx => ?_⟩
    · refine map_pw hS.pw fun x _ y _ h => ?_
      have : (x + 1) * tm ≤ y * tm := Int.mul_le_mul_of_nonneg_right (by omega) (by omega)
      rw [Int.add_mul] at this
      omega
    · obtain ⟨z, hz, rfl⟩ := List.mem_map.mp hx
      have h2 := hS.bd z hz
      have h3 : z * 1 ≤ z * tm := Int.mul_le_mul_of_nonneg_left t0 (by omega)
      have h4 : z * tm ≤ 2 ^ 41 * 10 ^ 47 := Int.mul_le_mul (by omega) t1 (by omega) (by omega)
      omega
theorem i_law_set {a b c most : Int} {r : Rl} {PR : R → List T → Prop} {PX : String → List T → Prop} (hr : RlOk r) (m0 : 4 ≤ most) (m1 : most ≤ 60) (k : ∀ xs a b c, SmOk r (10 ^ 60) xs → PR (.val false (.tup (xs.map T.int))) [pl a b c, ruleT r, .int most]) : sp_law_set_a [plA a b c, fz (ruleT r), fz (.int most)] PR PX := ⟨a, b, c, r, most, rfl, hr, m0, m1, k⟩
end Lib

namespace Lib
open PySem L2 TL
/-! ### numbers that are barred -/
def Brd (r : Rl) (xs : List Int) (n : Int) : Prop := ∃ w, barP r xs n w
theorem bars_nil {r : Rl} {xs : List Int} {n : Int} (hs : xs.Pairwise (· < ·)) : barsR r xs n = [] ↔ ¬Brd r xs n := by
  constructor
  · rintro h ⟨w, hw⟩
    have := (mem_bars hs).mpr hw
    rw [h] at this
    cases this
  · intro h
    cases e : barsR r xs n with
    | nil => rfl
    | cons w ws => exact absurd ⟨w, (mem_bars hs).mp (by rw [e]; exact List.mem_cons_self)⟩ h
theorem Brd.mono {r : Rl} {xs ys : List Int} {n : Int} (h : ∀ x ∈ xs, x ∈ ys) (hb : Brd r xs n) : Brd r ys n := by
  obtain ⟨w, hw⟩ := hb
  refine ⟨w, ?_⟩
  cases r with
  | evens => obtain ⟨x, y, e, h1, h2, q⟩ := hw; exact ⟨x, y, e, h x h1, h y h2, q⟩
  | sums => obtain ⟨x, y, e, h1, h2, q⟩ := hw; exact ⟨x, y, e, h x h1, h y h2, q⟩
  | pairs => obtain ⟨x, y, z, e, h1, h2, h3, q⟩ := hw; exact ⟨x, y, z, e, h x h1, h y h2, h z h3, q⟩
  | gaps ss => obtain ⟨x, e, h1, q⟩ := hw; exact ⟨x, e, h x h1, q⟩
theorem brd_nil {r : Rl} {n : Int} : ¬Brd r [] n := by
  rintro ⟨w, hw⟩
  cases r with
  | evens => obtain ⟨x, y, e, h1, _⟩ := hw; cases h1
  | sums => obtain ⟨x, y, e, h1, _⟩ := hw; cases h1
  | pairs => obtain ⟨x, y, z, e, h1, _⟩ := hw; cases h1
  | gaps ss => obtain ⟨x, e, h1, _⟩ := hw; cases h1
def bm (r : Rl) (n : Int) : Int := match r with
  | .evens => n * (n - 1) / 2
  | .sums => n * (n + 1) / 2
  | .pairs => (n + 1) * n * (n - 1) / 6
  | .gaps ss => n * ss.length
def numsB (r : Rl) (xs : List Int) : List Int := match r with
  | .evens => (List.range xs.length).flatMap fun i => (xs.take i).map fun x => 2 * xs.getD i 0 - x
  | .sums => (List.range xs.length).flatMap fun i => (xs.take (i + 1)).map fun x => x + xs.getD i 0
  | .pairs => (List.range xs.length).flatMap fun i => (xs.take i).flatMap fun x => (xs.drop i).map fun z => xs.getD i 0 + z - x
  | .gaps ss => xs.flatMap fun x => ss.map fun s => x + s
def sumN (c : Nat → Nat) : Nat → Nat
  | 0 => 0
  | m + 1 => sumN c m + c m
theorem flat_sum {α : Type} {f : Nat → List α} {c : Nat → Nat} : ∀ {m : Nat}, (∀ i, i < m → (f i).length ≤ c i) → ((List.range m).flatMap f).length ≤ sumN c m
  | 0, _ => by simp [sumN]
  | m + 1, h => by
    rw [List.range_succ, List.flatMap_append, List.length_append, List.flatMap_singleton]
    have h1 := flat_sum (m := m) fun i hi => h i (by omega)
    have h2 := h m (by omega)
    unfold sumN
    omega
theorem sum_e : ∀ m : Nat, 2 * (sumN (fun i => i) m : Int) = (m : Int) * ((m : Int) - 1)
  | 0 => by simp [sumN]
  | m + 1 => by
    have h := sum_e m
    unfold sumN
    push_cast
    grind
theorem sum_s : ∀ m : Nat, 2 * (sumN (fun i => i + 1) m : Int) = (m : Int) * ((m : Int) + 1)
  | 0 => by simp [sumN]
  | m + 1 => by
    have h := sum_s m
    unfold sumN
    push_cast
    grind
theorem sum_p (M : Nat) : ∀ m : Nat, m ≤ M → 6 * (sumN (fun i => i * (M - i)) m : Int) = 3 * (M : Int) * (m : Int) * ((m : Int) - 1) - ((m : Int) - 1) * (m : Int) * (2 * (m : Int) - 1)
  | 0, _ => by simp [sumN]
  | m + 1, hm => by
    have h := sum_p M m (by omega)
    unfold sumN
    have e : ((M - m : Nat) : Int) = (M : Int) - (m : Int) := by omega
    push_cast
    rw [e]
    grind
theorem numsB_len {r : Rl} {xs : List Int} : ((numsB r xs).length : Int) ≤ bm r xs.length := by
  cases r with
  | evens =>
    have h : (numsB .evens xs).length ≤ sumN (fun i => i) xs.length := flat_sum fun i hi => by rw [List.length_map, List.length_take]; omega
    have h2 := sum_e xs.length
    unfold bm
    simp only
    omega
  | sums =>
    have h : (numsB .sums xs).length ≤ sumN (fun i => i + 1) xs.length := flat_sum fun i hi => by rw [List.length_map, List.length_take]; omega
    have h2 := sum_s xs.length
    unfold bm
    simp only
    omega
  | pairs =>
    have h : (numsB .pairs xs).length ≤ sumN (fun i => i * (xs.length - i)) xs.length := flat_sum fun i hi => by
      refine Nat.le_trans (flat_len (m := xs.length - i) (fun x => by rw [List.length_map, List.length_drop]; exact Nat.le_refl _) _) ?_
      rw [List.length_take]
      exact Nat.mul_le_mul_right _ (by omega)
    have h2 := sum_p xs.length xs.length (by omega)
    have e : 3 * (xs.length : Int) * (xs.length : Int) * ((xs.length : Int) - 1) - ((xs.length : Int) - 1) * (xs.length : Int) * (2 * (xs.length : Int) - 1) = ((xs.length : Int) + 1) * xs.length * ((xs.length : Int) - 1) := by grind
    rw [e] at h2
    unfold bm
    simp only
    omega
  | gaps ss =>
    have h : (numsB (.gaps ss) xs).length ≤ xs.length * ss.length := flat_len (fun x => by rw [List.length_map]; exact Nat.le_refl _) _
    unfold bm
    simp only
    exact_mod_cast h
theorem nodup_len : ∀ {l m : List Int}, l.Nodup → (∀ x ∈ l, x ∈ m) → l.length ≤ m.length
  | [], _, _, _ => Nat.zero_le _
  | x :: l, m, hn, h => by
    have hx := h x List.mem_cons_self
    have h2 : l.length ≤ (m.erase x).length := nodup_len (List.nodup_cons.mp hn).2 fun y hy => (List.mem_erase_of_ne (fun e => (List.nodup_cons.mp hn).1 (by subst e; exact hy))).mpr (h y (List.mem_cons_of_mem _ hy))
    rw [List.length_erase_of_mem hx] at h2
    have := List.length_pos_of_mem hx
    rw [List.length_cons]
    omega
/-- a member of a rising list stands at its place, with the smaller ones ahead -/
theorem at_rise {xs : List Int} (hs : xs.Pairwise (· < ·)) {y : Int} (hy : y ∈ xs) : ∃ i, i < xs.length ∧ xs.getD i 0 = y ∧ (∀ x ∈ xs, x < y → x ∈ xs.take i) ∧ (∀ x ∈ xs, x ≤ y → x ∈ xs.take (i + 1)) ∧ ∀ z ∈ xs, y ≤ z → z ∈ xs.drop i := by
  obtain ⟨i, hi, e⟩ := List.mem_iff_getElem.mp hy
  have hp := List.pairwise_iff_getElem.mp hs
  refine ⟨i, hi, by rw [List.getD_eq_getElem?_getD, List.getElem?_eq_getElem hi]; exact e, ?_, ?_, ?_⟩ <;> intro x hx h <;> obtain ⟨j, hj, f⟩ := List.mem_iff_getElem.mp hx
  · have hji : j < i := by
      rcases Nat.lt_trichotomy i j with q | q | q
      · have := hp i j hi hj q; omega
      · subst q; omega
      · exact q
    rw [← f]
    exact List.mem_take_iff_getElem.mpr ⟨j, by omega, rfl⟩
  · have hji : j ≤ i := by
      rcases Nat.lt_trichotomy i j with q | q | q
      · have := hp i j hi hj q; omega
      · omega
      · omega
    rw [← f]
    exact List.mem_take_iff_getElem.mpr ⟨j, by omega, rfl⟩
  · have hji : i ≤ j := by
      rcases Nat.lt_trichotomy i j with q | q | q
      · omega
      · omega
      · have := hp j i hj hi q; omega
    rw [← f]
    exact List.mem_drop_iff_getElem.mpr ⟨j - i, by omega, by congr 1; omega⟩
theorem brd_mem {r : Rl} {xs : List Int} {n : Int} (hs : xs.Pairwise (· < ·)) (h : Brd r xs n) : n ∈ numsB r xs := by
  obtain ⟨w, hw⟩ := h
  cases r with
  | evens =>
    obtain ⟨x, y, e, h1, h2, h3, h4⟩ := hw
    obtain ⟨i, hi, ey, q, _, _⟩ := at_rise hs h2
    exact List.mem_flatMap.mpr ⟨i, List.mem_range.mpr hi, List.mem_map.mpr ⟨x, q x h1 h3, by rw [ey]; omega⟩⟩
  | sums =>
    obtain ⟨x, y, e, h1, h2, h3, h4⟩ := hw
    obtain ⟨i, hi, ey, _, q, _⟩ := at_rise hs h2
    exact List.mem_flatMap.mpr ⟨i, List.mem_range.mpr hi, List.mem_map.mpr ⟨x, q x h1 h3, by rw [ey]; omega⟩⟩
  | pairs =>
    obtain ⟨x, y, z, e, h1, h2, h3, h4, h5, h6⟩ := hw
    obtain ⟨i, hi, ey, q, _, q3⟩ := at_rise hs h2
    exact List.mem_flatMap.mpr ⟨i, List.mem_range.mpr hi, List.mem_flatMap.mpr ⟨x, q x h1 h4, List.mem_map.mpr ⟨z, q3 z h3 h5, by rw [ey]; omega⟩⟩⟩
  | gaps ss =>
    obtain ⟨x, e, h1, h2⟩ := hw
    exact List.mem_flatMap.mpr ⟨x, h1, List.mem_map.mpr ⟨n - x, h2, by omega⟩⟩
/-- distinct barred numbers are at most so many -/
theorem brd_count {r : Rl} {xs ps : List Int} (hs : xs.Pairwise (· < ·)) (hn : ps.Nodup) (h : ∀ p ∈ ps, Brd r xs p) : (ps.length : Int) ≤ bm r xs.length := by
  have h1 := nodup_len hn fun p hp => brd_mem hs (h p hp)
  have h2 := numsB_len (r := r) (xs := xs)
  omega
theorem bm_nn {r : Rl} {n : Nat} : 0 ≤ bm r n := by
  have h := numsB_len (r := r) (xs := (List.range n).map Int.ofNat)
  rw [List.length_map, List.length_range] at h
  omega
/-! ### sets that keep -/
def barN (r : Rl) (xs : List Int) (i : Nat) : Bool := decide (barsR r (xs.take i) (xs.getD i 0) = [])
def keepB (r : Rl) (xs : List Int) : Bool := (List.range xs.length).all (barN r xs)
theorem keep_iff {r : Rl} {xs : List Int} : keepB r xs = true ↔ ∀ i, i < xs.length → barsR r (xs.take i) (xs.getD i 0) = [] := by
  unfold keepB barN
  rw [List.all_eq_true]
  constructor
  · intro h i hi
    exact of_decide_eq_true (h i (List.mem_range.mpr hi))
  · intro h i hi
    exact decide_eq_true (h i (List.mem_range.mp hi))
theorem barN_snoc {r : Rl} {xs : List Int} {n : Int} {i : Nat} (hi : i < xs.length) : barN r (xs ++ [n]) i = barN r xs i := by
  unfold barN
  rw [List.take_append_of_le_length (by omega), List.getD_eq_getElem?_getD, List.getElem?_append_left hi, ← List.getD_eq_getElem?_getD]
theorem keep_snoc {r : Rl} {xs : List Int} {n : Int} : keepB r (xs ++ [n]) = (keepB r xs && decide (barsR r xs n = [])) := by
  unfold keepB
  rw [List.length_append, List.length_singleton, List.range_succ, List.all_append]
  congr 1
  · rw [Bool.eq_iff_iff, List.all_eq_true, List.all_eq_true]
    constructor <;> intro h i hi
    · rw [← barN_snoc (n := n) (List.mem_range.mp hi)]; exact h i hi
    · rw [barN_snoc (List.mem_range.mp hi)]; exact h i hi
  · rw [List.all_cons, List.all_nil, Bool.and_true]
    unfold barN
    rw [List.take_append_of_le_length (Nat.le_refl _), List.take_length, List.getD_eq_getElem?_getD, List.getElem?_append_right (Nat.le_refl _), Nat.sub_self]
    rfl
theorem keep_nil {r : Rl} : keepB r [] = true := rfl
theorem keep_one {r : Rl} {x : Int} : keepB r [x] = true := by
  rw [show [x] = [] ++ [x] from rfl, keep_snoc, keep_nil, (bars_nil List.Pairwise.nil).mpr brd_nil]
  rfl
end Lib

namespace Lib
open PySem L2 TL
theorem is_bar {r : Rl} {xs : List Int} {n : Int} {o : Bool} {k : Bool → T → Prop} : isT o (barT r xs n) .non k = k false (.bl (o != decide (barsR r xs n = []))) := by
  unfold barT
  cases barsR r xs n with
  | nil =>
    simp only [decide_true]
    show k false (.bl (!o)) = _
    cases o <;> rfl
  | cons w ws =>
    show k false (.bl o) = _
    cases o <;> rfl
def brkT (r : Rl) (xs : List Int) : T := match (List.range xs.length).find? (fun i => !barN r xs i) with
  | none => .non
  | some i => .tup [.int i, barT r (xs.take i) (xs.getD i 0)]
theorem brk_is {r : Rl} {xs : List Int} {o : Bool} {k : Bool → T → Prop} : isT o (brkT r xs) .non k = k false (.bl (o != keepB r xs)) := by
  unfold brkT
  cases e : (List.range xs.length).find? (fun i => !barN r xs i) with
  | none =>
    have : keepB r xs = true := by
      rw [keepB, List.all_eq_true]
      intro i hi
      have := List.find?_eq_none.mp e i hi
      simpa using this
    rw [this]
    show k false (.bl (!o)) = _
    cases o <;> rfl
  | some i =>
    have : keepB r xs = false := by
      have h1 := List.find?_some e
      have h2 := List.mem_of_find?_eq_some e
      rw [keepB, List.all_eq_false]
      exact ⟨i, h2, by simpa using h1⟩
    rw [this]
    show k false (.bl o) = _
    cases o <;> rfl
theorem brk_at {r : Rl} {xs : List Int} {i : Nat} (hi : i < xs.length) (h : ∀ j, j < i → barN r xs j = true) (hb : barN r xs i = false) : brkT r xs = .tup [.int i, barT r (xs.take i) (xs.getD i 0)] := by
  unfold brkT
  have : (List.range xs.length).find? (fun i => !barN r xs i) = some i := by
    rw [List.find?_range_eq_some]
    exact ⟨by simpa using hb, List.mem_range.mpr hi, fun j hj => by simpa using h j hj⟩
  rw [this]
theorem brk_none {r : Rl} {xs : List Int} (h : ∀ j, j < xs.length → barN r xs j = true) : brkT r xs = .non := by
  unfold brkT
  have : (List.range xs.length).find? (fun i => !barN r xs i) = none := by
    rw [List.find?_eq_none]
    intro i hi
    simpa using h i (List.mem_range.mp hi)
  rw [this]
def sp_break_of_a : TSp := fun as PR PX => ∃ r xs, as = [fz (ruleT r), fz (.tup (xs.map T.int))] ∧ RlOk r ∧ xs.length ≤ 2000 ∧ PR (.val false (brkT r xs)) [ruleT r, .tup (xs.map T.int)]
def rd_break_of_a : TTS := ttSeq (ttFor (tiEnum (sl 1)) (tgTup 2 (tgsCons (tgN 2) (tgsCons (tgN 3) (tgsNil)))) (ttSeq (ttSet 4 (ttCall sp_bar_a nox (taF (tv 0) (taF (ttSl (tv 1) (toN) (toS (tv 2))) (taF (tv 3) (taNil))))))
  (ttIfS (ttB (ttBin (isT true) (tv 4) (tk .non))) (ttRet (ttTup (tlcons (tv 2) (tlcons (tv 4) (tlnil))))) (ttNext))))
  (ttRet (tk .non))
theorem ln_break_of_a : ∀ as PR PX, sp_break_of_a as PR PX → as.length = 2 := by
  rintro as PR PX ⟨r, xs, rfl, _⟩
  rfl
theorem ok_break_of_a : ∀ as PR PX, sp_break_of_a as PR PX → rd_break_of_a (endsT as PR) (startT 5 as) := by
  rintro as PR PX ⟨r, xs, rfl, hr, hl, k⟩
  have sz := sizeLine_val
  unfold rd_break_of_a
  walk_at "tl"
  refine forT_p (α := Option T × Option T × Option T) (fun x => [some (fz (ruleT r)), some ⟨.frz, true, .tup (xs.map T.int)⟩, ofT x.1, ofT x.2.1, ofT x.2.2]) (fun i _ => ∀ j, j < i → barN r xs j = true) (none, none, none) rfl (fun j hj => absurd hj (Nat.not_lt_zero j)) (fun i t x ht hI => ?_) (fun x hI => ?_)
  · obtain ⟨y, hy, rfl⟩ := numd_ints_get ht
    have hi := (List.getElem?_eq_some_iff.mp hy).1
    have ey : xs.getD i 0 = y := by rw [List.getD_eq_getElem?_getD, hy]; rfl
    walk_at "tl"
    rw [cut_takeI]
    refine i_barT hr (by rw [List.length_take]; omega) ?_
    walk_at "tl"
    rw [is_bar]
    walk_at "tl"
    refine cnd_2 (fun h => ?_) (fun h => ?_)
    · walk_at "tl"
      refine ⟨(some (.int i), some (.int y), some (barT r (xs.take i) y)), rfl, fun j hj => ?_⟩
      rcases Nat.lt_succ_iff_lt_or_eq.mp hj with q | q
      · exact hI j q
      · subst q
        unfold barN
        rw [ey]
        exact decide_eq_true h
    · walk_at "tl"
      rw [brk_at hi hI (by unfold barN; rw [ey]; exact decide_eq_false h), ey] at k
      exact ⟨by omega, k⟩
  · rw [numd_len, List.length_map] at hI
    walk_at "tl"
    rw [brk_none hI] at k
    exact k
theorem i_break_of {r : Rl} {xs : List Int} {PR : R → List T → Prop} {PX : String → List T → Prop} (hr : RlOk r) (hl : xs.length ≤ 2000) (k : PR (.val false (brkT r xs)) [ruleT r, .tup (xs.map T.int)]) : sp_break_of_a [fz (ruleT r), fz (.tup (xs.map T.int))] PR PX := ⟨r, xs, rfl, hr, hl, k⟩
def sp_keeps_a : TSp := fun as PR PX => ∃ r xs, as = [fz (ruleT r), fz (.tup (xs.map T.int))] ∧ RlOk r ∧ xs.length ≤ 2000 ∧ PR (.val false (.bl (keepB r xs))) [ruleT r, .tup (xs.map T.int)]
def rd_keeps_a : TTS := ttRet (ttBin (isT false) (ttCall sp_break_of_a nox (taF (tv 0) (taF (tv 1) (taNil)))) (tk .non))
theorem ln_keeps_a : ∀ as PR PX, sp_keeps_a as PR PX → as.length = 2 := by
  rintro as PR PX ⟨r, xs, rfl, _⟩
  rfl
theorem ok_keeps_a : ∀ as PR PX, sp_keeps_a as PR PX → rd_keeps_a (endsT as PR) (startT 2 as) := by
  rintro as PR PX ⟨r, xs, rfl, hr, hl, k⟩
  unfold rd_keeps_a
  walk_at "tl"
  refine i_break_of hr hl ?_
  walk_at "tl"
  rw [brk_is]
  walk_at "tl"
  exact k
theorem i_keeps {r : Rl} {xs : List Int} {PR : R → List T → Prop} {PX : String → List T → Prop} (hr : RlOk r) (hl : xs.length ≤ 2000) (k : PR (.val false (.bl (keepB r xs))) [ruleT r, .tup (xs.map T.int)]) : sp_keeps_a [fz (ruleT r), fz (.tup (xs.map T.int))] PR PX := ⟨r, xs, rfl, hr, hl, k⟩
def sp_bar_right_a : TSp := fun as PR PX => ∃ r o xs n w, as = [fz (ruleT r), fz (sqT o xs), fz (.int n), fz (tupI w)] ∧ RlOk r ∧ xs.length ≤ 2000 ∧ PR (.val false (.bl (decide (w ∈ barsR r xs n)))) [ruleT r, sqT o xs, .int n, tupI w]
def rd_bar_right_a : TTS := ttRet (ttBin (inT false) (tv 3) (ttCall sp_all_bars_a nox (taF (tv 0) (taF (tv 1) (taF (tv 2) (taNil))))))
theorem ln_bar_right_a : ∀ as PR PX, sp_bar_right_a as PR PX → as.length = 4 := by
  rintro as PR PX ⟨r, o, xs, n, w, rfl, _⟩
  rfl
theorem ok_bar_right_a : ∀ as PR PX, sp_bar_right_a as PR PX → rd_bar_right_a (endsT as PR) (startT 4 as) := by
  rintro as PR PX ⟨r, o, xs, n, w, rfl, hr, hl, k⟩
  unfold rd_bar_right_a
  walk_at "tl"
  refine i_all_bars hr hl ?_
  walk_at "tl"
  rw [q_in_rows]
  walk_at "tl"
  exact k
theorem i_bar_right {r : Rl} {xs w : List Int} {n : Int} {PR : R → List T → Prop} {PX : String → List T → Prop} (hr : RlOk r) (hl : xs.length ≤ 2000) (k : PR (.val false (.bl (decide (w ∈ barsR r xs n)))) [ruleT r, .tup (xs.map T.int), .int n, tupI w]) : sp_bar_right_a [fz (ruleT r), fz (.tup (xs.map T.int)), fz (.int n), fz (tupI w)] PR PX := ⟨r, false, xs, n, w, rfl, hr, hl, k⟩
theorem i_bar_rightL {r : Rl} {xs w : List Int} {n : Int} {PR : R → List T → Prop} {PX : String → List T → Prop} (hr : RlOk r) (hl : xs.length ≤ 2000) (k : PR (.val false (.bl (decide (w ∈ barsR r xs n)))) [ruleT r, .lst (xs.map T.int), .int n, tupI w]) : sp_bar_right_a [fz (ruleT r), fz (.lst (xs.map T.int)), fz (.int n), fz (tupI w)] PR PX := ⟨r, true, xs, n, w, rfl, hr, hl, k⟩
def sp_barred_most_a : TSp := fun as PR PX => ∃ r n, as = [fz (ruleT r), fz (.int n)] ∧ -1 ≤ n ∧ n ≤ 2 ^ 60 ∧ PR (.val false (.int (bm r n))) [ruleT r, .int n]
def rd_barred_most_a : TTS := ttSeq (ttIfS (ttB (ttBin (eqT) (ttIx (tv 0) (tk (.int 0))) (tk (.str "evens")))) (ttRet (ttBin fdivT (ttBin mulT (tv 1) (ttBin subT (tv 1) (tk (.int 1)))) (tk (.int 2)))) (ttNext))
  (ttSeq (ttIfS (ttB (ttBin (eqT) (ttIx (tv 0) (tk (.int 0))) (tk (.str "sums")))) (ttRet (ttBin fdivT (ttBin mulT (tv 1) (ttBin addT (tv 1) (tk (.int 1)))) (tk (.int 2)))) (ttNext))
  (ttSeq (ttIfS (ttB (ttBin (eqT) (ttIx (tv 0) (tk (.int 0))) (tk (.str "pairs")))) (ttRet (ttBin fdivT (ttBin mulT (ttBin mulT (ttBin addT (tv 1) (tk (.int 1))) (tv 1)) (ttBin subT (tv 1) (tk (.int 1)))) (tk (.int 6)))) (ttNext))
  (ttRet (ttBin mulT (tv 1) (ttC1 lenT (ttIx (tv 0) (tk (.int 1))))))))
theorem ln_barred_most_a : ∀ as PR PX, sp_barred_most_a as PR PX → as.length = 2 := by
  rintro as PR PX ⟨r, n, rfl, _⟩
  rfl
theorem ok_barred_most_a : ∀ as PR PX, sp_barred_most_a as PR PX → rd_barred_most_a (endsT as PR) (startT 2 as) := by
  rintro as PR PX ⟨r, n, rfl, h0, h1, k⟩
  unfold rd_barred_most_a
  cases r with
  | evens =>
    walk_at "tl"
    exact ⟨Or.inl ⟨by omega, by omega⟩, by decide, k⟩
  | sums =>
    walk_at "tl"
    exact ⟨Or.inl ⟨by omega, by omega⟩, by decide, k⟩
  | pairs =>
    walk_at "tl"
    exact ⟨Or.inl ⟨by omega, by omega⟩, Or.inr (Or.inl ⟨by omega, by omega⟩), by decide, k⟩
  | gaps ss =>
    walk_at "tl"
    refine ⟨Or.inl ⟨by omega, by omega⟩, ?_⟩
    rw [List.length_map]
    exact k
theorem i_barred_most {r : Rl} {n : Int} {PR : R → List T → Prop} {PX : String → List T → Prop} (h0 : -1 ≤ n) (h1 : n ≤ 2 ^ 60) (k : PR (.val false (.int (bm r n))) [ruleT r, .int n]) : sp_barred_most_a [fz (ruleT r), fz (.int n)] PR PX := ⟨r, n, rfl, h0, h1, k⟩
end Lib

namespace Lib
open PySem L2 TL
/-! ### how many are barred, told again -/
theorem bm_sm {r : Rl} {n : Nat} (hr : RlOk r) (h : n ≤ 62) : bm r n ≤ 40000 := by
  have h1 : ∀ k ∈ List.range 63, (k : Int) * ((k : Int) - 1) / 2 ≤ 40000 ∧ (k : Int) * ((k : Int) + 1) / 2 ≤ 40000 ∧ ((k : Int) + 1) * (k : Int) * ((k : Int) - 1) / 6 ≤ 40000 := by decide
  obtain ⟨a, b, c⟩ := h1 n (List.mem_range.mpr (by omega))
  cases r with
  | evens => exact a
  | sums => exact b
  | pairs => exact c
  | gaps ss =>
    have := hr.l1
    show (n : Int) * (ss.length : Int) ≤ 40000
    have : (n : Int) * (ss.length : Int) ≤ 62 * 4 := Int.mul_le_mul (by omega) (by omega) (by omega) (by decide)
    omega
/-- distinct barred numbers -/
structure Bz (r : Rl) (xs zs : List Int) : Prop where
  nd : zs.Nodup
  brd : ∀ z ∈ zs, Brd r xs z
theorem Bz.len {r : Rl} {xs zs : List Int} (h : Bz r xs zs) (hr : RlOk r) (hp : xs.Pairwise (· < ·)) (hl : xs.length ≤ 60) : zs.length ≤ 40000 := by
  have h1 := brd_count hp h.nd h.brd
  have h2 := bm_sm (n := xs.length) hr (by omega)
  omega
theorem Bz.add {r : Rl} {xs zs : List Int} {n : Int} (h : Bz r xs zs) (hb : Brd r xs n) : Bz r xs (addI zs n) :=
  ⟨addI_nd h.nd, fun z hz => (addI_mem.mp hz).elim (h.brd z) fun e => by rw [e]; exact hb⟩
def sp_law_barred_a : TSp := fun as PR PX => ∃ r xs, as = [fz (ruleT r), fz (.tup (xs.map T.int))] ∧ RlOk r ∧ SmOk r (10 ^ 60) xs ∧ xs ≠ [] ∧ ∀ zs, Bz r xs zs → PR (.val true (.lst (zs.map T.int))) [ruleT r, .tup (xs.map T.int)]
def rd_law_barred_a : TTS := ttSeq (ttSet 2 (ttDict0))
  (ttSeq (ttFor (tiRng1 (tlcons (ttC1 lenT (tv 1)) (tlnil))) (tgN 3) (ttSeq (ttSet 4 (ttIx (tv 1) (tv 3)))
  (ttSeq (ttFor (tiSeq (sf (ttSl (tv 1) (toS (tv 3)) (toN)))) (tgN 5) (ttSeq (ttIfS (ttB (ttBin (eqT) (ttIx (tv 0) (tk (.int 0))) (tk (.str "sums")))) (ttSetIx 2 (tk (.bl true)) (ttBin addT (tv 4) (tv 5))) (ttNext))
  (ttSeq (ttIfS (ttAnd (ttB (ttBin (eqT) (ttIx (tv 0) (tk (.int 0))) (tk (.str "evens")))) (ttB (ttBin (gtT) (tv 5) (tv 4)))) (ttSetIx 2 (tk (.bl true)) (ttBin subT (ttBin mulT (tk (.int 2)) (tv 5)) (tv 4))) (ttNext))
  (ttIfS (ttAnd (ttB (ttBin (eqT) (ttIx (tv 0) (tk (.int 0))) (tk (.str "pairs")))) (ttB (ttBin (gtT) (tv 5) (tv 4)))) (ttFor (tiSeq (sf (ttSl (tv 1) (toS (ttBin addT (tv 3) (tk (.int 1)))) (toN)))) (tgN 8) (ttSetIx 2 (tk (.bl true)) (ttBin subT (ttBin addT (tv 5) (tv 8)) (tv 4)))) (ttNext)))))
  (ttIfS (ttB (ttBin (eqT) (ttIx (tv 0) (tk (.int 0))) (tk (.str "gaps")))) (ttFor (tiSeq (sf (ttIx (tv 0) (tk (.int 1))))) (tgN 6) (ttSetIx 2 (tk (.bl true)) (ttBin addT (tv 4) (tv 6)))) (ttNext)))))
  (ttRet (ttLcD 2 (tgN 7) (ttB (ttBin (gtT) (tv 7) (ttIx (tv 1) (ttU negT (tk (.int 1)))))) (tv 7) [7])))
theorem ln_law_barred_a : ∀ as PR PX, sp_law_barred_a as PR PX → as.length = 2 := by
  rintro as PR PX ⟨r, xs, rfl, _⟩
  rfl
theorem i_law_barred_a {r : Rl} {xs : List Int} {PR : R → List T → Prop} {PX : String → List T → Prop} (hr : RlOk r) (hS : SmOk r (10 ^ 60) xs) (hne : xs ≠ []) (k : ∀ zs, Bz r xs zs → PR (.val true (.lst (zs.map T.int))) [ruleT r, .tup (xs.map T.int)]) :
    sp_law_barred_a [fz (ruleT r), fz (.tup (xs.map T.int))] PR PX := ⟨r, xs, rfl, hr, hS, hne, k⟩
theorem ok_law_barred_a : ∀ as PR PX, sp_law_barred_a as PR PX → rd_law_barred_a (endsT as PR) (startT 9 as) := by
  rintro as PR PX ⟨r, xs, rfl, hr, hS, hne, k⟩
  have sz := sizeLine_val
  have hl := hS.len
  have hp := hS.pw
  have hpos := List.length_pos_iff.mpr hne
  unfold rd_law_barred_a
  walk_at "tl"
  rw [List.length_map]
  refine ⟨by omega, ?_⟩
  refine forT_p (α := List Int × List T × Option T × Option T × Option T × Option T × Option T) (fun (zs, ts, x3, x4, x5, x6, x8) => [some (fz (ruleT r)), some (fz (.tup (xs.map T.int))), some ⟨.own, false, .dct (zs.map Sum.inl) ts⟩, ofT x3, ofT x4, ofT x5, ofT x6, none, ofT x8]) (fun _ (zs, ts, _) => Bz r xs zs) ([], [], none, none, none, none, none) rfl ⟨List.nodup_nil, fun _ h => nomatch h⟩ (fun i t x ht hI => ?_) (fun x hI => ?_)
  rotate_left
  · obtain ⟨zs, ts, x3, x4, x5, x6, x8⟩ := x
    walk_at "tl"
    intro d
    have hzl := hI.len hr hp hl
    refine lcT_fi (fun n => decide (n > xs.getLast hne)) id (by walk_at "fz") (by omega) (fun n _ => ?_) ?_
    · walk_at "tl"
      refine ⟨_, atI_last_int hne, ?_⟩
      walk_at "tl"
      refine cnd_2 (fun h => ?_) (fun h => ?_)
      · walk_at "tl"
        exact intF_y (decide_eq_true h)
      · walk_at "tl"
        exact intF_n (decide_eq_false h)
    walk_at "tl"
    rw [List.map_id]
    exact k _ ⟨hI.nd.sublist List.filter_sublist, fun z hz => hI.brd z (List.mem_filter.mp hz).1⟩
  obtain ⟨zs, ts, x3, x4, x5, x6, x8⟩ := x
  obtain ⟨hi, rfl⟩ := rngT_get ht
  have hi : i < xs.length := by simpa using hi
  walk_at "tl"
  refine ⟨_, atI_getD hi, ?_⟩
  rw [cut_dropI]
  have hge : ∀ y ∈ xs.drop i, y ∈ xs ∧ xs.getD i 0 ≤ y := fun y hy => by
    refine ⟨List.mem_of_mem_drop hy, ?_⟩
    obtain ⟨j, hj, e⟩ := List.mem_iff_getElem.mp hy
    rw [List.getElem_drop] at e
    rw [List.length_drop] at hj
    have ex : xs.getD i 0 = xs[i] := by rw [List.getD_eq_getElem?_getD, List.getElem?_eq_getElem hi]; rfl
    rw [ex, ← e]
    cases j with
    | zero => exact Int.le_refl _
    | succ j => exact Int.le_of_lt (List.pairwise_iff_getElem.mp hp i (i + (j + 1)) hi (by omega) (by omega))
  have hxm : xs.getD i 0 ∈ xs := List.mem_of_getElem? (getD_at hi)
  have hgt : ∀ z ∈ xs.drop (i + 1), xs.getD i 0 < z := fun y hy => by
    obtain ⟨j, hj, e⟩ := List.mem_iff_getElem.mp hy
    rw [List.getElem_drop] at e
    rw [List.length_drop] at hj
    have ex : xs.getD i 0 = xs[i] := by rw [List.getD_eq_getElem?_getD, List.getElem?_eq_getElem hi]; rfl
    rw [ex, ← e]
    exact List.pairwise_iff_getElem.mp hp i (i + 1 + j) hi (by omega) (by omega)
  generalize xs.getD i 0 = x at hge hxm hgt ⊢
  refine forT_p (α := List Int × List T × Option T × Option T) (fun (zs, ts, x5, x8) => [some (fz (ruleT r)), some (fz (.tup (xs.map T.int))), some ⟨.own, false, .dct (zs.map Sum.inl) ts⟩, some (fz (.int i)), some (fz (.int x)), ofT x5, ofT x6, none, ofT x8]) (fun _ (zs, ts, _) => Bz r xs zs) (zs, ts, x5, x8) rfl hI (fun j t y ht hI => ?_) (fun y hI => ?_)
  rotate_left
  · obtain ⟨zs, ts, x5, x8⟩ := y
    cases r with
    | evens => walk_at "tl"; exact ⟨(zs, ts, some _, some _, x5, x6, x8), rfl, hI⟩
    | sums => walk_at "tl"; exact ⟨(zs, ts, some _, some _, x5, x6, x8), rfl, hI⟩
    | pairs => walk_at "tl"; exact ⟨(zs, ts, some _, some _, x5, x6, x8), rfl, hI⟩
    | gaps ss =>
      walk_at "tl"
      refine forT_p (α := List Int × List T × Option T) (fun (zs, ts, x6) => [some (fz (ruleT (.gaps ss))), some (fz (.tup (xs.map T.int))), some ⟨.own, false, .dct (zs.map Sum.inl) ts⟩, some (fz (.int i)), some (fz (.int x)), ofT x5, ofT x6, none, ofT x8]) (fun _ (zs, ts, _) => Bz (.gaps ss) xs zs) (zs, ts, x6) rfl hI (fun j t y ht hI => ?_) (fun y hI => ?_)
      · obtain ⟨zs, ts, x6⟩ := y
        obtain ⟨s, hs, rfl⟩ := ints_get ht
        have hzl := hI.len hr hp hl
        walk_at "tl"
        refine ⟨by rw [List.length_map]; omega, (addI zs (x + s), dPutV (zs.map Sum.inl) ts (Sum.inl (x + s)) (.bl true), some (.int s)), by rw [dPutK_ints]; rfl, hI.add ⟨[x], x, rfl, hxm, ?_⟩⟩
        rw [show x + s - x = s by omega]
        exact List.mem_of_getElem? hs
      · obtain ⟨zs, ts, x6⟩ := y
        walk_at "tl"
        exact ⟨(zs, ts, some _, some _, x5, x6, x8), rfl, hI⟩
  obtain ⟨zs, ts, x5, x8⟩ := y
  obtain ⟨y, hy, rfl⟩ := ints_get ht
  obtain ⟨hym, hxy⟩ := hge y (List.mem_of_getElem? hy)
  have hzl := hI.len hr hp hl
  cases r with
  | evens =>
    walk_at "tl"
    refine cnd_2 (fun h => ?_) (fun h => ?_)
    · walk_at "tl"
      refine ⟨Or.inl (by decide), by rw [List.length_map]; omega, (addI zs (2 * y - x), dPutV (zs.map Sum.inl) ts (Sum.inl (2 * y - x)) (.bl true), some (.int y), x8), by rw [dPutK_ints]; rfl, hI.add ⟨[x, y], x, y, rfl, hxm, hym, h, rfl⟩⟩
    · walk_at "tl"
      exact ⟨(zs, ts, some (.int y), x8), rfl, hI⟩
  | sums =>
    walk_at "tl"
    exact ⟨by rw [List.length_map]; omega, (addI zs (x + y), dPutV (zs.map Sum.inl) ts (Sum.inl (x + y)) (.bl true), some (.int y), x8), by rw [dPutK_ints]; rfl, hI.add ⟨[x, y], x, y, rfl, hxm, hym, hxy, rfl⟩⟩
  | pairs =>
    walk_at "tl"
    refine cnd_2 (fun h => ?_) (fun h => ?_)
    rotate_left
    · walk_at "tl"
      exact ⟨(zs, ts, some (.int y), x8), rfl, hI⟩
    walk_at "tl"
    rw [show (i : Int) + 1 = ((i + 1 : Nat) : Int) by omega, cut_dropI]
    refine forT_p (α := List Int × List T × Option T) (fun (zs, ts, x8) => [some (fz (ruleT .pairs)), some (fz (.tup (xs.map T.int))), some ⟨.own, false, .dct (zs.map Sum.inl) ts⟩, some (fz (.int i)), some (fz (.int x)), some (fz (.int y)), ofT x6, none, ofT x8]) (fun _ (zs, ts, _) => Bz .pairs xs zs) (zs, ts, x8) rfl hI (fun j t z ht hI => ?_) (fun z hI => ?_)
    · obtain ⟨zs, ts, x8⟩ := z
      obtain ⟨z, hz, rfl⟩ := ints_get ht
      have hzl := hI.len hr hp hl
      have hzd := List.mem_of_getElem? hz
      have hzm : z ∈ xs := List.mem_of_mem_drop hzd
      have hxz : x < z := hgt z hzd
      walk_at "tl"
      refine ⟨by rw [List.length_map]; omega, (addI zs (y + z - x), dPutV (zs.map Sum.inl) ts (Sum.inl (y + z - x)) (.bl true), some (.int z)), by rw [dPutK_ints]; rfl, hI.add ?_⟩
      by_cases hyz : y ≤ z
      · exact ⟨[x, y, z], x, y, z, rfl, hxm, hym, hzm, h, hyz, rfl⟩
      · exact ⟨[x, z, y], x, z, y, rfl, hxm, hzm, hym, hxz, by omega, by omega⟩
    · obtain ⟨zs, ts, x8⟩ := z
      walk_at "tl"
      exact ⟨(zs, ts, some (.int y), x8), rfl, hI⟩
  | gaps ss =>
    walk_at "tl"
    exact ⟨(zs, ts, some (.int y), x8), rfl, hI⟩
/-! ### triples, due, grown -/
def triS (n : Int) : Nat → Int
  | 0 => 0
  | i + 1 => triS n i + (i : Int) * (n - i)
theorem triS_eq (n : Int) : ∀ i : Nat, 6 * triS n i = 3 * n * ((i : Int) * ((i : Int) - 1)) - (i : Int) * ((i : Int) - 1) * (2 * (i : Int) - 1)
  | 0 => by simp [triS]
  | i + 1 => by
    have h := triS_eq n i
    unfold triS
    push_cast
    grind
theorem triS_bm (n : Nat) : triS n n = bm .pairs n := by
  have h := triS_eq n n
  show _ = ((n : Int) + 1) * (n : Int) * ((n : Int) - 1) / 6
  have : ((n : Int) + 1) * (n : Int) * ((n : Int) - 1) = triS n n * 6 := by grind
  rw [this, Int.mul_ediv_cancel _ (by decide)]
theorem triS_bd {n : Int} (h0 : 0 ≤ n) (h1 : n ≤ 200) : ∀ i : Nat, (i : Int) ≤ n → 0 ≤ triS n i ∧ triS n i ≤ 40000 * i
  | 0, _ => by simp [triS]
  | i + 1, h => by
    have ih := triS_bd h0 h1 i (by omega)
    unfold triS
    have a1 : 0 ≤ (i : Int) * (n - i) := Int.mul_nonneg (by omega) (by omega)
    have a2 : (i : Int) * (n - i) ≤ 200 * 200 := Int.mul_le_mul (by omega) (by omega) (by omega) (by decide)
    omega
def sp_law_triples_a : TSp := fun as PR PX => ∃ n : Nat, as = [fz (.int n)] ∧ n ≤ 200 ∧ PR (.val false (.int (bm .pairs n))) [.int n]
def rd_law_triples_a : TTS := ttSeq (ttSet 1 (tk (.int 0)))
  (ttSeq (ttFor (tiRng1 (tlcons (tv 0) (tlnil))) (tgN 2) (ttSet 1 (ttBin addT (tv 1) (ttBin mulT (tv 2) (ttBin subT (tv 0) (tv 2))))))
  (ttRet (tv 1)))
theorem ln_law_triples_a : ∀ as PR PX, sp_law_triples_a as PR PX → as.length = 1 := by
  rintro as PR PX ⟨n, rfl, _⟩
  rfl
theorem i_law_triples {n : Nat} {PR : R → List T → Prop} {PX : String → List T → Prop} (h : n ≤ 200) (k : PR (.val false (.int (bm .pairs n))) [.int n]) : sp_law_triples_a [fz (.int n)] PR PX := ⟨n, rfl, h, k⟩
theorem ok_law_triples_a : ∀ as PR PX, sp_law_triples_a as PR PX → rd_law_triples_a (endsT as PR) (startT 3 as) := by
  rintro as PR PX ⟨n, rfl, h, k⟩
  have sz := sizeLine_val
  unfold rd_law_triples_a
  walk_at "tl"
  refine ⟨by omega, ?_⟩
  refine forT_p (α := Nat × Option T) (fun (m, o) => [some (fz (.int n)), some (fz (.int (triS n m))), ofT o]) (fun i (m, _) => m = i) (0, none) rfl rfl (fun i t x ht hI => ?_) (fun x hI => ?_)
  · obtain ⟨m, o⟩ := x
    obtain ⟨hi, rfl⟩ := rngT_get ht
    simp only at hI
    subst hI
    have hi : m < n := by simpa using hi
    walk_at "tl"
    exact ⟨Or.inl ⟨by omega, by omega⟩, (m + 1, some (.int m)), rfl, rfl⟩
  · obtain ⟨m, o⟩ := x
    simp only [rngT_len, Int.toNat_natCast] at hI
    subst hI
    walk_at "tl"
    rw [triS_bm]
    exact k
def sp_law_due_d : TSp := fun as PR PX => ∃ r, ∃ n : Nat, as = [fz (ruleT r), fz (.int n)] ∧ RlOk r ∧ n ≤ 200 ∧ PR (.val false (.int (bm r n))) [ruleT r, .int n]
def rd_law_due_d : TTS := ttSeq (ttIfS (ttB (ttBin (eqT) (ttIx (tv 0) (tk (.int 0))) (tk (.str "evens")))) (ttRet (ttSumRg1 (tv 1))) (ttNext))
  (ttSeq (ttIfS (ttB (ttBin (eqT) (ttIx (tv 0) (tk (.int 0))) (tk (.str "sums")))) (ttRet (ttSumRg1 (ttBin addT (tv 1) (tk (.int 1))))) (ttNext))
  (ttSeq (ttIfS (ttB (ttBin (eqT) (ttIx (tv 0) (tk (.int 0))) (tk (.str "pairs")))) (ttRet (ttCall sp_law_triples_a nox (taF (tv 1) (taNil)))) (ttNext))
  (ttRet (ttC1 sumT (ttLc (tiSeq (sf (ttIx (tv 0) (tk (.int 1))))) (tgN 2) (ttYes) (tv 1) [2])))))
theorem ln_law_due_d : ∀ as PR PX, sp_law_due_d as PR PX → as.length = 2 := by
  rintro as PR PX ⟨r, n, rfl, _⟩
  rfl
theorem i_due_d {r : Rl} {n : Nat} {PR : R → List T → Prop} {PX : String → List T → Prop} (hr : RlOk r) (h : n ≤ 200) (k : PR (.val false (.int (bm r n))) [ruleT r, .int n]) : sp_law_due_d [fz (ruleT r), fz (.int n)] PR PX := ⟨r, n, rfl, hr, h, k⟩
theorem half_eq {a b : Int} (h : 2 * a = b) : a = b / 2 := by omega
theorem sum_const {n : Int} : ∀ ss : List Int, (ss.map fun _ => n).sum = n * ss.length
  | [] => by simp
  | s :: ss => by
    rw [List.map_cons, List.sum_cons, sum_const ss, List.length_cons]
    push_cast
    grind
theorem ok_law_due_d : ∀ as PR PX, sp_law_due_d as PR PX → rd_law_due_d (endsT as PR) (startT 3 as) := by
  rintro as PR PX ⟨r, n, rfl, hr, h, k⟩
  have sz := sizeLine_val
  unfold rd_law_due_d
  cases r with
  | evens =>
    walk_at "tl"
    refine ⟨RgOk.of_le (by omega) (by omega) (by omega) (by omega), ?_⟩
    rw [Int.toNat_natCast, half_eq (sumUp_two n)]
    exact k
  | sums =>
    walk_at "tl"
    refine ⟨RgOk.of_le (by omega) (by omega) (by omega) (by omega), ?_⟩
    rw [show ((n : Int) + 1).toNat = n + 1 by omega, half_eq (sumUp_two (n + 1))]
    rw [show ((n + 1 : Nat) : Int) * (((n + 1 : Nat) : Int) - 1) / 2 = bm .sums n by
      show _ = (n : Int) * ((n : Int) + 1) / 2
      congr 1
      push_cast
      grind]
    exact k
  | pairs =>
    walk_at "tl"
    refine i_law_triples h ?_
    walk_at "tl"
    exact k
  | gaps ss =>
    walk_at "tl"
    refine lcT_mi (fun _ => (n : Int)) (by walk_at "fz") (by have := hr.l1; omega) (fun x hx => ?_) ?_
    · walk_at "tl"
    walk_at "tl"
    rw [sum_const]
    exact k
def grwN (r : Rl) (n : Int) : Int := match r with
  | .evens => n - 1
  | .sums => n
  | .pairs => (n - 1) * n / 2
  | .gaps ss => ss.length
theorem bm_grw {r : Rl} {n : Int} : bm r n - bm r (n - 1) = grwN r n := by
  cases r with
  | evens =>
    show n * (n - 1) / 2 - (n - 1) * (n - 1 - 1) / 2 = n - 1
    rw [show n * (n - 1) = (n - 1) * (n - 1 - 1) + (n - 1) * 2 by grind, Int.add_mul_ediv_right _ _ (by decide)]
    omega
  | sums =>
    show n * (n + 1) / 2 - (n - 1) * (n - 1 + 1) / 2 = n
    rw [show n * (n + 1) = (n - 1) * (n - 1 + 1) + n * 2 by grind, Int.add_mul_ediv_right _ _ (by decide)]
    omega
  | pairs =>
    show (n + 1) * n * (n - 1) / 6 - (n - 1 + 1) * (n - 1) * (n - 1 - 1) / 6 = (n - 1) * n / 2
    obtain ⟨m, hm⟩ : ∃ m, (n - 1) * n = m * 2 := by
      rcases (show n % 2 = 0 ∨ n % 2 = 1 by omega) with h | h
      · obtain ⟨q, rfl⟩ : ∃ q, n = 2 * q := ⟨n / 2, by omega⟩
        exact ⟨(2 * q - 1) * q, by grind⟩
      · obtain ⟨q, rfl⟩ : ∃ q, n = 2 * q + 1 := ⟨n / 2, by omega⟩
        exact ⟨q * (2 * q + 1), by grind⟩
    rw [show (n + 1) * n * (n - 1) = (n - 1 + 1) * (n - 1) * (n - 1 - 1) + m * 6 by grind, Int.add_mul_ediv_right _ _ (by decide), hm, Int.mul_ediv_cancel _ (by decide)]
    omega
  | gaps ss =>
    show n * (ss.length : Int) - (n - 1) * (ss.length : Int) = (ss.length : Int)
    grind
def sp_law_grown_a : TSp := fun as PR PX => ∃ r n, as = [fz (ruleT r), fz (.int n)] ∧ 0 < n ∧ n ≤ 2 ^ 30 ∧ PR (.val false (.int (grwN r n))) [ruleT r, .int n]
def rd_law_grown_a : TTS := ttSeq (ttIfS (ttB (ttBin (eqT) (ttIx (tv 0) (tk (.int 0))) (tk (.str "evens")))) (ttRet (ttBin subT (tv 1) (tk (.int 1)))) (ttNext))
  (ttSeq (ttIfS (ttB (ttBin (eqT) (ttIx (tv 0) (tk (.int 0))) (tk (.str "sums")))) (ttRet (tv 1)) (ttNext))
  (ttSeq (ttIfS (ttB (ttBin (eqT) (ttIx (tv 0) (tk (.int 0))) (tk (.str "pairs")))) (ttRet (ttBin fdivT (ttBin mulT (ttBin subT (tv 1) (tk (.int 1))) (tv 1)) (tk (.int 2)))) (ttNext))
  (ttRet (ttC1 lenT (ttIx (tv 0) (tk (.int 1)))))))
theorem ln_law_grown_a : ∀ as PR PX, sp_law_grown_a as PR PX → as.length = 2 := by
  rintro as PR PX ⟨r, n, rfl, _⟩
  rfl
theorem i_law_grown {r : Rl} {n : Int} {PR : R → List T → Prop} {PX : String → List T → Prop} (h0 : 0 < n) (h1 : n ≤ 2 ^ 30) (k : PR (.val false (.int (grwN r n))) [ruleT r, .int n]) : sp_law_grown_a [fz (ruleT r), fz (.int n)] PR PX := ⟨r, n, rfl, h0, h1, k⟩
theorem ok_law_grown_a : ∀ as PR PX, sp_law_grown_a as PR PX → rd_law_grown_a (endsT as PR) (startT 2 as) := by
  rintro as PR PX ⟨r, n, rfl, h0, h1, k⟩
  unfold rd_law_grown_a
  cases r with
  | evens => walk_at "tl"; exact k
  | sums => walk_at "tl"; exact k
  | pairs =>
    walk_at "tl"
    exact ⟨Or.inl ⟨by omega, by omega⟩, by decide, k⟩
  | gaps ss =>
    walk_at "tl"
    rw [List.length_map]
    exact k
def sp_law_k09 : TSp := fun as PR PX => ∃ ns : List Int, as = [fz (.scr ns)] ∧ ns.length ≤ 63 ∧ ∀ ts, PR (.val false (.bl true)) ts
def rd_law_k09 : TTS := ttSeq (ttFor (tiSeq (sf (ttCall sp_law_cells_a nox (taF (tv 0) (taF (tk (.int 3)) (taF (tk (.int 12)) (taNil))))))) (tgN 1) (ttSeq (ttSet 2 (ttCall sp_law_dig_a nox (taF (tv 1) (taNil))))
  (ttSeq (ttSet 3 (ttCall sp_law_rule_a nox (taV 2 (taNil))))
  (ttSeq (ttSet 4 (ttCall sp_law_next_a nox (taV 2 (taF (ttIx (ttLst (tlcons (tk (.int 200)) (tlcons (tk (.int 61)) (tlnil)))) (ttCall sp_law_next_a nox (taV 2 (taF (tk (.int 2)) (taNil))))) (taNil)))))
  (ttSeq (ttSet 5 (ttIx (ttLst (tlcons (ttBin powT (tk (.int 10)) (tk (.int 6))) (tlcons (ttBin subT (ttBin powT (tk (.int 10)) (tk (.int 6))) (ttCall sp_law_next_a nox (taV 2 (taF (ttBin powT (tk (.int 10)) (tk (.int 6))) (taNil))))) (tlcons (ttCall sp_law_next_a nox (taV 2 (taF (tk (.int 3)) (taNil)))) (tlnil))))) (ttCall sp_law_next_a nox (taV 2 (taF (tk (.int 3)) (taNil))))))
  (ttSeq (ttSet 6 (ttCall sp_barred_most_a nox (taF (tv 3) (taF (tv 4) (taNil)))))
  (ttSeq (ttIfS (ttOr (ttB (ttIsi "bool" (tv 6))) (ttB (ttBin (neT) (tv 6) (ttCall sp_law_due_d nox (taF (tv 3) (taF (tv 4) (taNil))))))) (ttRet (tk (.bl false))) (ttNext))
  (ttSeq (ttIfS (ttB (ttBin (gtT) (tv 5) (tk (.int 0)))) (ttSeq (ttSet 8 (ttCall sp_barred_most_a nox (taF (tv 3) (taF (ttBin subT (tv 5) (tk (.int 1))) (taNil)))))
  (ttIfS (ttB (ttBin (neT) (ttBin subT (ttCall sp_barred_most_a nox (taF (tv 3) (taF (tv 5) (taNil)))) (tv 8)) (ttCall sp_law_grown_a nox (taF (tv 3) (taF (tv 5) (taNil)))))) (ttRet (tk (.bl false))) (ttNext))) (ttNext))
  (ttSeq (ttSet 7 (ttCall sp_law_set_a nox (taV 2 (taF (tv 3) (taF (ttIx (ttLst (tlcons (tk (.int 24)) (tlcons (tk (.int 12)) (tlnil)))) (ttC1 intC (ttBin (eqT) (ttIx (tv 3) (tk (.int 0))) (tk (.str "pairs"))))) (taNil))))))
  (ttIfS (ttB (ttBin (neT) (tv 7) (ttTup (tlnil)))) (ttSeq (ttSet 9 (ttCall sp_law_barred_a nox (taF (tv 3) (taF (tv 7) (taNil)))))
  (ttSeq (ttIfS (ttB (ttBin (gtT) (ttC1 lenT (tv 9)) (ttCall sp_barred_most_a nox (taF (tv 3) (taF (ttC1 lenT (tv 7)) (taNil)))))) (ttRet (tk (.bl false))) (ttNext))
  (ttFor (tiSeq (sf (ttSl (tv 9) (toN) (toS (tk (.int 30)))))) (tgN 10) (ttIfS (ttB (ttBin (isT false) (ttCall sp_bar_a nox (taF (tv 3) (taF (tv 7) (taF (tv 10) (taNil))))) (tk .non))) (ttRet (tk (.bl false))) (ttNext))))) (ttNext)))))))))))
  (ttRet (ttAndV (ttBin (eqT) (ttCall sp_barred_most_a nox (taF (ttTup (tlcons (tk (.str "pairs")) (tlnil))) (taF (tk (.int 2)) (taNil)))) (tk (.int 1))) (ttBin (eqT) (ttCall sp_barred_most_a nox (taF (ttTup (tlcons (tk (.str "evens")) (tlnil))) (taF (tk (.int 0)) (taNil)))) (tk (.int 0)))))
theorem ln_law_k09 : ∀ as PR PX, sp_law_k09 as PR PX → as.length = 1 := by
  rintro as PR PX ⟨ns, rfl, _⟩
  rfl
theorem top_law_k09 (ns : List Int) (h : ns.length ≤ 63) : sp_law_k09 [⟨.frz, false, .scr ns⟩] (fun r _ => r = .val false (.bl true)) fun _ _ => False := ⟨ns, rfl, h, fun _ => rfl⟩
theorem ok_law_k09 : ∀ as PR PX, sp_law_k09 as PR PX → rd_law_k09 (endsT as PR) (startT 11 as) := by
  rintro as PR PX ⟨ns, rfl, hn, k⟩
  have sz := sizeLine_val
  unfold rd_law_k09
  walk_at "tl"
  refine i_cells (l := 3) (m := 12) hn (by decide) fun cs hcs => ?_
  walk_at "tl"
  refine forT_p (α := Option T × Option T × Option T × Option T × Option T × Option T × Option T × Option T × Option T × Option T) (fun (x1, x2, x3, x4, x5, x6, x7, x8, x9, x10) => [some (fz (.scr ns)), ofT x1, ofO x2, ofT x3, ofT x4, ofT x5, ofT x6, ofT x7, ofT x8, ofO x9, ofT x10]) (fun _ _ => True) (none, none, none, none, none, none, none, none, none, none) rfl trivial (fun i t x ht _ => ?_) (fun x _ => ?_)
  rotate_left
  · obtain ⟨x1, x2, x3, x4, x5, x6, x7, x8, x9, x10⟩ := x
    walk_at "tl"
    refine ⟨by omega, i_barred_most (r := .pairs) (n := 2) (by decide) (by decide) ?_⟩
    rw [show bm .pairs 2 = 1 by decide]
    walk_at "tl"
    refine ⟨by omega, i_barred_most (r := .evens) (n := 0) (by decide) (by decide) ?_⟩
    rw [show bm .evens 0 = 0 by decide]
    walk_at "tl"
    exact k _
  obtain ⟨x1, x2, x3, x4, x5, x6, x7, x8, x9, x10⟩ := x
  obtain ⟨n, _, rfl⟩ := List.mem_map.mp (List.mem_of_getElem? ht)
  walk_at "tl"
  refine i_dig fun a b c => ?_
  walk_at "tl"
  refine i_rule_a fun r a b c hr => ?_
  walk_at "tl"
  refine ⟨by omega, i_next_a (by decide) (by decide) fun d a b c d0 d1 => ?_⟩
  walk_at "tl"
  obtain ⟨v, hv, hv2⟩ := pickI (is := [200, 61]) (i := d) (p := fun v => v = 200 ∨ v = 61) d0 (by simpa using d1) (by simp)
  refine ⟨_, hv, i_next_a (by omega) (by rcases hv2 with rfl | rfl <;> decide) fun many a b c m0 m1 => ?_⟩
  walk_at "tl"
  obtain ⟨mn, rfl⟩ : ∃ mn : Nat, many = (mn : Int) := ⟨many.toNat, by omega⟩
  refine ⟨by decide, by decide, by decide, i_next_a (by decide) (by decide) fun u a b c u0 u1 => ?_⟩
  walk_at "tl"
  refine i_next_a (by decide) (by decide) fun w a b c w0 w1 => ?_
  walk_at "tl"
  refine ⟨by omega, i_next_a (by decide) (by decide) fun d a b c d0 d1 => ?_⟩
  walk_at "tl"
  obtain ⟨far, hfar, hf0, hf1⟩ := pickI (is := [1000000, 1000000 - u, w]) (i := d) (p := fun v => 0 ≤ v ∧ v ≤ 1000000) d0 (by simpa using d1) (by
    intro v hv
    simp only [List.mem_cons, List.not_mem_nil, or_false] at hv
    rcases hv with rfl | rfl | rfl <;> omega)
  refine ⟨_, hfar, ?_⟩
  walk_at "t"
  have hmn : mn < 200 := by rcases hv2 with rfl | rfl <;> omega
  refine i_barred_most (by omega) (by omega) ?_
  walk_at "tl"
  refine i_due_d hr (by omega) ?_
  walk_at "tl"
  generalize hD : seqD _ _ = D'
  have rest : ∀ x8 : Option T, D'.nx [some (fz (.scr ns)), some (fz (.int n)), some ⟨.own, false, pl a b c⟩, some (fz (ruleT r)), some (fz (.int mn)), some (fz (.int far)), some (fz (.int (bm r mn))), ofT x7, ofT x8, ofO x9, ofT x10] := fun x8 => by
    subst hD
    walk_at "tl"
    refine ⟨by omega, ?_⟩
    walk_at "g"
    obtain ⟨mo, hmo, mo0, mo1⟩ := pickI (is := [24, 12]) (i := TL.b2i (isP r)) (p := fun v => 4 ≤ v ∧ v ≤ 60) (by unfold TL.b2i; split <;> decide) (by unfold TL.b2i; split <;> decide) (by simp)
    refine ⟨_, hmo, i_law_set hr mo0 mo1 fun xs a b c hS => ?_⟩
    have hl := hS.len
    walk_at "tl"
    refine ⟨by omega, cnd_2 (fun e => ?_) (fun hne => ?_)⟩
    · walk_at "tl"
      exact ⟨(some _, some _, some _, some _, some _, some _, some _, x8, x9, x10), rfl⟩
    walk_at "tl"
    refine i_law_barred_a hr hS hne fun zs hz => ?_
    have hzl := hz.len hr hS.pw hl
    walk_at "tl"
    rw [List.length_map]
    refine i_barred_most (by omega) (by omega) ?_
    walk_at "tl"
    rw [List.length_map]
    have hct := brd_count hS.pw hz.nd hz.brd
    refine cnd_F (by omega) ?_
    walk_at "tl"
    refine forT_p (α := Option T) (fun x10 => [some (fz (.scr ns)), some (fz (.int n)), some ⟨.own, false, pl a b c⟩, some (fz (ruleT r)), some (fz (.int mn)), some (fz (.int far)), some (fz (.int (bm r mn))), some (fz (.tup (xs.map T.int))), ofT x8, some ⟨.own, false, .lst (zs.map T.int)⟩, ofT x10]) (fun _ _ => True) x10 rfl trivial (fun j t x10 ht _ => ?_) (fun x10 _ => ?_)
    rotate_left
    · walk_at "tl"
      exact ⟨(some _, some _, some _, some _, some _, some _, some _, x8, some _, x10), rfl⟩
    obtain ⟨z, hz2, rfl⟩ : ∃ z, z ∈ zs ∧ t = .int z := by
      have hm := List.mem_of_getElem? ht
      unfold cutT at hm
      obtain ⟨z, hz, e⟩ := List.mem_map.mp (List.mem_of_mem_drop (List.mem_of_mem_take hm))
      exact ⟨z, hz, e.symm⟩
    obtain ⟨w, ws, hw⟩ : ∃ w ws, barsR r xs z = w :: ws := by
      cases e : barsR r xs z with
      | nil => exact absurd (hz.brd z hz2) ((bars_nil hS.pw).mp e)
      | cons w ws => exact ⟨w, ws, rfl⟩
    walk_at "tl"
    refine i_barT hr (by omega) ?_
    rw [show barT r xs z = tupI w by unfold barT; rw [hw]]
    walk_at "tl"
    exact ⟨some _, rfl⟩
  refine cnd_2 (fun h => ?_) (fun h => ?_)
  · walk_at "tl"
    refine i_barred_most (by omega) (by omega) ?_
    walk_at "tl"
    refine i_barred_most (by omega) (by omega) ?_
    walk_at "tl"
    refine i_law_grown h (by omega) ?_
    walk_at "tl"
    refine cnd_2 (fun _ => ?_) (fun h => absurd bm_grw h)
    walk_at "tl"
    exact rest (some _)
  · walk_at "tl"
    exact rest _
end Lib

namespace Wk
open PySem PySem.Spec PyProof.Rows L2 TL Lib
def topS (i : Nat) : Stmt := PySem.Challenge.pw_shungrow_k09_how_many_are_barred.main.body.getD i (.Pass ⟨0, 0, 0, 0⟩)
structure Bi (K : PySem.W.Frag) (mg : Str → Option Value) : Prop where
  b_bool : mg "bool" = none
  b_enumerate : mg "enumerate" = none
  b_int : mg "int" = none
  b_isinstance : mg "isinstance" = none
  b_len : mg "len" = none
  b_list : mg "list" = none
  b_max : mg "max" = none
  b_min : mg "min" = none
  b_range : mg "range" = none
  b_sorted : mg "sorted" = none
  b_sum : mg "sum" = none
  b_tuple : mg "tuple" = none
abbrev s_law_cells_a : Stmt := topS 10
abbrev N_law_cells_a : List Str := ["script", "least", "most", "found"]
theorem sc_law_cells_a : FnScope N_law_cells_a ["script", "least", "most"] (defScope s_law_cells_a) := ⟨rfl, rfl, rfl, by decide +kernel, rfl, by decide +kernel, by decide +kernel⟩
abbrev s_law_dig_a : Stmt := topS 8
abbrev N_law_dig_a : List Str := ["cell"]
theorem sc_law_dig_a : FnScope N_law_dig_a ["cell"] (defScope s_law_dig_a) := ⟨rfl, rfl, rfl, by decide +kernel, rfl, by decide +kernel, by decide +kernel⟩
abbrev s_law_next_a : Stmt := topS 9
abbrev N_law_next_a : List Str := ["pool", "base", "mixed", "stir", "digit"]
theorem sc_law_next_a : FnScope N_law_next_a ["pool", "base"] (defScope s_law_next_a) := ⟨rfl, rfl, rfl, by decide +kernel, rfl, by decide +kernel, by decide +kernel⟩
abbrev s_law_rule_a : Stmt := topS 11
abbrev N_law_rule_a : List Str := ["pool", "way", "steps", "turn"]
theorem sc_law_rule_a : FnScope N_law_rule_a ["pool"] (defScope s_law_rule_a) := ⟨rfl, rfl, rfl, by decide +kernel, rfl, by decide +kernel, by decide +kernel⟩
abbrev s_barred_most_a : Stmt := topS 6
abbrev N_barred_most_a : List Str := ["rule", "many"]
theorem sc_barred_most_a : FnScope N_barred_most_a ["rule", "many"] (defScope s_barred_most_a) := ⟨rfl, rfl, rfl, by decide +kernel, rfl, by decide +kernel, by decide +kernel⟩
abbrev s_law_bars_a : Stmt := topS 12
abbrev N_law_bars_a : List Str := ["rule", "some", "number", "found", "at", "x", "to", "y", "z"]
theorem sc_law_bars_a : FnScope N_law_bars_a ["rule", "some", "number"] (defScope s_law_bars_a) := ⟨rfl, rfl, rfl, by decide +kernel, rfl, by decide +kernel, by decide +kernel⟩
abbrev s_law_small_a : Stmt := topS 13
abbrev N_law_small_a : List Str := ["pool", "rule", "most", "way", "many", "found", "number", "cap", "k"]
theorem sc_law_small_a : FnScope N_law_small_a ["pool", "rule", "most"] (defScope s_law_small_a) := ⟨rfl, rfl, rfl, by decide +kernel, rfl, by decide +kernel, by decide +kernel⟩
abbrev s_law_set_a : Stmt := topS 14
abbrev N_law_set_a : List Str := ["pool", "rule", "most", "found", "times", "more", "half", "number"]
theorem sc_law_set_a : FnScope N_law_set_a ["pool", "rule", "most"] (defScope s_law_set_a) := ⟨rfl, rfl, rfl, by decide +kernel, rfl, by decide +kernel, by decide +kernel⟩
abbrev s_law_barred_a : Stmt := topS 15
abbrev N_law_barred_a : List Str := ["rule", "some", "found", "at", "x", "y", "step", "number", "z"]
theorem sc_law_barred_a : FnScope N_law_barred_a ["rule", "some"] (defScope s_law_barred_a) := ⟨rfl, rfl, rfl, by decide +kernel, rfl, by decide +kernel, by decide +kernel⟩
abbrev s_law_triples_a : Stmt := topS 16
abbrev N_law_triples_a : List Str := ["many", "found", "y"]
theorem sc_law_triples_a : FnScope N_law_triples_a ["many"] (defScope s_law_triples_a) := ⟨rfl, rfl, rfl, by decide +kernel, rfl, by decide +kernel, by decide +kernel⟩
abbrev s_law_due_d : Stmt := topS 17
abbrev N_law_due_d : List Str := ["rule", "many", "step"]
theorem sc_law_due_d : FnScope N_law_due_d ["rule", "many"] (defScope s_law_due_d) := ⟨rfl, rfl, rfl, by decide +kernel, rfl, by decide +kernel, by decide +kernel⟩
abbrev s_law_grown_a : Stmt := topS 18
abbrev N_law_grown_a : List Str := ["rule", "many"]
theorem sc_law_grown_a : FnScope N_law_grown_a ["rule", "many"] (defScope s_law_grown_a) := ⟨rfl, rfl, rfl, by decide +kernel, rfl, by decide +kernel, by decide +kernel⟩
abbrev s_even_bars_a : Stmt := topS 1
abbrev N_even_bars_a : List Str := ["some", "number", "found", "y"]
theorem sc_even_bars_a : FnScope N_even_bars_a ["some", "number"] (defScope s_even_bars_a) := ⟨rfl, rfl, rfl, by decide +kernel, rfl, by decide +kernel, by decide +kernel⟩
abbrev s_sum_bars_a : Stmt := topS 2
abbrev N_sum_bars_a : List Str := ["some", "number", "x"]
theorem sc_sum_bars_a : FnScope N_sum_bars_a ["some", "number"] (defScope s_sum_bars_a) := ⟨rfl, rfl, rfl, by decide +kernel, rfl, by decide +kernel, by decide +kernel⟩
abbrev s_pair_bars_a : Stmt := topS 3
abbrev N_pair_bars_a : List Str := ["some", "number", "found", "at", "y", "x"]
theorem sc_pair_bars_a : FnScope N_pair_bars_a ["some", "number"] (defScope s_pair_bars_a) := ⟨rfl, rfl, rfl, by decide +kernel, rfl, by decide +kernel, by decide +kernel⟩
abbrev s_all_bars_a : Stmt := topS 4
abbrev N_all_bars_a : List Str := ["rule", "some", "number", "step"]
theorem sc_all_bars_a : FnScope N_all_bars_a ["rule", "some", "number"] (defScope s_all_bars_a) := ⟨rfl, rfl, rfl, by decide +kernel, rfl, by decide +kernel, by decide +kernel⟩
abbrev s_bar_a : Stmt := topS 5
abbrev N_bar_a : List Str := ["rule", "some", "number", "found"]
theorem sc_bar_a : FnScope N_bar_a ["rule", "some", "number"] (defScope s_bar_a) := ⟨rfl, rfl, rfl, by decide +kernel, rfl, by decide +kernel, by decide +kernel⟩
abbrev s_law_k09 : Stmt := topS 19
abbrev N_law_k09 : List Str := ["script", "cell", "pool", "rule", "many", "far", "found", "some", "fewer", "there", "number"]
theorem sc_law_k09 : FnScope N_law_k09 ["script"] (defScope s_law_k09) := ⟨rfl, rfl, rfl, by decide +kernel, rfl, by decide +kernel, by decide +kernel⟩
section
variable {P : Program} {w : World} {K : PySem.W.Frag} {mg : Str → Option Value} {base : Heap} {cls : String → Addr} {f : Addr} {fd : FuncData}
theorem fn_law_cells_a (Fn : Fun K "_law_cells" "_law_cells" s_law_cells_a f fd) (Z : Bi K mg) : FnOk P w K mg base CX0 1 f fd ["script", "least", "most"] (liftSp K cls sp_law_cells_a) := by
  have nd := sc_law_cells_a.nd
  refine def0 (N := N_law_cells_a) (ps := ["script", "least", "most"]) (k := 0) (t := rd_law_cells_a) Fn sc_law_cells_a ln_law_cells_a (fun cdv A outer s H E B hr => ?_) (fun as PR PX h => ok_law_cells_a as PR PX h)
  have hu65 := Room.units65 hr
  exact tpss_cons (tps_set (i := 3) nd rfl (Or.inl rfl) (tpe_ct1 c_list (by rfl) Z.b_list (by decide +kernel) (tpe_sl (tpe_v 0) (tpo_n) (tpo_s (tpe_v 2)))))
      (tpss_cons (tps_while PassesOwn.never (tpt_cmp o_lt (tpe_c1 c_len (by rfl) Z.b_len (by decide +kernel) (tpe_v 3)) (tpe_v 1) (nomark _)) (tpss_one (tps_expr (tpe_mutL (i := 3) m_append PySem.F.slot_list_append PySem.F.type_list_append rfl (by first | exact Or.inl rfl | exact Or.inr (Or.inl rfl) | exact Or.inr (Or.inr rfl)) (tpl_cons (tpe_bin o_add (tpe_bin o_mul (tpe_bin o_mul (tpe_int) (tpe_c1 c_len (by rfl) Z.b_len (by decide +kernel) (tpe_v 3))) (tpe_c1 c_len (by rfl) Z.b_len (by decide +kernel) (tpe_v 3))) (tpe_bin o_mul (tpe_int) (tpe_c1 c_len (by rfl) Z.b_len (by decide +kernel) (tpe_v 3)))) (tpl_nil))))))
      (tpss_one (tps_ret (tpe_v 3))))
theorem fn_law_dig_a (Fn : Fun K "_law_dig" "_law_dig" s_law_dig_a f fd) (Z : Bi K mg) : FnOk P w K mg base CX0 1 f fd ["cell"] (liftSp K cls sp_law_dig_a) := by
  have nd := sc_law_dig_a.nd
  refine def0 (N := N_law_dig_a) (ps := ["cell"]) (k := 0) (t := rd_law_dig_a) Fn sc_law_dig_a ln_law_dig_a (fun cdv A outer s H E B hr => ?_) (fun as PR PX h => ok_law_dig_a as PR PX h)
  have hu65 := Room.units65 hr
  exact tpss_one (tps_ret (tpe_lst (tpl_cons (tpe_cn (c_max2 rfl) (by rfl) Z.b_max (by decide +kernel) (tpl_cons (tpe_int) (tpl_cons (tpe_bin o_sub (tpe_v 0) (tpe_bin o_pow (tpe_int) (tpe_int))) (tpl_nil)))) (tpl_cons (tpe_bin o_mod (tpe_v 0) (tpe_bin o_pow (tpe_int) (tpe_int))) (tpl_cons (tpe_int) (tpl_nil))))))
theorem fn_law_next_a (Fn : Fun K "_law_next" "_law_next" s_law_next_a f fd) (Z : Bi K mg) : FnOk P w K mg base CX0 1 f fd ["pool", "base"] (liftSp K cls sp_law_next_a) := by
  have nd := sc_law_next_a.nd
  refine def0 (N := N_law_next_a) (ps := ["pool", "base"]) (k := 0) (t := rd_law_next_a) Fn sc_law_next_a ln_law_next_a (fun cdv A outer s H E B hr => ?_) (fun as PR PX h => ok_law_next_a as PR PX h)
  have hu65 := Room.units65 hr
  exact tpss_cons (tps_if (tpt_cmp o_gt (tpe_ix hr.units (tpe_v 0) (tpe_int) (fun _ _ => rfl)) (tpe_int) (nomark _)) (tpss_cons (tps_set (i := 4) nd rfl (Or.inl rfl) (tpe_bin o_mod (tpe_ix hr.units (tpe_v 0) (tpe_int) (fun _ _ => rfl)) (tpe_v 1)))
      (tpss_cons (tps_setIx (i := 0) hr.units rfl (by first | exact Or.inl rfl | exact Or.inr (Or.inl rfl) | exact Or.inr (Or.inr rfl)) (tpe_bin o_fdiv (tpe_ix hr.units (tpe_v 0) (tpe_int) (fun _ _ => rfl)) (tpe_v 1)) (tpe_int))
      (tpss_one (tps_ret (tpe_v 4))))) (tpss_nil))
      (tpss_cons (tps_setIx (i := 0) hr.units rfl (by first | exact Or.inl rfl | exact Or.inr (Or.inl rfl) | exact Or.inr (Or.inr rfl)) (tpe_bin o_add (tpe_ix hr.units (tpe_v 0) (tpe_int) (fun _ _ => rfl)) (tpe_int)) (tpe_int))
      (tpss_cons (tps_set (i := 2) nd rfl (Or.inl rfl) (tpe_bin o_mod (tpe_bin o_add (tpe_ix hr.units (tpe_v 0) (tpe_int) (fun _ _ => rfl)) (tpe_bin o_mul (tpe_int) (tpe_ix hr.units (tpe_v 0) (tpe_int) (fun _ _ => rfl)))) (tpe_int)))
      (tpss_cons (tps_set (i := 3) nd rfl (Or.inl rfl) (tpe_bin o_mod (tpe_bin o_mul (tpe_bin o_add (tpe_v 2) (tpe_int)) (tpe_bin o_add (tpe_v 2) (tpe_int))) (tpe_int)))
      (tpss_one (tps_ret (tpe_bin o_mod (tpe_bin o_fdiv (tpe_bin o_mod (tpe_bin o_mul (tpe_v 3) (tpe_v 3)) (tpe_int)) (tpe_int)) (tpe_v 1)))))))
theorem fn_law_rule_a (Fn : Fun K "_law_rule" "_law_rule" s_law_rule_a f fd) (Z : Bi K mg) (C_law_next_a : TL.Cal P w K mg base CX0 cls "_law_next" ["pool", "base"] 1 sp_law_next_a) : FnOk P w K mg base CX0 2 f fd ["pool"] (liftSp K cls sp_law_rule_a) := by
  have nd := sc_law_rule_a.nd
  refine def0 (N := N_law_rule_a) (ps := ["pool"]) (k := 1) (t := rd_law_rule_a) Fn sc_law_rule_a ln_law_rule_a (fun cdv A outer s H E B hr => ?_) (fun as PR PX h => ok_law_rule_a as PR PX h)
  have hu65 := Room.units65 hr
  exact tpss_cons (tps_set (i := 1) nd rfl (Or.inl rfl) (tpe_calls C_law_next_a (hr.mono (by decide)) (by rfl) (tpa_v 0 (tpa_f (tpe_int) (tpa_nil)))))
      (tpss_cons (tps_if (tpt_cmp o_lt (tpe_v 1) (tpe_int) (nomark _)) (tpss_one (tps_ret (tpe_tup (tpl_cons (tpe_ix hr.units (tpe_lst (tpl_cons (tpe_str) (tpl_cons (tpe_str) (tpl_cons (tpe_str) (tpl_nil))))) (tpe_v 1) (fun _ _ => rfl)) (tpl_nil))))) (tpss_nil))
      (tpss_cons (tps_set (i := 2) nd rfl (Or.inl rfl) (tpe_dict0))
      (tpss_cons (tps_for PassesOwn.never rfl (tpi_rng1 (by rfl) Z.b_range (tpl_cons (tpe_bin o_add (tpe_int) (tpe_calls C_law_next_a (hr.mono (by decide)) (by rfl) (tpa_v 0 (tpa_f (tpe_int) (tpa_nil))))) (tpl_nil))) (tpg_n (i := 3) nd rfl (Or.inl rfl)) (tpss_one (tps_setIx (i := 2) hr.units rfl (by first | exact Or.inl rfl | exact Or.inr (Or.inl rfl) | exact Or.inr (Or.inr rfl)) (tpe_bl) (tpe_bin o_add (tpe_int) (tpe_calls C_law_next_a (hr.mono (by decide)) (by rfl) (tpa_v 0 (tpa_f (tpe_int) (tpa_nil))))))))
      (tpss_one (tps_ret (tpe_tup (tpl_cons (tpe_str) (tpl_cons (tpe_ct1 c_tuple (by rfl) Z.b_tuple (by decide +kernel) (tpe_c1 (c_sortedD rfl) (by rfl) Z.b_sorted (by decide +kernel) (tpe_v 2))) (tpl_nil)))))))))
theorem fn_barred_most_a (Fn : Fun K "barred_most" "barred_most" s_barred_most_a f fd) (Z : Bi K mg) : FnOk P w K mg base CX0 1 f fd ["rule", "many"] (liftSp K cls sp_barred_most_a) := by
  have nd := sc_barred_most_a.nd
  refine def0 (N := N_barred_most_a) (ps := ["rule", "many"]) (k := 0) (t := rd_barred_most_a) Fn sc_barred_most_a ln_barred_most_a (fun cdv A outer s H E B hr => ?_) (fun as PR PX h => ok_barred_most_a as PR PX h)
  have hu65 := Room.units65 hr
  exact tpss_cons (tps_if (tpt_cmp (o_eq hr.units) (tpe_ix hr.units (tpe_v 0) (tpe_int) (fun _ _ => rfl)) (tpe_str) (nomark _)) (tpss_one (tps_ret (tpe_bin o_fdiv (tpe_bin o_mul (tpe_v 1) (tpe_bin o_sub (tpe_v 1) (tpe_int))) (tpe_int)))) (tpss_nil))
      (tpss_cons (tps_if (tpt_cmp (o_eq hr.units) (tpe_ix hr.units (tpe_v 0) (tpe_int) (fun _ _ => rfl)) (tpe_str) (nomark _)) (tpss_one (tps_ret (tpe_bin o_fdiv (tpe_bin o_mul (tpe_v 1) (tpe_bin o_add (tpe_v 1) (tpe_int))) (tpe_int)))) (tpss_nil))
      (tpss_cons (tps_if (tpt_cmp (o_eq hr.units) (tpe_ix hr.units (tpe_v 0) (tpe_int) (fun _ _ => rfl)) (tpe_str) (nomark _)) (tpss_one (tps_ret (tpe_bin o_fdiv (tpe_bin o_mul (tpe_bin o_mul (tpe_bin o_add (tpe_v 1) (tpe_int)) (tpe_v 1)) (tpe_bin o_sub (tpe_v 1) (tpe_int))) (tpe_int)))) (tpss_nil))
      (tpss_one (tps_ret (tpe_bin o_mul (tpe_v 1) (tpe_c1 c_len (by rfl) Z.b_len (by decide +kernel) (tpe_ix hr.units (tpe_v 0) (tpe_int) (fun _ _ => rfl))))))))
theorem fn_law_bars_a (Fn : Fun K "_law_bars" "_law_bars" s_law_bars_a f fd) (Z : Bi K mg) : FnOk P w K mg base CX0 1 f fd ["rule", "some", "number"] (liftSp K cls sp_law_bars_a) := by
  have nd := sc_law_bars_a.nd
  refine def0 (N := N_law_bars_a) (ps := ["rule", "some", "number"]) (k := 0) (t := rd_law_bars_a) Fn sc_law_bars_a ln_law_bars_a (fun cdv A outer s H E B hr => ?_) (fun as PR PX h => ok_law_bars_a as PR PX h)
  have hu65 := Room.units65 hr
  exact tpss_cons (tps_set (i := 3) nd rfl (Or.inl rfl) (tpe_lst (tpl_nil)))
      (tpss_cons (tps_for PassesOwn.never rfl (tpi_rng1 (by rfl) Z.b_range (tpl_cons (tpe_c1 c_len (by rfl) Z.b_len (by decide +kernel) (tpe_v 1)) (tpl_nil))) (tpg_n (i := 4) nd rfl (Or.inl rfl)) (tpss_cons (tps_set (i := 5) nd rfl (Or.inr rfl) (tpe_ix hr.units (tpe_v 1) (tpe_v 4) (fun _ _ => rfl)))
      (tpss_cons (tps_if ((tpw_and (tpt_cmp (o_eq hr.units) (tpe_ix hr.units (tpe_v 0) (tpe_int) (fun _ _ => rfl)) (tpe_str) (nomark _)) (tpw_and1 (tpt_cmp (o_in hu65) (tpe_bin o_sub (tpe_v 2) (tpe_v 5)) (tpe_ix hr.units (tpe_v 0) (tpe_int) (fun _ _ => rfl)) (by rfl)))).pt) (tpss_one (tps_expr (tpe_mutL (i := 3) m_append PySem.F.slot_list_append PySem.F.type_list_append rfl (by first | exact Or.inl rfl | exact Or.inr (Or.inl rfl) | exact Or.inr (Or.inr rfl)) (tpl_cons (tpe_tup (tpl_cons (tpe_v 5) (tpl_nil))) (tpl_nil))))) (tpss_nil))
      (tpss_cons (tps_if (tpt_cmp (o_eq hr.units) (tpe_ix hr.units (tpe_v 0) (tpe_int) (fun _ _ => rfl)) (tpe_str) (nomark _)) (tpss_one (tps_set (i := 3) nd rfl (Or.inl rfl) (tpe_bin o_add (tpe_v 3) (tpe_lc (own := [("y", 7)]) rfl nd (tpi_seq (tpx_f (tpe_sl (tpe_v 1) (tpo_s (tpe_v 4)) (tpo_n)))) (blkOk_by (own := [("y", 7)]) (N := N_law_bars_a) (sc := defScope s_law_bars_a) (by decide +kernel)) (by decide) (fun _ _ _ _ _ => tpg_n (i := 7) nd rfl (by first | exact Or.inl rfl | exact Or.inr rfl)) (fun _ _ _ _ _ => tpts_one (tpt_cmp (o_eq hr.units) (tpe_bin o_add (tpe_v 5) (tpe_v 7)) (tpe_v 2) (nomark _))) (fun _ _ _ _ _ => tpe_tup (tpl_cons (tpe_v 5) (tpl_cons (tpe_v 7) (tpl_nil)))))))) (tpss_nil))
      (tpss_cons (tps_if (tpt_cmp (o_eq hr.units) (tpe_ix hr.units (tpe_v 0) (tpe_int) (fun _ _ => rfl)) (tpe_str) (nomark _)) (tpss_one (tps_set (i := 3) nd rfl (Or.inl rfl) (tpe_bin o_add (tpe_v 3) (tpe_lc (own := [("y", 7)]) rfl nd (tpi_seq (tpx_f (tpe_sl (tpe_v 1) (tpo_s (tpe_bin o_add (tpe_v 4) (tpe_int))) (tpo_n)))) (blkOk_by (own := [("y", 7)]) (N := N_law_bars_a) (sc := defScope s_law_bars_a) (by decide +kernel)) (by decide) (fun _ _ _ _ _ => tpg_n (i := 7) nd rfl (by first | exact Or.inl rfl | exact Or.inr rfl)) (fun _ _ _ _ _ => tpts_one (tpt_cmp (o_eq hr.units) (tpe_bin o_sub (tpe_v 7) (tpe_v 5)) (tpe_bin o_sub (tpe_v 2) (tpe_v 7)) (nomark _))) (fun _ _ _ _ _ => tpe_tup (tpl_cons (tpe_v 5) (tpl_cons (tpe_v 7) (tpl_nil)))))))) (tpss_nil))
      (tpss_one (tps_if (tpt_cmp (o_eq hr.units) (tpe_ix hr.units (tpe_v 0) (tpe_int) (fun _ _ => rfl)) (tpe_str) (nomark _)) (tpss_one (tps_for PassesOwn.never rfl (tpi_rng2 (by rfl) Z.b_range (tpl_cons (tpe_bin o_add (tpe_v 4) (tpe_int)) (tpl_cons (tpe_c1 c_len (by rfl) Z.b_len (by decide +kernel) (tpe_v 1)) (tpl_nil)))) (tpg_n (i := 6) nd rfl (Or.inr rfl)) (tpss_one (tps_set (i := 3) nd rfl (Or.inl rfl) (tpe_bin o_add (tpe_v 3) (tpe_lc (own := [("z", 8)]) rfl nd (tpi_seq (tpx_f (tpe_sl (tpe_v 1) (tpo_s (tpe_v 6)) (tpo_n)))) (blkOk_by (own := [("z", 8)]) (N := N_law_bars_a) (sc := defScope s_law_bars_a) (by decide +kernel)) (by decide) (fun _ _ _ _ _ => tpg_n (i := 8) nd rfl (by first | exact Or.inl rfl | exact Or.inr rfl)) (fun _ _ _ _ _ => tpts_one (tpt_cmp (o_eq hr.units) (tpe_bin o_add (tpe_ix hr.units (tpe_v 1) (tpe_v 6) (fun _ _ => rfl)) (tpe_v 8)) (tpe_bin o_add (tpe_v 2) (tpe_v 5)) (nomark _))) (fun _ _ _ _ _ => tpe_tup (tpl_cons (tpe_v 5) (tpl_cons (tpe_ix hr.units (tpe_v 1) (tpe_v 6) (fun _ _ => rfl)) (tpl_cons (tpe_v 8) (tpl_nil))))))))))) (tpss_nil))))))))
      (tpss_one (tps_ret (tpe_c1 (c_sortedR hr.units) (by rfl) Z.b_sorted (by decide +kernel) (tpe_v 3)))))
theorem fn_law_small_a (Fn : Fun K "_law_small" "_law_small" s_law_small_a f fd) (Z : Bi K mg) (C_law_bars_a : TL.Cal P w K mg base CX0 cls "_law_bars" ["rule", "some", "number"] 1 sp_law_bars_a) (C_law_next_a : TL.Cal P w K mg base CX0 cls "_law_next" ["pool", "base"] 1 sp_law_next_a) : FnOk P w K mg base CX0 2 f fd ["pool", "rule", "most"] (liftSp K cls sp_law_small_a) := by
  have nd := sc_law_small_a.nd
  refine def0 (N := N_law_small_a) (ps := ["pool", "rule", "most"]) (k := 1) (t := rd_law_small_a) Fn sc_law_small_a ln_law_small_a (fun cdv A outer s H E B hr => ?_) (fun as PR PX h => ok_law_small_a as PR PX h)
  have hu65 := Room.units65 hr
  exact tpss_cons (tps_set (i := 3) nd rfl (Or.inl rfl) (tpe_calls C_law_next_a (hr.mono (by decide)) (by rfl) (tpa_v 0 (tpa_f (tpe_int) (tpa_nil)))))
      (tpss_cons (tps_set (i := 4) nd rfl (Or.inr rfl) (tpe_ix hr.units (tpe_lst (tpl_cons (tpe_calls C_law_next_a (hr.mono (by decide)) (by rfl) (tpa_v 0 (tpa_f (tpe_int) (tpa_nil)))) (tpl_cons (tpe_calls C_law_next_a (hr.mono (by decide)) (by rfl) (tpa_v 0 (tpa_f (tpe_bin o_add (tpe_v 2) (tpe_int)) (tpa_nil)))) (tpl_cons (tpe_v 2) (tpl_nil))))) (tpe_calls C_law_next_a (hr.mono (by decide)) (by rfl) (tpa_v 0 (tpa_f (tpe_int) (tpa_nil)))) (fun _ _ => rfl)))
      (tpss_cons (tps_set (i := 5) nd rfl (Or.inl rfl) (tpe_lst (tpl_nil)))
      (tpss_cons (tps_set (i := 6) nd rfl (Or.inr rfl) (tpe_bin o_mul (tpe_ct1 c_int (by rfl) Z.b_int (by decide +kernel) (tpe_cmp (o_eq hr.units) (tpe_ix hr.units (tpe_v 1) (tpe_int) (fun _ _ => rfl)) (tpe_str) (nomark _))) (tpe_bin o_add (tpe_int) (tpe_calls C_law_next_a (hr.mono (by decide)) (by rfl) (tpa_v 0 (tpa_f (tpe_int) (tpa_nil)))))))
      (tpss_cons (tps_if (tpt_cmp (o_eq hr.units) (tpe_v 3) (tpe_int) (nomark _)) (tpss_one (tps_ret (tpe_lc (own := [("k", 8)]) rfl nd (tpi_rng1 (by rfl) Z.b_range (tpl_cons (tpe_v 4) (tpl_nil))) (blkOk_by (own := [("k", 8)]) (N := N_law_small_a) (sc := defScope s_law_small_a) (by decide +kernel)) (by decide) (fun _ _ _ _ _ => tpg_n (i := 8) nd rfl (by first | exact Or.inl rfl | exact Or.inr rfl)) (fun _ _ _ _ _ => tpts_nil) (fun _ _ _ _ _ => tpe_bin o_add (tpe_v 6) (tpe_bin o_mul (tpe_v 8) (tpe_bin o_add (tpe_int) (tpe_bin o_mod (tpe_v 4) (tpe_int)))))))) (tpss_nil))
      (tpss_cons (tps_if (tpt_cmp (o_eq hr.units) (tpe_v 3) (tpe_int) (nomark _)) (tpss_one (tps_ret (tpe_lc (own := [("k", 8)]) rfl nd (tpi_rng1 (by rfl) Z.b_range (tpl_cons (tpe_cn (c_min2 rfl) (by rfl) Z.b_min (by decide +kernel) (tpl_cons (tpe_v 4) (tpl_cons (tpe_int) (tpl_nil)))) (tpl_nil))) (blkOk_by (own := [("k", 8)]) (N := N_law_small_a) (sc := defScope s_law_small_a) (by decide +kernel)) (by decide) (fun _ _ _ _ _ => tpg_n (i := 8) nd rfl (by first | exact Or.inl rfl | exact Or.inr rfl)) (fun _ _ _ _ _ => tpts_nil) (fun _ _ _ _ _ => tpe_bin o_sub (tpe_bin o_shl (tpe_int) (tpe_v 8)) (tpe_ct1 c_int (by rfl) Z.b_int (by decide +kernel) (tpe_cmp (o_ne hr.units) (tpe_ix hr.units (tpe_v 1) (tpe_int) (fun _ _ => rfl)) (tpe_str) (nomark _))))))) (tpss_nil))
      (tpss_cons (tps_set (i := 7) nd rfl (Or.inl rfl) (tpe_ix hr.units (tpe_lst (tpl_cons (tpe_int) (tpl_cons (tpe_int) (tpl_nil)))) (tpe_ct1 c_int (by rfl) Z.b_int (by decide +kernel) (tpe_cmp (o_eq hr.units) (tpe_ix hr.units (tpe_v 1) (tpe_int) (fun _ _ => rfl)) (tpe_str) (nomark _))) (fun _ _ => rfl)))
      (tpss_cons (tps_while PassesOwn.never ((tpw_and (tpt_cmp o_lt (tpe_c1 c_len (by rfl) Z.b_len (by decide +kernel) (tpe_v 5)) (tpe_v 4) (nomark _)) (tpw_and1 (tpt_cmp o_lt (tpe_v 6) (tpe_int) (nomark _)))).pt) (tpss_cons (tps_if ((tpw_or (tpt_cmp o_lt (tpe_v 3) (tpe_int) (nomark _)) (tpw_or1 ((tpw_and (tpt_cmp o_gt (tpe_calls C_law_next_a (hr.mono (by decide)) (by rfl) (tpa_v 0 (tpa_f (tpe_int) (tpa_nil)))) (tpe_int) (nomark _)) (tpw_and1 ((tpw_or (tpt_cmp o_gt (tpe_v 4) (tpe_v 7) (nomark _)) (tpw_or1 (tpt_cmp (o_eq hr.units) (tpe_calls C_law_bars_a (hr.mono (by decide)) (by rfl) (tpa_f (tpe_v 1) (tpa_v 5 (tpa_f (tpe_v 6) (tpa_nil))))) (tpe_lst (tpl_nil)) (nomark _)))).pt))).pt))).pt) (tpss_one (tps_expr (tpe_mutL (i := 5) m_append PySem.F.slot_list_append PySem.F.type_list_append rfl (by first | exact Or.inl rfl | exact Or.inr (Or.inl rfl) | exact Or.inr (Or.inr rfl)) (tpl_cons (tpe_v 6) (tpl_nil))))) (tpss_nil))
      (tpss_one (tps_set (i := 6) nd rfl (Or.inr rfl) (tpe_bin o_add (tpe_bin o_add (tpe_v 6) (tpe_int)) (tpe_calls C_law_next_a (hr.mono (by decide)) (by rfl) (tpa_v 0 (tpa_f (tpe_ix hr.units (tpe_lst (tpl_cons (tpe_int) (tpl_cons (tpe_int) (tpl_cons (tpe_int) (tpl_cons (tpe_int) (tpl_cons (tpe_int) (tpl_cons (tpe_int) (tpl_nil)))))))) (tpe_v 3) (fun _ _ => rfl)) (tpa_nil)))))))))
      (tpss_one (tps_ret (tpe_v 5))))))))))
theorem fn_law_set_a (Fn : Fun K "_law_set" "_law_set" s_law_set_a f fd) (Z : Bi K mg) (C_law_next_a : TL.Cal P w K mg base CX0 cls "_law_next" ["pool", "base"] 1 sp_law_next_a) (C_law_small_a : TL.Cal P w K mg base CX0 cls "_law_small" ["pool", "rule", "most"] 2 sp_law_small_a) : FnOk P w K mg base CX0 3 f fd ["pool", "rule", "most"] (liftSp K cls sp_law_set_a) := by
  have nd := sc_law_set_a.nd
  refine def0 (N := N_law_set_a) (ps := ["pool", "rule", "most"]) (k := 2) (t := rd_law_set_a) Fn sc_law_set_a ln_law_set_a (fun cdv A outer s H E B hr => ?_) (fun as PR PX h => ok_law_set_a as PR PX h)
  have hu65 := Room.units65 hr
  exact tpss_cons (tps_set (i := 3) nd rfl (Or.inl rfl) (tpe_calls C_law_small_a (hr.mono (by decide)) (by rfl) (tpa_v 0 (tpa_f (tpe_v 1) (tpa_f (tpe_v 2) (tpa_nil))))))
      (tpss_cons (tps_set (i := 4) nd rfl (Or.inr rfl) (tpe_ix hr.units (tpe_lst (tpl_cons (tpe_int) (tpl_cons (tpe_int) (tpl_cons (tpe_bin o_add (tpe_int) (tpe_calls C_law_next_a (hr.mono (by decide)) (by rfl) (tpa_v 0 (tpa_f (tpe_int) (tpa_nil))))) (tpl_cons (tpe_bin o_pow (tpe_int) (tpe_int)) (tpl_cons (tpe_bin o_pow (tpe_int) (tpe_int)) (tpl_cons (tpe_bin o_pow (tpe_int) (tpe_int)) (tpl_nil)))))))) (tpe_calls C_law_next_a (hr.mono (by decide)) (by rfl) (tpa_v 0 (tpa_f (tpe_int) (tpa_nil)))) (fun _ _ => rfl)))
      (tpss_cons (tps_set (i := 5) nd rfl (Or.inr rfl) (tpe_bin o_mul (tpe_ix hr.units (tpe_lst (tpl_cons (tpe_int) (tpl_cons (tpe_int) (tpl_cons (tpe_int) (tpl_cons (tpe_bin o_add (tpe_bin o_pow (tpe_int) (tpe_int)) (tpe_int)) (tpl_cons (tpe_bin o_pow (tpe_int) (tpe_int)) (tpl_nil))))))) (tpe_calls C_law_next_a (hr.mono (by decide)) (by rfl) (tpa_v 0 (tpa_f (tpe_int) (tpa_nil)))) (fun _ _ => rfl)) (tpe_ct1 c_int (by rfl) Z.b_int (by decide +kernel) (tpe_cmp (o_ne hr.units) (tpe_ix hr.units (tpe_v 1) (tpe_int) (fun _ _ => rfl)) (tpe_str) (nomark _)))))
      (tpss_cons (tps_if (tpt_cmp (o_eq hr.units) (tpe_calls C_law_next_a (hr.mono (by decide)) (by rfl) (tpa_v 0 (tpa_f (tpe_int) (tpa_nil)))) (tpe_int) (nomark _)) (tpss_cons (tps_set (i := 6) nd rfl (Or.inl rfl) (tpe_bin o_fdiv (tpe_c1 c_len (by rfl) Z.b_len (by decide +kernel) (tpe_v 3)) (tpe_int)))
      (tpss_one (tps_ret (tpe_ct1 c_tuple (by rfl) Z.b_tuple (by decide +kernel) (tpe_bin o_add (tpe_sl (tpe_v 3) (tpo_n) (tpo_s (tpe_v 6))) (tpe_lc (own := [("number", 7)]) rfl nd (tpi_seq (tpx_f (tpe_sl (tpe_v 3) (tpo_s (tpe_v 6)) (tpo_n)))) (blkOk_by (own := [("number", 7)]) (N := N_law_set_a) (sc := defScope s_law_set_a) (by decide +kernel)) (by decide) (fun _ _ _ _ _ => tpg_n (i := 7) nd rfl (by first | exact Or.inl rfl | exact Or.inr rfl)) (fun _ _ _ _ _ => tpts_nil) (fun _ _ _ _ _ => tpe_bin o_add (tpe_v 7) (tpe_bin o_pow (tpe_int) (tpe_int))))))))) (tpss_nil))
      (tpss_one (tps_ret (tpe_ct1 c_tuple (by rfl) Z.b_tuple (by decide +kernel) (tpe_lc (own := [("number", 7)]) rfl nd (tpi_seq (tpx_l 3)) (blkOk_by (own := [("number", 7)]) (N := N_law_set_a) (sc := defScope s_law_set_a) (by decide +kernel)) (by decide) (fun _ _ _ _ _ => tpg_n (i := 7) nd rfl (by first | exact Or.inl rfl | exact Or.inr rfl)) (fun _ _ _ _ _ => tpts_nil) (fun _ _ _ _ _ => tpe_bin o_add (tpe_bin o_mul (tpe_v 7) (tpe_v 4)) (tpe_v 5)))))))))
theorem fn_law_barred_a (Fn : Fun K "_law_barred" "_law_barred" s_law_barred_a f fd) (Z : Bi K mg) : FnOk P w K mg base CX0 1 f fd ["rule", "some"] (liftSp K cls sp_law_barred_a) := by
  have nd := sc_law_barred_a.nd
  refine def0 (N := N_law_barred_a) (ps := ["rule", "some"]) (k := 0) (t := rd_law_barred_a) Fn sc_law_barred_a ln_law_barred_a (fun cdv A outer s H E B hr => ?_) (fun as PR PX h => ok_law_barred_a as PR PX h)
  have hu65 := Room.units65 hr
  exact tpss_cons (tps_set (i := 2) nd rfl (Or.inl rfl) (tpe_dict0))
      (tpss_cons (tps_for PassesOwn.never rfl (tpi_rng1 (by rfl) Z.b_range (tpl_cons (tpe_c1 c_len (by rfl) Z.b_len (by decide +kernel) (tpe_v 1)) (tpl_nil))) (tpg_n (i := 3) nd rfl (Or.inl rfl)) (tpss_cons (tps_set (i := 4) nd rfl (Or.inl rfl) (tpe_ix hr.units (tpe_v 1) (tpe_v 3) (fun _ _ => rfl)))
      (tpss_cons (tps_for PassesOwn.never rfl (tpi_seq (tpx_f (tpe_sl (tpe_v 1) (tpo_s (tpe_v 3)) (tpo_n)))) (tpg_n (i := 5) nd rfl (Or.inl rfl)) (tpss_cons (tps_if (tpt_cmp (o_eq hr.units) (tpe_ix hr.units (tpe_v 0) (tpe_int) (fun _ _ => rfl)) (tpe_str) (nomark _)) (tpss_one (tps_setIx (i := 2) hr.units rfl (by first | exact Or.inl rfl | exact Or.inr (Or.inl rfl) | exact Or.inr (Or.inr rfl)) (tpe_bl) (tpe_bin o_add (tpe_v 4) (tpe_v 5)))) (tpss_nil))
      (tpss_cons (tps_if ((tpw_and (tpt_cmp (o_eq hr.units) (tpe_ix hr.units (tpe_v 0) (tpe_int) (fun _ _ => rfl)) (tpe_str) (nomark _)) (tpw_and1 (tpt_cmp o_gt (tpe_v 5) (tpe_v 4) (nomark _)))).pt) (tpss_one (tps_setIx (i := 2) hr.units rfl (by first | exact Or.inl rfl | exact Or.inr (Or.inl rfl) | exact Or.inr (Or.inr rfl)) (tpe_bl) (tpe_bin o_sub (tpe_bin o_mul (tpe_int) (tpe_v 5)) (tpe_v 4)))) (tpss_nil))
      (tpss_one (tps_if ((tpw_and (tpt_cmp (o_eq hr.units) (tpe_ix hr.units (tpe_v 0) (tpe_int) (fun _ _ => rfl)) (tpe_str) (nomark _)) (tpw_and1 (tpt_cmp o_gt (tpe_v 5) (tpe_v 4) (nomark _)))).pt) (tpss_one (tps_for PassesOwn.never rfl (tpi_seq (tpx_f (tpe_sl (tpe_v 1) (tpo_s (tpe_bin o_add (tpe_v 3) (tpe_int))) (tpo_n)))) (tpg_n (i := 8) nd rfl (Or.inl rfl)) (tpss_one (tps_setIx (i := 2) hr.units rfl (by first | exact Or.inl rfl | exact Or.inr (Or.inl rfl) | exact Or.inr (Or.inr rfl)) (tpe_bl) (tpe_bin o_sub (tpe_bin o_add (tpe_v 5) (tpe_v 8)) (tpe_v 4)))))) (tpss_nil))))))
      (tpss_one (tps_if (tpt_cmp (o_eq hr.units) (tpe_ix hr.units (tpe_v 0) (tpe_int) (fun _ _ => rfl)) (tpe_str) (nomark _)) (tpss_one (tps_for PassesOwn.never rfl (tpi_seq (tpx_f (tpe_ix hr.units (tpe_v 0) (tpe_int) (fun _ _ => rfl)))) (tpg_n (i := 6) nd rfl (Or.inl rfl)) (tpss_one (tps_setIx (i := 2) hr.units rfl (by first | exact Or.inl rfl | exact Or.inr (Or.inl rfl) | exact Or.inr (Or.inr rfl)) (tpe_bl) (tpe_bin o_add (tpe_v 4) (tpe_v 6)))))) (tpss_nil))))))
      (tpss_one (tps_ret (tpe_lcD (i := 2) (own := [("number", 7)]) rfl nd rfl (by first | exact Or.inl rfl | exact Or.inr (Or.inl rfl) | exact Or.inr (Or.inr rfl)) (blkOk_by (own := [("number", 7)]) (N := N_law_barred_a) (sc := defScope s_law_barred_a) (by decide +kernel)) (by decide) (fun _ _ _ _ _ _ => tpg_n (i := 7) nd rfl (by first | exact Or.inl rfl | exact Or.inr rfl)) (fun _ _ _ _ _ _ => tpts_one (tpt_cmp o_gt (tpe_v 7) (tpe_ix hr.units (tpe_v 1) (tpe_neg (tpe_int)) (fun _ _ => rfl)) (nomark _))) (fun _ _ _ _ _ _ => tpe_v 7)))))
theorem fn_law_triples_a (Fn : Fun K "_law_triples" "_law_triples" s_law_triples_a f fd) (Z : Bi K mg) : FnOk P w K mg base CX0 1 f fd ["many"] (liftSp K cls sp_law_triples_a) := by
  have nd := sc_law_triples_a.nd
  refine def0 (N := N_law_triples_a) (ps := ["many"]) (k := 0) (t := rd_law_triples_a) Fn sc_law_triples_a ln_law_triples_a (fun cdv A outer s H E B hr => ?_) (fun as PR PX h => ok_law_triples_a as PR PX h)
  have hu65 := Room.units65 hr
  exact tpss_cons (tps_set (i := 1) nd rfl (Or.inl rfl) (tpe_int))
      (tpss_cons (tps_for PassesOwn.never rfl (tpi_rng1 (by rfl) Z.b_range (tpl_cons (tpe_v 0) (tpl_nil))) (tpg_n (i := 2) nd rfl (Or.inl rfl)) (tpss_one (tps_set (i := 1) nd rfl (Or.inl rfl) (tpe_bin o_add (tpe_v 1) (tpe_bin o_mul (tpe_v 2) (tpe_bin o_sub (tpe_v 0) (tpe_v 2)))))))
      (tpss_one (tps_ret (tpe_v 1))))
theorem fn_law_due_d (Fn : Fun K "_law_due" "_law_due" s_law_due_d f fd) (Z : Bi K mg) (C_law_triples_a : TL.Cal P w K mg base CX0 cls "_law_triples" ["many"] 1 sp_law_triples_a) : FnOk P w K mg base CX0 2 f fd ["rule", "many"] (liftSp K cls sp_law_due_d) := by
  have nd := sc_law_due_d.nd
  refine def0 (N := N_law_due_d) (ps := ["rule", "many"]) (k := 1) (t := rd_law_due_d) Fn sc_law_due_d ln_law_due_d (fun cdv A outer s H E B hr => ?_) (fun as PR PX h => ok_law_due_d as PR PX h)
  have hu65 := Room.units65 hr
  exact tpss_cons (tps_if (tpt_cmp (o_eq hr.units) (tpe_ix hr.units (tpe_v 0) (tpe_int) (fun _ _ => rfl)) (tpe_str) (nomark _)) (tpss_one (tps_ret (tpe_sumRg1 rfl (by rfl) Z.b_sum (by rfl) Z.b_range (tpe_v 1)))) (tpss_nil))
      (tpss_cons (tps_if (tpt_cmp (o_eq hr.units) (tpe_ix hr.units (tpe_v 0) (tpe_int) (fun _ _ => rfl)) (tpe_str) (nomark _)) (tpss_one (tps_ret (tpe_sumRg1 rfl (by rfl) Z.b_sum (by rfl) Z.b_range (tpe_bin o_add (tpe_v 1) (tpe_int))))) (tpss_nil))
      (tpss_cons (tps_if (tpt_cmp (o_eq hr.units) (tpe_ix hr.units (tpe_v 0) (tpe_int) (fun _ _ => rfl)) (tpe_str) (nomark _)) (tpss_one (tps_ret (tpe_calls C_law_triples_a (hr.mono (by decide)) (by rfl) (tpa_f (tpe_v 1) (tpa_nil))))) (tpss_nil))
      (tpss_one (tps_ret (tpe_c1 (c_sum rfl) (by rfl) Z.b_sum (by decide +kernel) (tpe_lc (own := [("step", 2)]) rfl nd (tpi_seq (tpx_f (tpe_ix hr.units (tpe_v 0) (tpe_int) (fun _ _ => rfl)))) (blkOk_by (own := [("step", 2)]) (N := N_law_due_d) (sc := defScope s_law_due_d) (by decide +kernel)) (by decide) (fun _ _ _ _ _ => tpg_n (i := 2) nd rfl (by first | exact Or.inl rfl | exact Or.inr rfl)) (fun _ _ _ _ _ => tpts_nil) (fun _ _ _ _ _ => tpe_v 1)))))))
theorem fn_law_grown_a (Fn : Fun K "_law_grown" "_law_grown" s_law_grown_a f fd) (Z : Bi K mg) : FnOk P w K mg base CX0 1 f fd ["rule", "many"] (liftSp K cls sp_law_grown_a) := by
  have nd := sc_law_grown_a.nd
  refine def0 (N := N_law_grown_a) (ps := ["rule", "many"]) (k := 0) (t := rd_law_grown_a) Fn sc_law_grown_a ln_law_grown_a (fun cdv A outer s H E B hr => ?_) (fun as PR PX h => ok_law_grown_a as PR PX h)
  have hu65 := Room.units65 hr
  exact tpss_cons (tps_if (tpt_cmp (o_eq hr.units) (tpe_ix hr.units (tpe_v 0) (tpe_int) (fun _ _ => rfl)) (tpe_str) (nomark _)) (tpss_one (tps_ret (tpe_bin o_sub (tpe_v 1) (tpe_int)))) (tpss_nil))
      (tpss_cons (tps_if (tpt_cmp (o_eq hr.units) (tpe_ix hr.units (tpe_v 0) (tpe_int) (fun _ _ => rfl)) (tpe_str) (nomark _)) (tpss_one (tps_ret (tpe_v 1))) (tpss_nil))
      (tpss_cons (tps_if (tpt_cmp (o_eq hr.units) (tpe_ix hr.units (tpe_v 0) (tpe_int) (fun _ _ => rfl)) (tpe_str) (nomark _)) (tpss_one (tps_ret (tpe_bin o_fdiv (tpe_bin o_mul (tpe_bin o_sub (tpe_v 1) (tpe_int)) (tpe_v 1)) (tpe_int)))) (tpss_nil))
      (tpss_one (tps_ret (tpe_c1 c_len (by rfl) Z.b_len (by decide +kernel) (tpe_ix hr.units (tpe_v 0) (tpe_int) (fun _ _ => rfl)))))))
theorem fn_even_bars_a (Fn : Fun K "even_bars" "even_bars" s_even_bars_a f fd) (Z : Bi K mg) : FnOk P w K mg base CX0 1 f fd ["some", "number"] (liftSp K cls sp_even_bars_a) := by
  have nd := sc_even_bars_a.nd
  refine def0 (N := N_even_bars_a) (ps := ["some", "number"]) (k := 0) (t := rd_even_bars_a) Fn sc_even_bars_a ln_even_bars_a (fun cdv A outer s H E B hr => ?_) (fun as PR PX h => ok_even_bars_a as PR PX h)
  have hu65 := Room.units65 hr
  exact tpss_cons (tps_set (i := 2) nd rfl (Or.inl rfl) (tpe_lst (tpl_nil)))
      (tpss_cons (tps_for PassesOwn.never rfl (tpi_seq (tpx_l 0)) (tpg_n (i := 3) nd rfl (Or.inl rfl)) (tpss_one (tps_if ((tpw_and (tpt_cmp (o_in hu65) (tpe_bin o_sub (tpe_bin o_mul (tpe_int) (tpe_v 3)) (tpe_v 1)) (tpe_v 0) (by rfl)) (tpw_and1 (tpt_cmp o_lt (tpe_bin o_sub (tpe_bin o_mul (tpe_int) (tpe_v 3)) (tpe_v 1)) (tpe_v 3) (nomark _)))).pt) (tpss_one (tps_expr (tpe_mutL (i := 2) m_append PySem.F.slot_list_append PySem.F.type_list_append rfl (by first | exact Or.inl rfl | exact Or.inr (Or.inl rfl) | exact Or.inr (Or.inr rfl)) (tpl_cons (tpe_tup (tpl_cons (tpe_bin o_sub (tpe_bin o_mul (tpe_int) (tpe_v 3)) (tpe_v 1)) (tpl_cons (tpe_v 3) (tpl_nil)))) (tpl_nil))))) (tpss_nil))))
      (tpss_one (tps_ret (tpe_v 2))))
theorem fn_sum_bars_a (Fn : Fun K "sum_bars" "sum_bars" s_sum_bars_a f fd) (Z : Bi K mg) : FnOk P w K mg base CX0 1 f fd ["some", "number"] (liftSp K cls sp_sum_bars_a) := by
  have nd := sc_sum_bars_a.nd
  refine def0 (N := N_sum_bars_a) (ps := ["some", "number"]) (k := 0) (t := rd_sum_bars_a) Fn sc_sum_bars_a ln_sum_bars_a (fun cdv A outer s H E B hr => ?_) (fun as PR PX h => ok_sum_bars_a as PR PX h)
  have hu65 := Room.units65 hr
  exact tpss_one (tps_ret (tpe_lc (own := [("x", 2)]) rfl nd (tpi_seq (tpx_l 0)) (blkOk_by (own := [("x", 2)]) (N := N_sum_bars_a) (sc := defScope s_sum_bars_a) (by decide +kernel)) (by decide) (fun _ _ _ _ _ => tpg_n (i := 2) nd rfl (by first | exact Or.inl rfl | exact Or.inr rfl)) (fun _ _ _ _ _ => tpts_one ((tpw_and (tpt_cmp o_le (tpe_v 2) (tpe_bin o_sub (tpe_v 1) (tpe_v 2)) (nomark _)) (tpw_and1 (tpt_cmp (o_in hu65) (tpe_bin o_sub (tpe_v 1) (tpe_v 2)) (tpe_v 0) (by rfl)))).pt)) (fun _ _ _ _ _ => tpe_tup (tpl_cons (tpe_v 2) (tpl_cons (tpe_bin o_sub (tpe_v 1) (tpe_v 2)) (tpl_nil))))))
theorem fn_pair_bars_a (Fn : Fun K "pair_bars" "pair_bars" s_pair_bars_a f fd) (Z : Bi K mg) : FnOk P w K mg base CX0 1 f fd ["some", "number"] (liftSp K cls sp_pair_bars_a) := by
  have nd := sc_pair_bars_a.nd
  refine def0 (N := N_pair_bars_a) (ps := ["some", "number"]) (k := 0) (t := rd_pair_bars_a) Fn sc_pair_bars_a ln_pair_bars_a (fun cdv A outer s H E B hr => ?_) (fun as PR PX h => ok_pair_bars_a as PR PX h)
  have hu65 := Room.units65 hr
  exact tpss_cons (tps_set (i := 2) nd rfl (Or.inl rfl) (tpe_lst (tpl_nil)))
      (tpss_cons (tps_for PassesOwn.never rfl (tpi_enum (by rfl) Z.b_enumerate (tpx_l 0)) (tpg_tup rfl (tpgs_cons (tpg_n (i := 3) nd rfl (Or.inl rfl)) (tpgs_cons (tpg_n (i := 4) nd rfl (Or.inl rfl)) (tpgs_nil)))) (tpss_one (tps_for PassesOwn.never rfl (tpi_seq (tpx_f (tpe_sl (tpe_v 0) (tpo_n) (tpo_s (tpe_v 3))))) (tpg_n (i := 5) nd rfl (Or.inl rfl)) (tpss_one (tps_if ((tpw_and (tpt_cmp o_ge (tpe_bin o_sub (tpe_bin o_add (tpe_v 1) (tpe_v 5)) (tpe_v 4)) (tpe_v 4) (nomark _)) (tpw_and1 (tpt_cmp (o_in hu65) (tpe_bin o_sub (tpe_bin o_add (tpe_v 1) (tpe_v 5)) (tpe_v 4)) (tpe_v 0) (by rfl)))).pt) (tpss_one (tps_expr (tpe_mutL (i := 2) m_append PySem.F.slot_list_append PySem.F.type_list_append rfl (by first | exact Or.inl rfl | exact Or.inr (Or.inl rfl) | exact Or.inr (Or.inr rfl)) (tpl_cons (tpe_tup (tpl_cons (tpe_v 5) (tpl_cons (tpe_v 4) (tpl_cons (tpe_bin o_sub (tpe_bin o_add (tpe_v 1) (tpe_v 5)) (tpe_v 4)) (tpl_nil))))) (tpl_nil))))) (tpss_nil))))))
      (tpss_one (tps_ret (tpe_v 2))))
theorem fn_all_bars_a (Fn : Fun K "all_bars" "all_bars" s_all_bars_a f fd) (Z : Bi K mg) (C_even_bars_a : TL.Cal P w K mg base CX0 cls "even_bars" ["some", "number"] 1 sp_even_bars_a) (C_pair_bars_a : TL.Cal P w K mg base CX0 cls "pair_bars" ["some", "number"] 1 sp_pair_bars_a) (C_sum_bars_a : TL.Cal P w K mg base CX0 cls "sum_bars" ["some", "number"] 1 sp_sum_bars_a) : FnOk P w K mg base CX0 2 f fd ["rule", "some", "number"] (liftSp K cls sp_all_bars_a) := by
  have nd := sc_all_bars_a.nd
  refine def0 (N := N_all_bars_a) (ps := ["rule", "some", "number"]) (k := 1) (t := rd_all_bars_a) Fn sc_all_bars_a ln_all_bars_a (fun cdv A outer s H E B hr => ?_) (fun as PR PX h => ok_all_bars_a as PR PX h)
  have hu65 := Room.units65 hr
  exact tpss_cons (tps_if (tpt_cmp (o_eq hr.units) (tpe_ix hr.units (tpe_v 0) (tpe_int) (fun _ _ => rfl)) (tpe_str) (nomark _)) (tpss_one (tps_ret (tpe_c1 (c_sortedR hr.units) (by rfl) Z.b_sorted (by decide +kernel) (tpe_calls C_even_bars_a (hr.mono (by decide)) (by rfl) (tpa_f (tpe_v 1) (tpa_f (tpe_v 2) (tpa_nil))))))) (tpss_nil))
      (tpss_cons (tps_if (tpt_cmp (o_eq hr.units) (tpe_ix hr.units (tpe_v 0) (tpe_int) (fun _ _ => rfl)) (tpe_str) (nomark _)) (tpss_one (tps_ret (tpe_c1 (c_sortedR hr.units) (by rfl) Z.b_sorted (by decide +kernel) (tpe_calls C_sum_bars_a (hr.mono (by decide)) (by rfl) (tpa_f (tpe_v 1) (tpa_f (tpe_v 2) (tpa_nil))))))) (tpss_nil))
      (tpss_cons (tps_if (tpt_cmp (o_eq hr.units) (tpe_ix hr.units (tpe_v 0) (tpe_int) (fun _ _ => rfl)) (tpe_str) (nomark _)) (tpss_one (tps_ret (tpe_c1 (c_sortedR hr.units) (by rfl) Z.b_sorted (by decide +kernel) (tpe_calls C_pair_bars_a (hr.mono (by decide)) (by rfl) (tpa_f (tpe_v 1) (tpa_f (tpe_v 2) (tpa_nil))))))) (tpss_nil))
      (tpss_one (tps_ret (tpe_c1 (c_sortedR hr.units) (by rfl) Z.b_sorted (by decide +kernel) (tpe_lc (own := [("step", 3)]) rfl nd (tpi_seq (tpx_f (tpe_ix hr.units (tpe_v 0) (tpe_int) (fun _ _ => rfl)))) (blkOk_by (own := [("step", 3)]) (N := N_all_bars_a) (sc := defScope s_all_bars_a) (by decide +kernel)) (by decide) (fun _ _ _ _ _ => tpg_n (i := 3) nd rfl (by first | exact Or.inl rfl | exact Or.inr rfl)) (fun _ _ _ _ _ => tpts_one (tpt_cmp (o_in hu65) (tpe_bin o_sub (tpe_v 2) (tpe_v 3)) (tpe_v 1) (by rfl))) (fun _ _ _ _ _ => tpe_tup (tpl_cons (tpe_bin o_sub (tpe_v 2) (tpe_v 3)) (tpl_nil)))))))))
theorem fn_bar_a (Fn : Fun K "bar" "bar" s_bar_a f fd) (Z : Bi K mg) (C_all_bars_a : TL.Cal P w K mg base CX0 cls "all_bars" ["rule", "some", "number"] 2 sp_all_bars_a) : FnOk P w K mg base CX0 3 f fd ["rule", "some", "number"] (liftSp K cls sp_bar_a) := by
  have nd := sc_bar_a.nd
  refine def0 (N := N_bar_a) (ps := ["rule", "some", "number"]) (k := 2) (t := rd_bar_a) Fn sc_bar_a ln_bar_a (fun cdv A outer s H E B hr => ?_) (fun as PR PX h => ok_bar_a as PR PX h)
  have hu65 := Room.units65 hr
  exact tpss_cons (tps_set (i := 3) nd rfl (Or.inl rfl) (tpe_calls C_all_bars_a (hr.mono (by decide)) (by rfl) (tpa_f (tpe_v 0) (tpa_f (tpe_v 1) (tpa_f (tpe_v 2) (tpa_nil))))))
      (tpss_cons (tps_if (tpt_cmp (o_eq hr.units) (tpe_v 3) (tpe_lst (tpl_nil)) (nomark _)) (tpss_one (tps_ret (tpe_non))) (tpss_nil))
      (tpss_one (tps_ret (tpe_ix hr.units (tpe_v 3) (tpe_int) (fun _ _ => rfl)))))
theorem fn_law_k09 (Fn : Fun K "law" "law" s_law_k09 f fd) (Z : Bi K mg) (C_law_barred_a : TL.Cal P w K mg base CX0 cls "_law_barred" ["rule", "some"] 1 sp_law_barred_a) (C_law_cells_a : TL.Cal P w K mg base CX0 cls "_law_cells" ["script", "least", "most"] 1 sp_law_cells_a) (C_law_dig_a : TL.Cal P w K mg base CX0 cls "_law_dig" ["cell"] 1 sp_law_dig_a) (C_law_due_d : TL.Cal P w K mg base CX0 cls "_law_due" ["rule", "many"] 2 sp_law_due_d) (C_law_grown_a : TL.Cal P w K mg base CX0 cls "_law_grown" ["rule", "many"] 1 sp_law_grown_a) (C_law_next_a : TL.Cal P w K mg base CX0 cls "_law_next" ["pool", "base"] 1 sp_law_next_a) (C_law_rule_a : TL.Cal P w K mg base CX0 cls "_law_rule" ["pool"] 2 sp_law_rule_a) (C_law_set_a : TL.Cal P w K mg base CX0 cls "_law_set" ["pool", "rule", "most"] 3 sp_law_set_a) (C_bar_a : TL.Cal P w K mg base CX0 cls "bar" ["rule", "some", "number"] 3 sp_bar_a) (C_barred_most_a : TL.Cal P w K mg base CX0 cls "barred_most" ["rule", "many"] 1 sp_barred_most_a) : FnOk P w K mg base CX0 4 f fd ["script"] (liftSp K cls sp_law_k09) := by
  have nd := sc_law_k09.nd
  refine def0 (N := N_law_k09) (ps := ["script"]) (k := 3) (t := rd_law_k09) Fn sc_law_k09 ln_law_k09 (fun cdv A outer s H E B hr => ?_) (fun as PR PX h => ok_law_k09 as PR PX h)
  have hu65 := Room.units65 hr
  exact tpss_cons (tps_for PassesOwn.never rfl (tpi_seq (tpx_f (tpe_calls C_law_cells_a (hr.mono (by decide)) (by rfl) (tpa_f (tpe_v 0) (tpa_f (tpe_int) (tpa_f (tpe_int) (tpa_nil))))))) (tpg_n (i := 1) nd rfl (Or.inl rfl)) (tpss_cons (tps_set (i := 2) nd rfl (Or.inl rfl) (tpe_calls C_law_dig_a (hr.mono (by decide)) (by rfl) (tpa_f (tpe_v 1) (tpa_nil))))
      (tpss_cons (tps_set (i := 3) nd rfl (Or.inl rfl) (tpe_calls C_law_rule_a (hr.mono (by decide)) (by rfl) (tpa_v 2 (tpa_nil))))
      (tpss_cons (tps_set (i := 4) nd rfl (Or.inl rfl) (tpe_calls C_law_next_a (hr.mono (by decide)) (by rfl) (tpa_v 2 (tpa_f (tpe_ix hr.units (tpe_lst (tpl_cons (tpe_int) (tpl_cons (tpe_int) (tpl_nil)))) (tpe_calls C_law_next_a (hr.mono (by decide)) (by rfl) (tpa_v 2 (tpa_f (tpe_int) (tpa_nil)))) (fun _ _ => rfl)) (tpa_nil)))))
      (tpss_cons (tps_set (i := 5) nd rfl (Or.inl rfl) (tpe_ix hr.units (tpe_lst (tpl_cons (tpe_bin o_pow (tpe_int) (tpe_int)) (tpl_cons (tpe_bin o_sub (tpe_bin o_pow (tpe_int) (tpe_int)) (tpe_calls C_law_next_a (hr.mono (by decide)) (by rfl) (tpa_v 2 (tpa_f (tpe_bin o_pow (tpe_int) (tpe_int)) (tpa_nil))))) (tpl_cons (tpe_calls C_law_next_a (hr.mono (by decide)) (by rfl) (tpa_v 2 (tpa_f (tpe_int) (tpa_nil)))) (tpl_nil))))) (tpe_calls C_law_next_a (hr.mono (by decide)) (by rfl) (tpa_v 2 (tpa_f (tpe_int) (tpa_nil)))) (fun _ _ => rfl)))
      (tpss_cons (tps_set (i := 6) nd rfl (Or.inl rfl) (tpe_calls C_barred_most_a (hr.mono (by decide)) (by rfl) (tpa_f (tpe_v 3) (tpa_f (tpe_v 4) (tpa_nil)))))
      (tpss_cons (tps_if ((tpw_or (tpt_val (tpe_isi (by rfl) Z.b_isinstance (by rfl) Z.b_bool (by decide +kernel) (tpe_v 6))) (tpw_or1 (tpt_cmp (o_ne hr.units) (tpe_v 6) (tpe_calls C_law_due_d (hr.mono (by decide)) (by rfl) (tpa_f (tpe_v 3) (tpa_f (tpe_v 4) (tpa_nil)))) (nomark _)))).pt) (tpss_one (tps_ret (tpe_bl))) (tpss_nil))
      (tpss_cons (tps_if (tpt_cmp o_gt (tpe_v 5) (tpe_int) (nomark _)) (tpss_cons (tps_set (i := 8) nd rfl (Or.inl rfl) (tpe_calls C_barred_most_a (hr.mono (by decide)) (by rfl) (tpa_f (tpe_v 3) (tpa_f (tpe_bin o_sub (tpe_v 5) (tpe_int)) (tpa_nil)))))
      (tpss_one (tps_if (tpt_cmp (o_ne hr.units) (tpe_bin o_sub (tpe_calls C_barred_most_a (hr.mono (by decide)) (by rfl) (tpa_f (tpe_v 3) (tpa_f (tpe_v 5) (tpa_nil)))) (tpe_v 8)) (tpe_calls C_law_grown_a (hr.mono (by decide)) (by rfl) (tpa_f (tpe_v 3) (tpa_f (tpe_v 5) (tpa_nil)))) (nomark _)) (tpss_one (tps_ret (tpe_bl))) (tpss_nil)))) (tpss_nil))
      (tpss_cons (tps_set (i := 7) nd rfl (Or.inl rfl) (tpe_calls C_law_set_a (hr.mono (by decide)) (by rfl) (tpa_v 2 (tpa_f (tpe_v 3) (tpa_f (tpe_ix hr.units (tpe_lst (tpl_cons (tpe_int) (tpl_cons (tpe_int) (tpl_nil)))) (tpe_ct1 c_int (by rfl) Z.b_int (by decide +kernel) (tpe_cmp (o_eq hr.units) (tpe_ix hr.units (tpe_v 3) (tpe_int) (fun _ _ => rfl)) (tpe_str) (nomark _))) (fun _ _ => rfl)) (tpa_nil))))))
      (tpss_one (tps_if (tpt_cmp (o_ne hr.units) (tpe_v 7) (tpe_tup (tpl_nil)) (nomark _)) (tpss_cons (tps_set (i := 9) nd rfl (Or.inl rfl) (tpe_calls C_law_barred_a (hr.mono (by decide)) (by rfl) (tpa_f (tpe_v 3) (tpa_f (tpe_v 7) (tpa_nil)))))
      (tpss_cons (tps_if (tpt_cmp o_gt (tpe_c1 c_len (by rfl) Z.b_len (by decide +kernel) (tpe_v 9)) (tpe_calls C_barred_most_a (hr.mono (by decide)) (by rfl) (tpa_f (tpe_v 3) (tpa_f (tpe_c1 c_len (by rfl) Z.b_len (by decide +kernel) (tpe_v 7)) (tpa_nil)))) (nomark _)) (tpss_one (tps_ret (tpe_bl))) (tpss_nil))
      (tpss_one (tps_for PassesOwn.never rfl (tpi_seq (tpx_f (tpe_sl (tpe_v 9) (tpo_n) (tpo_s (tpe_int))))) (tpg_n (i := 10) nd rfl (Or.inl rfl)) (tpss_one (tps_if (tpt_cmp o_is (tpe_calls C_bar_a (hr.mono (by decide)) (by rfl) (tpa_f (tpe_v 3) (tpa_f (tpe_v 7) (tpa_f (tpe_v 10) (tpa_nil))))) (tpe_non) (nomark _)) (tpss_one (tps_ret (tpe_bl))) (tpss_nil))))))) (tpss_nil))))))))))))
      (tpss_one (tps_ret (tpe_and (tpe_cmp (o_eq hr.units) (tpe_calls C_barred_most_a (hr.mono (by decide)) (by rfl) (tpa_f (tpe_tup (tpl_cons (tpe_str) (tpl_nil))) (tpa_f (tpe_int) (tpa_nil)))) (tpe_int) (nomark _)) (tpe_one (tpe_cmp (o_eq hr.units) (tpe_calls C_barred_most_a (hr.mono (by decide)) (by rfl) (tpa_f (tpe_tup (tpl_cons (tpe_str) (tpl_nil))) (tpa_f (tpe_int) (tpa_nil)))) (tpe_int) (nomark _))))))
end
theorem all_mk {l : PySem.W.OpenLaw} {w : World} {K : PySem.W.Frag} {h : Heap} {mg : Str → Option Value} {fa : Addr} (X : K.In h) (G : h.Ns mainGlobals mg) (hfa : mg "law" = some (.ref fa))
    {f0 : Addr} {od0 an0 : Option Addr} {sl0 : Array (Option Value)} {oc0 kV0 dc0 pm0 cd0 ct0 : Value}
    (a0 : PySem.W.nsIn K mainGlobals "_law_cells" = some (some (.ref f0))) (l0 : K.lookup f0 = some ⟨oc0, od0, .func (PySem.W.fnOf "_law_cells" "_law_cells" (defArgs s_law_cells_a) (defBody s_law_cells_a) (defScope s_law_cells_a) .none kV0 dc0 pm0 an0 cd0 ct0), sl0⟩) (c0 : PySem.W.codeIn K cd0 "_law_cells" = true) (k0 : PySem.W.keepIn K (.ref f0) = true)
    {f1 : Addr} {od1 an1 : Option Addr} {sl1 : Array (Option Value)} {oc1 kV1 dc1 pm1 cd1 ct1 : Value}
    (a1 : PySem.W.nsIn K mainGlobals "_law_dig" = some (some (.ref f1))) (l1 : K.lookup f1 = some ⟨oc1, od1, .func (PySem.W.fnOf "_law_dig" "_law_dig" (defArgs s_law_dig_a) (defBody s_law_dig_a) (defScope s_law_dig_a) .none kV1 dc1 pm1 an1 cd1 ct1), sl1⟩) (c1 : PySem.W.codeIn K cd1 "_law_dig" = true) (k1 : PySem.W.keepIn K (.ref f1) = true)
    {f2 : Addr} {od2 an2 : Option Addr} {sl2 : Array (Option Value)} {oc2 kV2 dc2 pm2 cd2 ct2 : Value}
    (a2 : PySem.W.nsIn K mainGlobals "_law_next" = some (some (.ref f2))) (l2 : K.lookup f2 = some ⟨oc2, od2, .func (PySem.W.fnOf "_law_next" "_law_next" (defArgs s_law_next_a) (defBody s_law_next_a) (defScope s_law_next_a) .none kV2 dc2 pm2 an2 cd2 ct2), sl2⟩) (c2 : PySem.W.codeIn K cd2 "_law_next" = true) (k2 : PySem.W.keepIn K (.ref f2) = true)
    {f3 : Addr} {od3 an3 : Option Addr} {sl3 : Array (Option Value)} {oc3 kV3 dc3 pm3 cd3 ct3 : Value}
    (a3 : PySem.W.nsIn K mainGlobals "_law_rule" = some (some (.ref f3))) (l3 : K.lookup f3 = some ⟨oc3, od3, .func (PySem.W.fnOf "_law_rule" "_law_rule" (defArgs s_law_rule_a) (defBody s_law_rule_a) (defScope s_law_rule_a) .none kV3 dc3 pm3 an3 cd3 ct3), sl3⟩) (c3 : PySem.W.codeIn K cd3 "_law_rule" = true) (k3 : PySem.W.keepIn K (.ref f3) = true)
    {f4 : Addr} {od4 an4 : Option Addr} {sl4 : Array (Option Value)} {oc4 kV4 dc4 pm4 cd4 ct4 : Value}
    (a4 : PySem.W.nsIn K mainGlobals "barred_most" = some (some (.ref f4))) (l4 : K.lookup f4 = some ⟨oc4, od4, .func (PySem.W.fnOf "barred_most" "barred_most" (defArgs s_barred_most_a) (defBody s_barred_most_a) (defScope s_barred_most_a) .none kV4 dc4 pm4 an4 cd4 ct4), sl4⟩) (c4 : PySem.W.codeIn K cd4 "barred_most" = true) (k4 : PySem.W.keepIn K (.ref f4) = true)
    {f5 : Addr} {od5 an5 : Option Addr} {sl5 : Array (Option Value)} {oc5 kV5 dc5 pm5 cd5 ct5 : Value}
    (a5 : PySem.W.nsIn K mainGlobals "_law_bars" = some (some (.ref f5))) (l5 : K.lookup f5 = some ⟨oc5, od5, .func (PySem.W.fnOf "_law_bars" "_law_bars" (defArgs s_law_bars_a) (defBody s_law_bars_a) (defScope s_law_bars_a) .none kV5 dc5 pm5 an5 cd5 ct5), sl5⟩) (c5 : PySem.W.codeIn K cd5 "_law_bars" = true) (k5 : PySem.W.keepIn K (.ref f5) = true)
    {f6 : Addr} {od6 an6 : Option Addr} {sl6 : Array (Option Value)} {oc6 kV6 dc6 pm6 cd6 ct6 : Value}
    (a6 : PySem.W.nsIn K mainGlobals "_law_small" = some (some (.ref f6))) (l6 : K.lookup f6 = some ⟨oc6, od6, .func (PySem.W.fnOf "_law_small" "_law_small" (defArgs s_law_small_a) (defBody s_law_small_a) (defScope s_law_small_a) .none kV6 dc6 pm6 an6 cd6 ct6), sl6⟩) (c6 : PySem.W.codeIn K cd6 "_law_small" = true) (k6 : PySem.W.keepIn K (.ref f6) = true)
    {f7 : Addr} {od7 an7 : Option Addr} {sl7 : Array (Option Value)} {oc7 kV7 dc7 pm7 cd7 ct7 : Value}
    (a7 : PySem.W.nsIn K mainGlobals "_law_set" = some (some (.ref f7))) (l7 : K.lookup f7 = some ⟨oc7, od7, .func (PySem.W.fnOf "_law_set" "_law_set" (defArgs s_law_set_a) (defBody s_law_set_a) (defScope s_law_set_a) .none kV7 dc7 pm7 an7 cd7 ct7), sl7⟩) (c7 : PySem.W.codeIn K cd7 "_law_set" = true) (k7 : PySem.W.keepIn K (.ref f7) = true)
    {f8 : Addr} {od8 an8 : Option Addr} {sl8 : Array (Option Value)} {oc8 kV8 dc8 pm8 cd8 ct8 : Value}
    (a8 : PySem.W.nsIn K mainGlobals "_law_barred" = some (some (.ref f8))) (l8 : K.lookup f8 = some ⟨oc8, od8, .func (PySem.W.fnOf "_law_barred" "_law_barred" (defArgs s_law_barred_a) (defBody s_law_barred_a) (defScope s_law_barred_a) .none kV8 dc8 pm8 an8 cd8 ct8), sl8⟩) (c8 : PySem.W.codeIn K cd8 "_law_barred" = true) (k8 : PySem.W.keepIn K (.ref f8) = true)
    {f9 : Addr} {od9 an9 : Option Addr} {sl9 : Array (Option Value)} {oc9 kV9 dc9 pm9 cd9 ct9 : Value}
    (a9 : PySem.W.nsIn K mainGlobals "_law_triples" = some (some (.ref f9))) (l9 : K.lookup f9 = some ⟨oc9, od9, .func (PySem.W.fnOf "_law_triples" "_law_triples" (defArgs s_law_triples_a) (defBody s_law_triples_a) (defScope s_law_triples_a) .none kV9 dc9 pm9 an9 cd9 ct9), sl9⟩) (c9 : PySem.W.codeIn K cd9 "_law_triples" = true) (k9 : PySem.W.keepIn K (.ref f9) = true)
    {f10 : Addr} {od10 an10 : Option Addr} {sl10 : Array (Option Value)} {oc10 kV10 dc10 pm10 cd10 ct10 : Value}
    (a10 : PySem.W.nsIn K mainGlobals "_law_due" = some (some (.ref f10))) (l10 : K.lookup f10 = some ⟨oc10, od10, .func (PySem.W.fnOf "_law_due" "_law_due" (defArgs s_law_due_d) (defBody s_law_due_d) (defScope s_law_due_d) .none kV10 dc10 pm10 an10 cd10 ct10), sl10⟩) (c10 : PySem.W.codeIn K cd10 "_law_due" = true) (k10 : PySem.W.keepIn K (.ref f10) = true)
    {f11 : Addr} {od11 an11 : Option Addr} {sl11 : Array (Option Value)} {oc11 kV11 dc11 pm11 cd11 ct11 : Value}
    (a11 : PySem.W.nsIn K mainGlobals "_law_grown" = some (some (.ref f11))) (l11 : K.lookup f11 = some ⟨oc11, od11, .func (PySem.W.fnOf "_law_grown" "_law_grown" (defArgs s_law_grown_a) (defBody s_law_grown_a) (defScope s_law_grown_a) .none kV11 dc11 pm11 an11 cd11 ct11), sl11⟩) (c11 : PySem.W.codeIn K cd11 "_law_grown" = true) (k11 : PySem.W.keepIn K (.ref f11) = true)
    {f12 : Addr} {od12 an12 : Option Addr} {sl12 : Array (Option Value)} {oc12 kV12 dc12 pm12 cd12 ct12 : Value}
    (a12 : PySem.W.nsIn K mainGlobals "even_bars" = some (some (.ref f12))) (l12 : K.lookup f12 = some ⟨oc12, od12, .func (PySem.W.fnOf "even_bars" "even_bars" (defArgs s_even_bars_a) (defBody s_even_bars_a) (defScope s_even_bars_a) .none kV12 dc12 pm12 an12 cd12 ct12), sl12⟩) (c12 : PySem.W.codeIn K cd12 "even_bars" = true) (k12 : PySem.W.keepIn K (.ref f12) = true)
    {f13 : Addr} {od13 an13 : Option Addr} {sl13 : Array (Option Value)} {oc13 kV13 dc13 pm13 cd13 ct13 : Value}
    (a13 : PySem.W.nsIn K mainGlobals "sum_bars" = some (some (.ref f13))) (l13 : K.lookup f13 = some ⟨oc13, od13, .func (PySem.W.fnOf "sum_bars" "sum_bars" (defArgs s_sum_bars_a) (defBody s_sum_bars_a) (defScope s_sum_bars_a) .none kV13 dc13 pm13 an13 cd13 ct13), sl13⟩) (c13 : PySem.W.codeIn K cd13 "sum_bars" = true) (k13 : PySem.W.keepIn K (.ref f13) = true)
    {f14 : Addr} {od14 an14 : Option Addr} {sl14 : Array (Option Value)} {oc14 kV14 dc14 pm14 cd14 ct14 : Value}
    (a14 : PySem.W.nsIn K mainGlobals "pair_bars" = some (some (.ref f14))) (l14 : K.lookup f14 = some ⟨oc14, od14, .func (PySem.W.fnOf "pair_bars" "pair_bars" (defArgs s_pair_bars_a) (defBody s_pair_bars_a) (defScope s_pair_bars_a) .none kV14 dc14 pm14 an14 cd14 ct14), sl14⟩) (c14 : PySem.W.codeIn K cd14 "pair_bars" = true) (k14 : PySem.W.keepIn K (.ref f14) = true)
    {f15 : Addr} {od15 an15 : Option Addr} {sl15 : Array (Option Value)} {oc15 kV15 dc15 pm15 cd15 ct15 : Value}
    (a15 : PySem.W.nsIn K mainGlobals "all_bars" = some (some (.ref f15))) (l15 : K.lookup f15 = some ⟨oc15, od15, .func (PySem.W.fnOf "all_bars" "all_bars" (defArgs s_all_bars_a) (defBody s_all_bars_a) (defScope s_all_bars_a) .none kV15 dc15 pm15 an15 cd15 ct15), sl15⟩) (c15 : PySem.W.codeIn K cd15 "all_bars" = true) (k15 : PySem.W.keepIn K (.ref f15) = true)
    {f16 : Addr} {od16 an16 : Option Addr} {sl16 : Array (Option Value)} {oc16 kV16 dc16 pm16 cd16 ct16 : Value}
    (a16 : PySem.W.nsIn K mainGlobals "bar" = some (some (.ref f16))) (l16 : K.lookup f16 = some ⟨oc16, od16, .func (PySem.W.fnOf "bar" "bar" (defArgs s_bar_a) (defBody s_bar_a) (defScope s_bar_a) .none kV16 dc16 pm16 an16 cd16 ct16), sl16⟩) (c16 : PySem.W.codeIn K cd16 "bar" = true) (k16 : PySem.W.keepIn K (.ref f16) = true)
    {f17 : Addr} {od17 an17 : Option Addr} {sl17 : Array (Option Value)} {oc17 kV17 dc17 pm17 cd17 ct17 : Value}
    (a17 : PySem.W.nsIn K mainGlobals "law" = some (some (.ref f17))) (l17 : K.lookup f17 = some ⟨oc17, od17, .func (PySem.W.fnOf "law" "law" (defArgs s_law_k09) (defBody s_law_k09) (defScope s_law_k09) .none kV17 dc17 pm17 an17 cd17 ct17), sl17⟩) (c17 : PySem.W.codeIn K cd17 "law" = true) (k17 : PySem.W.keepIn K (.ref f17) = true)
    (z0 : PySem.W.nsIn K mainGlobals "bool" = some none)
    (z1 : PySem.W.nsIn K mainGlobals "enumerate" = some none)
    (z2 : PySem.W.nsIn K mainGlobals "int" = some none)
    (z3 : PySem.W.nsIn K mainGlobals "isinstance" = some none)
    (z4 : PySem.W.nsIn K mainGlobals "len" = some none)
    (z5 : PySem.W.nsIn K mainGlobals "list" = some none)
    (z6 : PySem.W.nsIn K mainGlobals "max" = some none)
    (z7 : PySem.W.nsIn K mainGlobals "min" = some none)
    (z8 : PySem.W.nsIn K mainGlobals "range" = some none)
    (z9 : PySem.W.nsIn K mainGlobals "sorted" = some none)
    (z10 : PySem.W.nsIn K mainGlobals "sum" = some none)
    (z11 : PySem.W.nsIn K mainGlobals "tuple" = some none)
    : ∃ fd : FuncData, (∀ (s : Shared) (v : Value), BindsTo s fd ⟨[v], []⟩ [("script", v)]) ∧ ∀ base : Heap, K.In base → base.Ns mainGlobals mg → FnOk l.prog w K mg base CX0 4 fa fd ["script"] (liftSp K cls0 sp_law_k09) := by
  have e := hfa.symm.trans (PySem.W.mg_of X G a17)
  cases e
  have F0 := fun_mk (st := s_law_cells_a) l0 c0 k0
  have b0 := F0.binds (ps := ["script", "least", "most"]) fun _ _ _ _ _ _ us hl => match us, hl with | [_, _, _], _ => rfl
  have F1 := fun_mk (st := s_law_dig_a) l1 c1 k1
  have b1 := F1.binds (ps := ["cell"]) fun _ _ _ _ _ _ us hl => match us, hl with | [_], _ => rfl
  have F2 := fun_mk (st := s_law_next_a) l2 c2 k2
  have b2 := F2.binds (ps := ["pool", "base"]) fun _ _ _ _ _ _ us hl => match us, hl with | [_, _], _ => rfl
  have F3 := fun_mk (st := s_law_rule_a) l3 c3 k3
  have b3 := F3.binds (ps := ["pool"]) fun _ _ _ _ _ _ us hl => match us, hl with | [_], _ => rfl
  have F4 := fun_mk (st := s_barred_most_a) l4 c4 k4
  have b4 := F4.binds (ps := ["rule", "many"]) fun _ _ _ _ _ _ us hl => match us, hl with | [_, _], _ => rfl
  have F5 := fun_mk (st := s_law_bars_a) l5 c5 k5
  have b5 := F5.binds (ps := ["rule", "some", "number"]) fun _ _ _ _ _ _ us hl => match us, hl with | [_, _, _], _ => rfl
  have F6 := fun_mk (st := s_law_small_a) l6 c6 k6
  have b6 := F6.binds (ps := ["pool", "rule", "most"]) fun _ _ _ _ _ _ us hl => match us, hl with | [_, _, _], _ => rfl
  have F7 := fun_mk (st := s_law_set_a) l7 c7 k7
  have b7 := F7.binds (ps := ["pool", "rule", "most"]) fun _ _ _ _ _ _ us hl => match us, hl with | [_, _, _], _ => rfl
  have F8 := fun_mk (st := s_law_barred_a) l8 c8 k8
  have b8 := F8.binds (ps := ["rule", "some"]) fun _ _ _ _ _ _ us hl => match us, hl with | [_, _], _ => rfl
  have F9 := fun_mk (st := s_law_triples_a) l9 c9 k9
  have b9 := F9.binds (ps := ["many"]) fun _ _ _ _ _ _ us hl => match us, hl with | [_], _ => rfl
  have F10 := fun_mk (st := s_law_due_d) l10 c10 k10
  have b10 := F10.binds (ps := ["rule", "many"]) fun _ _ _ _ _ _ us hl => match us, hl with | [_, _], _ => rfl
  have F11 := fun_mk (st := s_law_grown_a) l11 c11 k11
  have b11 := F11.binds (ps := ["rule", "many"]) fun _ _ _ _ _ _ us hl => match us, hl with | [_, _], _ => rfl
  have F12 := fun_mk (st := s_even_bars_a) l12 c12 k12
  have b12 := F12.binds (ps := ["some", "number"]) fun _ _ _ _ _ _ us hl => match us, hl with | [_, _], _ => rfl
  have F13 := fun_mk (st := s_sum_bars_a) l13 c13 k13
  have b13 := F13.binds (ps := ["some", "number"]) fun _ _ _ _ _ _ us hl => match us, hl with | [_, _], _ => rfl
  have F14 := fun_mk (st := s_pair_bars_a) l14 c14 k14
  have b14 := F14.binds (ps := ["some", "number"]) fun _ _ _ _ _ _ us hl => match us, hl with | [_, _], _ => rfl
  have F15 := fun_mk (st := s_all_bars_a) l15 c15 k15
  have b15 := F15.binds (ps := ["rule", "some", "number"]) fun _ _ _ _ _ _ us hl => match us, hl with | [_, _, _], _ => rfl
  have F16 := fun_mk (st := s_bar_a) l16 c16 k16
  have b16 := F16.binds (ps := ["rule", "some", "number"]) fun _ _ _ _ _ _ us hl => match us, hl with | [_, _, _], _ => rfl
  have F17 := fun_mk (st := s_law_k09) l17 c17 k17
  have Z : Bi K mg := ⟨PySem.W.mg_none_of X G z0,
    PySem.W.mg_none_of X G z1,
    PySem.W.mg_none_of X G z2,
    PySem.W.mg_none_of X G z3,
    PySem.W.mg_none_of X G z4,
    PySem.W.mg_none_of X G z5,
    PySem.W.mg_none_of X G z6,
    PySem.W.mg_none_of X G z7,
    PySem.W.mg_none_of X G z8,
    PySem.W.mg_none_of X G z9,
    PySem.W.mg_none_of X G z10,
    PySem.W.mg_none_of X G z11⟩
  refine ⟨PySem.W.fnOf "law" "law" (defArgs s_law_k09) (defBody s_law_k09) (defScope s_law_k09) .none kV17 dc17 pm17 an17 cd17 ct17, fun s v => .of_eq rfl, fun base _ _ => ?_⟩
  have C_law_cells_a : TL.Cal l.prog w K mg base CX0 cls0 "_law_cells" ["script", "least", "most"] 1 sp_law_cells_a := ⟨f0, _, fn_law_cells_a F0 Z, PySem.W.mg_of X G a0, k0, b0⟩
  have C_law_dig_a : TL.Cal l.prog w K mg base CX0 cls0 "_law_dig" ["cell"] 1 sp_law_dig_a := ⟨f1, _, fn_law_dig_a F1 Z, PySem.W.mg_of X G a1, k1, b1⟩
  have C_law_next_a : TL.Cal l.prog w K mg base CX0 cls0 "_law_next" ["pool", "base"] 1 sp_law_next_a := ⟨f2, _, fn_law_next_a F2 Z, PySem.W.mg_of X G a2, k2, b2⟩
  have C_law_rule_a : TL.Cal l.prog w K mg base CX0 cls0 "_law_rule" ["pool"] 2 sp_law_rule_a := ⟨f3, _, fn_law_rule_a F3 Z C_law_next_a, PySem.W.mg_of X G a3, k3, b3⟩
  have C_barred_most_a : TL.Cal l.prog w K mg base CX0 cls0 "barred_most" ["rule", "many"] 1 sp_barred_most_a := ⟨f4, _, fn_barred_most_a F4 Z, PySem.W.mg_of X G a4, k4, b4⟩
  have C_law_bars_a : TL.Cal l.prog w K mg base CX0 cls0 "_law_bars" ["rule", "some", "number"] 1 sp_law_bars_a := ⟨f5, _, fn_law_bars_a F5 Z, PySem.W.mg_of X G a5, k5, b5⟩
  have C_law_small_a : TL.Cal l.prog w K mg base CX0 cls0 "_law_small" ["pool", "rule", "most"] 2 sp_law_small_a := ⟨f6, _, fn_law_small_a F6 Z C_law_bars_a C_law_next_a, PySem.W.mg_of X G a6, k6, b6⟩
  have C_law_set_a : TL.Cal l.prog w K mg base CX0 cls0 "_law_set" ["pool", "rule", "most"] 3 sp_law_set_a := ⟨f7, _, fn_law_set_a F7 Z C_law_next_a C_law_small_a, PySem.W.mg_of X G a7, k7, b7⟩
  have C_law_barred_a : TL.Cal l.prog w K mg base CX0 cls0 "_law_barred" ["rule", "some"] 1 sp_law_barred_a := ⟨f8, _, fn_law_barred_a F8 Z, PySem.W.mg_of X G a8, k8, b8⟩
  have C_law_triples_a : TL.Cal l.prog w K mg base CX0 cls0 "_law_triples" ["many"] 1 sp_law_triples_a := ⟨f9, _, fn_law_triples_a F9 Z, PySem.W.mg_of X G a9, k9, b9⟩
  have C_law_due_d : TL.Cal l.prog w K mg base CX0 cls0 "_law_due" ["rule", "many"] 2 sp_law_due_d := ⟨f10, _, fn_law_due_d F10 Z C_law_triples_a, PySem.W.mg_of X G a10, k10, b10⟩
  have C_law_grown_a : TL.Cal l.prog w K mg base CX0 cls0 "_law_grown" ["rule", "many"] 1 sp_law_grown_a := ⟨f11, _, fn_law_grown_a F11 Z, PySem.W.mg_of X G a11, k11, b11⟩
  have C_even_bars_a : TL.Cal l.prog w K mg base CX0 cls0 "even_bars" ["some", "number"] 1 sp_even_bars_a := ⟨f12, _, fn_even_bars_a F12 Z, PySem.W.mg_of X G a12, k12, b12⟩
  have C_sum_bars_a : TL.Cal l.prog w K mg base CX0 cls0 "sum_bars" ["some", "number"] 1 sp_sum_bars_a := ⟨f13, _, fn_sum_bars_a F13 Z, PySem.W.mg_of X G a13, k13, b13⟩
  have C_pair_bars_a : TL.Cal l.prog w K mg base CX0 cls0 "pair_bars" ["some", "number"] 1 sp_pair_bars_a := ⟨f14, _, fn_pair_bars_a F14 Z, PySem.W.mg_of X G a14, k14, b14⟩
  have C_all_bars_a : TL.Cal l.prog w K mg base CX0 cls0 "all_bars" ["rule", "some", "number"] 2 sp_all_bars_a := ⟨f15, _, fn_all_bars_a F15 Z C_even_bars_a C_pair_bars_a C_sum_bars_a, PySem.W.mg_of X G a15, k15, b15⟩
  have C_bar_a : TL.Cal l.prog w K mg base CX0 cls0 "bar" ["rule", "some", "number"] 3 sp_bar_a := ⟨f16, _, fn_bar_a F16 Z C_all_bars_a, PySem.W.mg_of X G a16, k16, b16⟩
  exact fn_law_k09 F17 Z C_law_barred_a C_law_cells_a C_law_dig_a C_law_due_d C_law_grown_a C_law_next_a C_law_rule_a C_law_set_a C_bar_a C_barred_most_a
end Wk
open PySem PySem.W PyProof.Rows
set_option maxHeartbeats 0 in
theorem PySem.Challenge.cw_shungrow_k09_how_many_are_barred_holds : PySem.Challenge.rw_shungrow_k09_how_many_are_barred.Holds := by
  w_on; o_law; k_head; (case hw => w_witness2)
  k_fill
  refine L2.walk_of (l := PySem.Challenge.rw_shungrow_k09_how_many_are_barred) (n := 63) (k := 4) (x := "script") (CX := fun _ => L2.CX0) (sp := fun w => TL.liftSp _ TL.cls0 Lib.sp_law_k09) rfl (by decide) rfl ⟨rfl, by decide, by decide⟩ (fun w h Y => PySem.W.kIn_of Y) ?F (fun _ H a ns hl ho hS => TL.law_sp H a ns hl ho hS (Lib.top_law_k09 ns hl)) (fun _ _ _ _ _ h => h)
  case F =>
    intro w mg fa h KX G hmg
    refine' Wk.all_mk KX G hmg ?a0 ?l0 ?c0 ?k0 ?a1 ?l1 ?c1 ?k1 ?a2 ?l2 ?c2 ?k2 ?a3 ?l3 ?c3 ?k3 ?a4 ?l4 ?c4 ?k4 ?a5 ?l5 ?c5 ?k5 ?a6 ?l6 ?c6 ?k6 ?a7 ?l7 ?c7 ?k7 ?a8 ?l8 ?c8 ?k8 ?a9 ?l9 ?c9 ?k9 ?a10 ?l10 ?c10 ?k10 ?a11 ?l11 ?c11 ?k11 ?a12 ?l12 ?c12 ?k12 ?a13 ?l13 ?c13 ?k13 ?a14 ?l14 ?c14 ?k14 ?a15 ?l15 ?c15 ?k15 ?a16 ?l16 ?c16 ?k16 ?a17 ?l17 ?c17 ?k17 ?z0 ?z1 ?z2 ?z3 ?z4 ?z5 ?z6 ?z7 ?z8 ?z9 ?z10 ?z11
    (case a0 => k_is); (case l0 => k_is); (case c0 => k_is); (case k0 => k_is); (case a1 => k_is); (case l1 => k_is); (case c1 => k_is); (case k1 => k_is); (case a2 => k_is); (case l2 => k_is); (case c2 => k_is); (case k2 => k_is); (case a3 => k_is); (case l3 => k_is); (case c3 => k_is); (case k3 => k_is); (case a4 => k_is); (case l4 => k_is); (case c4 => k_is); (case k4 => k_is); (case a5 => k_is); (case l5 => k_is); (case c5 => k_is); (case k5 => k_is); (case a6 => k_is); (case l6 => k_is); (case c6 => k_is); (case k6 => k_is); (case a7 => k_is); (case l7 => k_is); (case c7 => k_is); (case k7 => k_is); (case a8 => k_is); (case l8 => k_is); (case c8 => k_is); (case k8 => k_is); (case a9 => k_is); (case l9 => k_is); (case c9 => k_is); (case k9 => k_is); (case a10 => k_is); (case l10 => k_is); (case c10 => k_is); (case k10 => k_is); (case a11 => k_is); (case l11 => k_is); (case c11 => k_is); (case k11 => k_is); (case a12 => k_is); (case l12 => k_is); (case c12 => k_is); (case k12 => k_is); (case a13 => k_is); (case l13 => k_is); (case c13 => k_is); (case k13 => k_is); (case a14 => k_is); (case l14 => k_is); (case c14 => k_is); (case k14 => k_is); (case a15 => k_is); (case l15 => k_is); (case c15 => k_is); (case k15 => k_is); (case a16 => k_is); (case l16 => k_is); (case c16 => k_is); (case k16 => k_is); (case a17 => k_is); (case l17 => k_is); (case c17 => k_is); (case k17 => k_is); (case z0 => k_is); (case z1 => k_is); (case z2 => k_is); (case z3 => k_is); (case z4 => k_is); (case z5 => k_is); (case z6 => k_is); (case z7 => k_is); (case z8 => k_is); (case z9 => k_is); (case z10 => k_is); (case z11 => k_is)

