import PyProof.Rows.All
import Wide.All
import OpenK.AllK
import Wide.FinOn
import HandS.ForMost
import HandS.ForExc
import HandS.Wide
import HandS.SetBool
import HandS.Dict
import HandS.TupAny
import HandS.WideMore
import HandS.WideBits
import HandS.Deep
import HandS.SortInts
import HandS.More
import HandS.Conv
import HandS.Flow
import HandS.IsInst
import HandS.TupLe
import HandS.Rev
import HandS.Zip
import HandS.Small
import KE.DataMinMax
import PyProof.EnumMake
import PyProof.TupleIter
import KE.GoesMore
import KE.GoesNew
import KE.SortData
import HandS.SetFor
import HandS.Strs
import HandS.Set
import HandS.TryOnly
import HandS.TupSets
import HandS.Style
import PyProof.StrBlock2
import KE.RegKIsAll
import HandS.ExcIs
import HandS.ExcOwn
import PyProof.LongRange
import PyProof.Rows.SortShellAny
import PyProof.SumWalkG
import HandS.TupMul
import HandS.Text
import HandS.Sort
import KE.KDictZip
import HandS.HotCalls
import PySem.Challenge.RW_shungrow_k47_papers_of_sums_told
set_option Elab.async false
set_option linter.all false
set_option maxRecDepth 100000
set_option maxHeartbeats 4000000
namespace TL
open PySem L2

inductive T where
  | non | bl (b : Bool) | int (i : Int) | str (x : Str)
  | tup (xs : List T) | lst (xs : List T) | dct (ks : List Key) (ts : List T) | scr (ns : List Int) | oth (v : V) | ins (ns : List Str) (ts : List T)
  | bdt (ks : List (List Bool)) (ts : List T)
  | obj (u : V) (ts : List T) | lat (u : V) (ts : List T)

/-- a dict's entries: keys tuples of truth values (the tuple at an address), values -/
def bEnt (x : List Bool × Addr × Value) : DictEntry := ⟨reduceHash (Builtin.Tuple.tupleHashOf (x.1.map PpSet.hB)), .ref x.2.1, x.2.2⟩
def BD (a : Addr) (xs : List (List Bool × Addr × V)) : HO := .ext fun h => (a == sysModules) = false ∧ ∃ zs : List (List Bool × Addr × Value),
  Paired (fun (p : List Bool × Addr × V) (q : List Bool × Addr × Value) => p.1 = q.1 ∧ p.2.1 = q.2.1 ∧ RelV p.2.2 q.2.2) xs zs ∧
  ∃ o es ep, h.get? a = some o ∧ o.ExactDict ∧ o.data = .dict es ep ∧ es.toList = zs.map bEnt ∧ (zs.map (·.1)).Nodup
mutual
def Rep (K : PySem.W.Frag) (F : Hp) : T → V → Prop
  | .non, v => v = .non
  | .bl b, v => v = .bl b
  | .int i, v => v = .int i
  | .str x, v => v = .str x
  | .tup ts, v => ∃ a vs, v = .ref a ∧ SqT K F a vs ∧ vs.length ≤ sizeLine ∧ Reps K F ts vs
  | .lst ts, v => ∃ a vs, v = .ref a ∧ F a = some (.lst vs) ∧ vs.length ≤ sizeLine ∧ Reps K F ts vs
  | .dct ks ts, v => ∃ a kvs, v = .ref a ∧ Rd F a (.dK kvs) ∧ kvs.length ≤ sizeLine ∧ kvs.map (·.1) = ks ∧ Reps K F ts (kvs.map (·.2))
  | .scr ns, v => ∃ a, v = .ref a ∧ SqL K F a (ns.map V.int) ∧ ns.length ≤ sizeLine
  | .oth u, v => v = u
  | .ins ns ts, v => ∃ a C dx vs, v = .ref a ∧ F a = some (.ins C dx (ns.zip vs)) ∧ Cls K C ∧ (∀ n ∈ ns, NoAttr K C n) ∧ ns.length = vs.length ∧ Reps K F ts vs
  | .bdt ks ts, v => ∃ a xs, v = .ref a ∧ F a = some (BD a xs) ∧ xs.length ≤ sizeLine ∧ xs.map (·.1) = ks ∧ (∀ x ∈ xs, SqT K F x.2.1 (x.1.map V.bl)) ∧ Reps K F ts (xs.map (·.2.2))
  | .obj u _, v => v = u
  | .lat u _, v => v = u
def Reps (K : PySem.W.Frag) (F : Hp) : List T → List V → Prop
  | [], vs => vs = []
  | t :: ts, vs => ∃ v r, vs = v :: r ∧ Rep K F t v ∧ Reps K F ts r
end
section
variable {K : PySem.W.Frag} {F F' H H' : Hp}
theorem Rd.mono {a : Addr} {u : HO} (s : Same F F') (h : Rd F a u) : Rd F' a u := by
  rcases h with h | ⟨o, h⟩
  · exact .inl (s _ _ h)
  · exact .inr ⟨o, s _ _ h⟩
theorem SqT.mono {a : Addr} {xs : List V} (s : Same F F') (h : SqT K F a xs) : SqT K F' a xs := by
  rcases h with h | h
  · exact .inl (Rd.mono s h)
  · exact .inr h
mutual
theorem Rep.mono (s : Same F F') : ∀ (t : T) (v : V), Rep K F t v → Rep K F' t v
  | .non, _, h => h
  | .bl _, _, h => h
  | .int _, _, h => h
  | .str _, _, h => h
  | .tup ts, _, ⟨a, vs, e, q, z, r⟩ => ⟨a, vs, e, SqT.mono s q, z, Reps.mono s ts vs r⟩
  | .lst ts, _, ⟨a, vs, e, q, z, r⟩ => ⟨a, vs, e, s _ _ q, z, Reps.mono s ts vs r⟩
  | .dct ks ts, _, ⟨a, kvs, e, q, z, k, r⟩ => ⟨a, kvs, e, Rd.mono s q, z, k, Reps.mono s ts _ r⟩
  | .scr _, _, ⟨a, e, q, z⟩ => ⟨a, e, s.seq q, z⟩
  | .oth _, _, h => h
  | .ins _ ts, _, ⟨a, C, dx, vs, e, q, c, n, l, r⟩ => ⟨a, C, dx, vs, e, s _ _ q, c, n, l, Reps.mono s ts vs r⟩
  | .bdt _ ts, _, ⟨a, xs, e, q, z, k, t, r⟩ => ⟨a, xs, e, s _ _ q, z, k, fun x hx => SqT.mono s (t x hx), Reps.mono s ts _ r⟩
  | .obj _ _, _, h => h
  | .lat _ _, _, h => h
theorem Reps.mono (s : Same F F') : ∀ (ts : List T) (vs : List V), Reps K F ts vs → Reps K F' ts vs
  | [], _, h => h
  | t :: ts, _, ⟨v, r, e, h1, h2⟩ => ⟨v, r, e, Rep.mono s t v h1, Reps.mono s ts r h2⟩
end
theorem Reps.len : ∀ {ts : List T} {vs : List V}, Reps K F ts vs → ts.length = vs.length
  | [], _, h => by rw [show _ = [] from h]; rfl
  | t :: ts, _, ⟨v, r, e, _, h2⟩ => by rw [e, List.length_cons, List.length_cons, Reps.len h2]
theorem Reps.get : ∀ {ts : List T} {vs : List V} {i : Nat} {t : T}, Reps K F ts vs → ts[i]? = some t → ∃ v, vs[i]? = some v ∧ Rep K F t v
  | [], _, _, _, _, e => by simp at e
  | t :: ts, _, 0, _, ⟨v, r, e, h1, _⟩, g => by
    subst e
    simp at g
    subst g
    exact ⟨v, rfl, h1⟩
  | t :: ts, _, i + 1, _, ⟨v, r, e, _, h2⟩, g => by
    subst e
    simpa using Reps.get h2 (by simpa using g)
theorem Reps.append : ∀ {ts us : List T} {vs ws : List V}, Reps K F ts vs → Reps K F us ws → Reps K F (ts ++ us) (vs ++ ws)
  | [], _, _, _, h, h' => by rw [show _ = [] from h]; exact h'
  | t :: ts, _, _, _, ⟨v, r, e, h1, h2⟩, h' => by
    subst e
    exact ⟨v, _, rfl, h1, Reps.append h2 h'⟩
theorem Reps.take : ∀ {ts : List T} {vs : List V} (n : Nat), Reps K F ts vs → Reps K F (ts.take n) (vs.take n)
  | _, _, 0, _ => rfl
  | [], _, _ + 1, h => by rw [show _ = [] from h]; exact rfl
  | t :: ts, _, n + 1, ⟨v, r, e, h1, h2⟩ => by
    subst e
    exact ⟨v, _, rfl, h1, Reps.take n h2⟩
theorem Reps.drop : ∀ {ts : List T} {vs : List V} (n : Nat), Reps K F ts vs → Reps K F (ts.drop n) (vs.drop n)
  | _, _, 0, h => h
  | [], _, _ + 1, h => by rw [show _ = [] from h]; exact rfl
  | t :: ts, _, n + 1, ⟨v, r, e, h1, h2⟩ => by
    subst e
    exact Reps.drop n h2
theorem Reps.set : ∀ {ts : List T} {vs : List V} {t : T} {v : V} (n : Nat), Rep K F t v → Reps K F ts vs → Reps K F (ts.set n t) (vs.set n v)
  | [], _, _, _, _, _, h => by rw [show _ = [] from h]; exact rfl
  | t :: ts, _, _, _, 0, hr, ⟨v, r, e, h1, h2⟩ => by
    subst e
    exact ⟨_, _, rfl, hr, h2⟩
  | t :: ts, _, _, _, n + 1, hr, ⟨v, r, e, h1, h2⟩ => by
    subst e
    exact ⟨v, _, rfl, h1, Reps.set n hr h2⟩
theorem Reps.reverse : ∀ {ts : List T} {vs : List V}, Reps K F ts vs → Reps K F ts.reverse vs.reverse
  | [], _, h => by rw [show _ = [] from h]; exact rfl
  | t :: ts, _, ⟨v, r, e, h1, h2⟩ => by
    subst e
    rw [List.reverse_cons, List.reverse_cons]
    exact Reps.append (Reps.reverse h2) ⟨v, [], rfl, h1, rfl⟩
theorem Reps.ints : ∀ {ns : List Int} {vs : List V}, Reps K F (ns.map T.int) vs ↔ vs = ns.map V.int
  | [], vs => Iff.rfl
  | n :: ns, vs => by
    constructor
    · rintro ⟨v, r, e, h1, h2⟩
      rw [e, show v = V.int n from h1, Reps.ints.mp h2]
      rfl
    · intro e
      exact ⟨V.int n, ns.map V.int, e, rfl, Reps.ints.mpr rfl⟩
theorem Reps.bls : ∀ {ns : List Bool} {vs : List V}, Reps K F (ns.map T.bl) vs ↔ vs = ns.map V.bl
  | [], vs => Iff.rfl
  | n :: ns, vs => by
    constructor
    · rintro ⟨v, r, e, h1, h2⟩
      rw [e, show v = V.bl n from h1, Reps.bls.mp h2]
      rfl
    · intro e
      exact ⟨V.bl n, ns.map V.bl, e, rfl, Reps.bls.mpr rfl⟩
end

inductive Kd where
  | frz | own | arg (j : Nat)
  deriving DecidableEq
structure Sl where
  k : Kd
  l : Bool
  t : T
abbrev TSt := List (Option Sl)

/-- the fields of an object of the text that changes, in the order in which they are made -/
def deskNs : List Str := ["rule", "begin", "past"]
def OwnAt (K : PySem.W.Frag) (F H : Hp) (a : Addr) : T → Prop
  | .lst ts => ∃ vs, H a = some (.lst vs) ∧ vs.length ≤ sizeLine ∧ Reps K F ts vs
  | .dct ks ts => ∃ kvs, H a = some (.dK kvs) ∧ kvs.length ≤ sizeLine ∧ kvs.map (·.1) = ks ∧ Reps K F ts (kvs.map (·.2))
  | .bdt ks ts => ∃ xs, H a = some (BD a xs) ∧ xs.length ≤ sizeLine ∧ xs.map (·.1) = ks ∧ (∀ x ∈ xs, SqT K F x.2.1 (x.1.map V.bl)) ∧ Reps K F ts (xs.map (·.2.2))
  | .obj u ts => u = .ref a ∧ ∃ C dx vs, H a = some (.ins C dx (deskNs.zip vs)) ∧ PySem.W.nsIn K mainGlobals "Desk" = some (some (.ref C)) ∧ vs.length = 3 ∧ Reps K F ts vs
  | .lat u ts => u = .ref a ∧ ∃ vs, H a = some (.lst vs) ∧ vs.length ≤ sizeLine ∧ Reps K F ts vs
  | _ => False
theorem OwnAt.ex {K : PySem.W.Frag} {F H : Hp} {a : Addr} : ∀ {t : T}, OwnAt K F H a t → ∃ o, H a = some o
  | .lst _, ⟨_, h, _⟩ => ⟨_, h⟩
  | .dct _ _, ⟨_, h, _⟩ => ⟨_, h⟩
  | .bdt _ _, ⟨_, h, _⟩ => ⟨_, h⟩
  | .obj _ _, ⟨_, _, _, _, h, _⟩ => ⟨_, h⟩
  | .lat _ _, ⟨_, _, h, _⟩ => ⟨_, h⟩
theorem OwnAt.mono {K : PySem.W.Frag} {F F' H H' : Hp} {a : Addr} (s : Same F F') (e : H' a = H a) : ∀ {t : T}, OwnAt K F H a t → OwnAt K F' H' a t
  | .lst _, ⟨vs, h, z, r⟩ => ⟨vs, e.trans h, z, Reps.mono s _ _ r⟩
  | .dct _ _, ⟨kvs, h, z, k, r⟩ => ⟨kvs, e.trans h, z, k, Reps.mono s _ _ r⟩
  | .bdt _ _, ⟨xs, h, z, k, t, r⟩ => ⟨xs, e.trans h, z, k, fun x hx => SqT.mono s (t x hx), Reps.mono s _ _ r⟩
  | .obj _ _, ⟨u, C, dx, vs, h, c, l, r⟩ => ⟨u, C, dx, vs, e.trans h, c, l, Reps.mono s _ _ r⟩
  | .lat _ _, ⟨u, vs, h, z, r⟩ => ⟨u, vs, e.trans h, z, Reps.mono s _ _ r⟩
/-- slot i owns the object at a -/
def Owns (σ : St) (τ : TSt) (i : Nat) (k : Kd) (a : Addr) : Prop := ∃ l t, τ[i]? = some (some ⟨k, l, t⟩) ∧ k ≠ .frz ∧ σ[i]? = some (some (.ref a))
structure WF (K : PySem.W.Frag) (F H : Hp) (σ : St) (τ : TSt) : Prop where
  sub : Same F H
  len : τ.length = σ.length
  frz : ∀ (i : Nat) (l : Bool) (t : T), τ[i]? = some (some ⟨.frz, l, t⟩) → ∃ v, σ[i]? = some (some v) ∧ Rep K F t v
  own : ∀ (i : Nat) (k : Kd) (l : Bool) (t : T), τ[i]? = some (some ⟨k, l, t⟩) → k ≠ .frz → ∃ a, σ[i]? = some (some (.ref a)) ∧ F a = none ∧ OwnAt K F H a t
  sep : ∀ (i j : Nat) (k l : Kd) (a : Addr), Owns σ τ i k a → Owns σ τ j l a → i = j
structure Stp (F H : Hp) (σ : St) (τ : TSt) (F' H' : Hp) (τ' : TSt) : Prop where
  sub : Same F F'
  new : ∀ a, F' a ≠ none → F a ≠ none ∨ H a = none ∨ ∃ i, Owns σ τ i .own a
  fr : ∀ a o, H a = some o → (∀ i k, ¬ Owns σ τ i k a) → H' a = some o
  dom : ∀ a, H a ≠ none → H' a ≠ none
  own : ∀ i k a, Owns σ τ' i k a → Owns σ τ i k a
  slot : ∀ (i : Nat) (s : Sl), τ[i]? = some (some s) → ∃ s', τ'[i]? = some (some s')
  lock : ∀ (i : Nat) (k : Kd) (t : T), τ[i]? = some (some ⟨k, true, t⟩) → τ'[i]? = some (some ⟨k, true, t⟩)
/-- the base of a def: its entry, the addresses of the objects that it may change -/
structure Bs where
  F : Hp
  H : Hp
  args : List (Option Addr)
structure Inn (K : PySem.W.Frag) (B : Bs) (F H : Hp) (σ : St) (τ : TSt) : Prop where
  wf : WF K F H σ τ
  sub : Same B.F F
  new : ∀ a, F a ≠ none → B.F a ≠ none ∨ B.H a = none
  fr : ∀ a o, B.H a = some o → some a ∉ B.args → H a = some o
  dom : ∀ a, B.H a ≠ none → H a ≠ none
  ow : ∀ i a, Owns σ τ i .own a → B.H a = none
  ar : ∀ i j a, Owns σ τ i (.arg j) a → B.args[j]? = some (some a)

section
variable {K : PySem.W.Frag} {B : Bs} {F H F1 H1 F2 H2 : Hp} {σ : St} {τ τ1 τ2 : TSt}
theorem Stp.refl : Stp F H σ τ F H τ := ⟨fun _ _ h => h, fun _ h => .inl h, fun _ _ h _ => h, fun _ h => h, fun _ _ _ h => h, fun _ s h => ⟨s, h⟩, fun _ _ _ h => h⟩
theorem Stp.trans (a : Stp F H σ τ F1 H1 τ1) (b : Stp F1 H1 σ τ1 F2 H2 τ2) : Stp F H σ τ F2 H2 τ2 where
  sub := a.sub.trans b.sub
  new := fun x h => by
    rcases b.new x h with h | h | ⟨i, h⟩
    · exact a.new x h
    · refine .inr (.inl ?_)
      cases e : H x with
      | none => rfl
      | some o => exact absurd h (a.dom x (by rw [e]; simp))
    · exact .inr (.inr ⟨i, a.own i _ x h⟩)
  fr := fun x o h n => b.fr x o (a.fr x o h n) fun i k q => n i k (a.own i k x q)
  dom := fun x h => b.dom x (a.dom x h)
  own := fun i k x h => a.own i k x (b.own i k x h)
  slot := fun i s h => by
    obtain ⟨s1, h1⟩ := a.slot i s h
    exact b.slot i s1 h1
  lock := fun i k t h => b.lock i k t (a.lock i k t h)
theorem Inn.step (I : Inn K B F H σ τ) (w : WF K F1 H1 σ τ1) (s : Stp F H σ τ F1 H1 τ1) : Inn K B F1 H1 σ τ1 where
  wf := w
  sub := I.sub.trans s.sub
  new := fun a h => by
    rcases s.new a h with h | h | ⟨i, h⟩
    · exact I.new a h
    · refine .inr ?_
      cases e : B.H a with
      | none => rfl
      | some o => exact absurd h (I.dom a (by rw [e]; simp))
    · exact .inr (I.ow i a h)
  fr := fun a o h n => s.fr a o (I.fr a o h n) fun i k q => by
    cases k with
    | frz => obtain ⟨_, _, _, z, _⟩ := q; exact z rfl
    | own => rw [I.ow i a q] at h; cases h
    | arg j => exact n (List.mem_of_getElem? (I.ar i j a q))
  dom := fun a h => s.dom a (I.dom a h)
  ow := fun i a h => I.ow i a (s.own i _ a h)
  ar := fun i j a h => I.ar i j a (s.own i _ a h)
end

inductive R where
  | val (own : Bool) (t : T) | var (i : Nat)
def slT (τ : TSt) (i : Nat) : T := match τ[i]? with
  | some (some s) => s.t
  | _ => .non
def R.t (τ : TSt) : R → T
  | .val _ t => t
  | .var i => slT τ i
def RR (K : PySem.W.Frag) (F H : Hp) (σ : St) (τ : TSt) (v : V) : R → Prop
  | .val false t => Rep K F t v
  | .val true t => ∃ p, v = .ref p ∧ F p = none ∧ OwnAt K F H p t ∧ ∀ i k, ¬ Owns σ τ i k p
  | .var i => σ[i]? = some (some v) ∧ ∃ s, τ[i]? = some (some s)
def Fresh (H : Hp) (v : V) : R → Prop
  | .val true _ => ∃ p, v = .ref p ∧ H p = none
  | _ => True
/-- what may be read now -/
def RdT (K : PySem.W.Frag) (F H : Hp) (v : V) (t : T) : Prop := Rep K F t v ∨ ∃ p, v = .ref p ∧ F p = none ∧ OwnAt K F H p t
section
variable {K : PySem.W.Frag} {B : Bs} {F H F1 H1 F2 H2 : Hp} {σ : St} {τ τ1 τ2 : TSt} {v : V} {r : R}
theorem RR.rd (w : WF K F H σ τ) : ∀ {r : R}, RR K F H σ τ v r → RdT K F H v (r.t τ)
  | .val false _, h => .inl h
  | .val true _, ⟨p, e, n, o, _⟩ => .inr ⟨p, e, n, o⟩
  | .var i, ⟨e, ⟨k, l, t⟩, h⟩ => by
    have et : R.t τ (.var i) = t := by simp [R.t, slT, h]
    rw [et]
    by_cases hk : k = .frz
    · subst hk
      obtain ⟨v', e', q⟩ := w.frz i l t h
      rw [e] at e'
      cases e'
      exact .inl q
    · obtain ⟨a, e', n, q⟩ := w.own i k l t h hk
      rw [e] at e'
      cases e'
      exact .inr ⟨a, rfl, n, q⟩
theorem RR.step (s : Stp F H σ τ F1 H1 τ1) : ∀ {r : R}, RR K F H σ τ v r → RR K F1 H1 σ τ1 v r
  | .val false _, h => Rep.mono s.sub _ _ h
  | .val true _, ⟨p, e, n, o, no⟩ => by
    obtain ⟨ob, ho⟩ := o.ex
    have e1 : H1 p = some ob := s.fr p ob ho no
    refine ⟨p, e, ?_, o.mono s.sub (e1.trans ho.symm), fun i k q => no i k (s.own i k p q)⟩
    cases q : F1 p with
    | none => rfl
    | some u =>
      rcases s.new p (by rw [q]; simp) with z | z | ⟨i, z⟩
      · exact absurd n z
      · rw [ho] at z; cases z
      · exact absurd z (no i _)
  | .var i, ⟨e, s', h⟩ => ⟨e, s.slot i s' h⟩
theorem Fresh.step (s : Stp F H σ τ F1 H1 τ1) : ∀ {r : R}, Fresh H1 v r → Fresh H v r
  | .val false _, _ => trivial
  | .val true _, ⟨p, e, n⟩ => ⟨p, e, by
    cases q : H p with
    | none => rfl
    | some o => exact absurd n (s.dom p (by rw [q]; simp))⟩
  | .var _, _ => trivial
end

structure Grow (F H F' H' : Hp) : Prop where
  sub : Same F F'
  hp : Same H H'
  new : ∀ a, F' a ≠ none → F a ≠ none ∨ H a = none
  in_ : Same F' H'
def RG (K : PySem.W.Frag) (H F' H' : Hp) (v : V) : Bool → T → Prop
  | false, t => Rep K F' t v
  | true, t => ∃ p, v = .ref p ∧ H p = none ∧ F' p = none ∧ OwnAt K F' H' p t
section
variable {K : PySem.W.Frag} {B : Bs} {F H F1 H1 : Hp} {σ : St} {τ : TSt} {v : V}
theorem Grow.refl (s : Same F H) : Grow F H F H := ⟨fun _ _ h => h, fun _ _ h => h, fun _ h => .inl h, s⟩
theorem same_upd {H : Hp} {p : Addr} {o : HO} (h : H p = none) : Same H (upd H p o) := fun b x e => by
  rw [upd_ne (ne_of_none e h)]
  exact e
theorem Grow.own {p : Addr} {o : HO} (s : Same F H) (n : H p = none) : Grow F H F (upd H p o) :=
  ⟨fun _ _ h => h, same_upd n, fun _ h => .inl h, s.trans (same_upd n)⟩
theorem Grow.frz {p : Addr} {o : HO} (s : Same F H) (n : H p = none) : Grow F H (upd F p o) (upd H p o) := by
  have nF : F p = none := s.free n
  refine ⟨same_upd nF, same_upd n, fun a h => ?_, fun b x e => ?_⟩
  · by_cases e : a = p
    · subst e; exact .inr n
    · rw [upd_ne e] at h; exact .inl h
  · by_cases hb : b = p
    · subst hb; rw [upd_same] at e ⊢; exact e
    · rw [upd_ne hb] at e ⊢; exact s b x e
theorem Grow.wf (g : Grow F H F1 H1) (w : WF K F H σ τ) : WF K F1 H1 σ τ where
  sub := g.in_
  len := w.len
  frz := fun i l t h => by
    obtain ⟨v, e, r⟩ := w.frz i l t h
    exact ⟨v, e, Rep.mono g.sub _ _ r⟩
  own := fun i k l t h hk => by
    obtain ⟨a, e, n, o⟩ := w.own i k l t h hk
    obtain ⟨ob, ho⟩ := o.ex
    refine ⟨a, e, ?_, o.mono g.sub ((g.hp a ob ho).trans ho.symm)⟩
    cases q : F1 a with
    | none => rfl
    | some u =>
      rcases g.new a (by rw [q]; simp) with z | z
      · exact absurd n z
      · rw [ho] at z; cases z
  sep := w.sep
theorem Grow.step (g : Grow F H F1 H1) : Stp F H σ τ F1 H1 τ :=
  ⟨g.sub, fun a h => (g.new a h).elim .inl fun z => .inr (.inl z), fun a o h _ => g.hp a o h, fun a h => by
    cases q : H a with
    | none => exact absurd q h
    | some o => rw [g.hp a o q]; simp, fun _ _ _ h => h, fun _ s h => ⟨s, h⟩, fun _ _ _ h => h⟩
theorem RG.rr (w : WF K F H σ τ) (g : Grow F H F1 H1) : ∀ {k : Bool} {t : T}, RG K H F1 H1 v k t → RR K F1 H1 σ τ v (.val k t) ∧ Fresh H v (.val k t)
  | false, _, h => ⟨h, trivial⟩
  | true, _, ⟨p, e, n, nF, o⟩ => ⟨⟨p, e, nF, o, fun i k q => by
      obtain ⟨l, t, h1, hk, h2⟩ := q
      obtain ⟨a, h3, _, o'⟩ := w.own i k l t h1 hk
      rw [h2] at h3
      cases h3
      obtain ⟨ob, ho⟩ := o'.ex
      rw [ho] at n
      cases n⟩, p, e, n⟩
end

abbrev TTE := TSt → (R → TSt → Prop) → Prop
abbrev TTA := TSt → (List R → TSt → Prop) → Prop
abbrev TTT := TSt → (Bool → TSt → Prop) → Prop
def lift (K : PySem.W.Frag) (B : Bs) (t : TTE) : TE := fun σ H Q => ∃ F τ P, Inn K B F H σ τ ∧ t τ P ∧
  ∀ r τ' F' H' v, P r τ' → Inn K B F' H' σ τ' → Stp F H σ τ F' H' τ' → RR K F' H' σ τ' v r → Fresh H v r → Q v H'
def liftT (K : PySem.W.Frag) (B : Bs) (t : TTT) : TT := fun σ H Q => ∃ F τ P, Inn K B F H σ τ ∧ t τ P ∧
  ∀ b τ' F' H', P b τ' → Inn K B F' H' σ τ' → Stp F H σ τ F' H' τ' → Q b H'
inductive RRs (K : PySem.W.Frag) (F H : Hp) (σ : St) (τ : TSt) : List V → List R → Prop
  | nil : RRs K F H σ τ [] []
  | cons {v : V} {vs : List V} {r : R} {rs : List R} : RR K F H σ τ v r → (∀ t, r ≠ .val true t) → RRs K F H σ τ vs rs → RRs K F H σ τ (v :: vs) (r :: rs)
def liftA (K : PySem.W.Frag) (B : Bs) (t : TTA) : TA := fun σ H Q => ∃ F τ P, Inn K B F H σ τ ∧ t τ P ∧
  ∀ rs τ' F' H' vs, P rs τ' → Inn K B F' H' σ τ' → Stp F H σ τ F' H' τ' → RRs K F' H' σ τ' vs rs → Q vs H'
structure TPE (X : Cx) (B : Bs) (e : Expr) (t : TTE) : Prop where
  pe : PE X e (lift X.K B t)
structure TPT (X : Cx) (B : Bs) (e : Expr) (t : TTT) : Prop where
  pt : PT X e (liftT X.K B t)
structure TPW (X : Cx) (B : Bs) (e : Expr) (t : TTT) : Prop where
  pw : PW X e (liftT X.K B t)
structure TPA (X : Cx) (B : Bs) (es : List Expr) (t : TTA) : Prop where
  pa : PA X es (liftA X.K B t)
theorem PE.imp {X : Cx} {e : Expr} {t u : TE} (h : PE X e t) (i : ∀ σ H Q, u σ H Q → t σ H Q) : PE X e u := ⟨fun pins s σ H Q I q => h.run pins s σ H Q I (i σ H Q q)⟩
theorem PT.imp {X : Cx} {e : Expr} {t u : TT} (h : PT X e t) (i : ∀ σ H Q, u σ H Q → t σ H Q) : PT X e u := ⟨fun pins s σ H Q I q => h.run pins s σ H Q I (i σ H Q q)⟩
theorem PW.imp {X : Cx} {e : Expr} {t u : TT} (h : PW X e t) (i : ∀ σ H Q, u σ H Q → t σ H Q) : PW X e u := ⟨fun wh pins s σ H Q I q => h.run wh pins s σ H Q I (i σ H Q q)⟩
theorem PA.imp {X : Cx} {e : List Expr} {t u : TA} (h : PA X e t) (i : ∀ σ H Q, u σ H Q → t σ H Q) : PA X e u := ⟨fun pos pins s σ H Q I q => h.run pos pins s σ H Q I (i σ H Q q)⟩
theorem PS.imp {X : Cx} {e : Stmt} {t u : TS} (h : PS X e t) (i : ∀ D σ H, u D σ H → t D σ H) : PS X e u := ⟨fun pins s σ H D I q => h.run pins s σ H D I (i D σ H q)⟩
theorem PSs.imp {X : Cx} {e : List Stmt} {t u : TS} (h : PSs X e t) (i : ∀ D σ H, u D σ H → t D σ H) : PSs X e u := ⟨fun pins s σ H D I q => h.run pins s σ H D I (i D σ H q)⟩

/-- going on with an expression -/
theorem lift.go {K : PySem.W.Frag} {B : Bs} {t : TTE} {σ : St} {F H : Hp} {τ : TSt} {P : R → TSt → Prop} {Q : VK} (I : Inn K B F H σ τ) (h : t τ P)
    (q : ∀ r τ' F' H' v, P r τ' → Inn K B F' H' σ τ' → Stp F H σ τ F' H' τ' → RR K F' H' σ τ' v r → Fresh H v r → Q v H') : lift K B t σ H Q := ⟨F, τ, P, I, h, q⟩
end TL

namespace TL
open PySem L2
section
variable {K : PySem.W.Frag} {F H F1 H1 : Hp} {v : V}
theorem RdT.lst {ts : List T} (s : Same F H) (h : RdT K F H v (.lst ts)) : ∃ a vs, v = .ref a ∧ H a = some (.lst vs) ∧ vs.length ≤ sizeLine ∧ Reps K F ts vs := by
  rcases h with ⟨a, vs, e, q, z, r⟩ | ⟨p, e, _, vs, q, z, r⟩
  · exact ⟨a, vs, e, s _ _ q, z, r⟩
  · exact ⟨p, vs, e, q, z, r⟩
theorem RdT.tup {ts : List T} (h : RdT K F H v (.tup ts)) : ∃ a vs, v = .ref a ∧ SqT K F a vs ∧ vs.length ≤ sizeLine ∧ Reps K F ts vs := by
  rcases h with h | ⟨p, e, _, h⟩
  · exact h
  · exact h.elim
theorem RdT.scr {ns : List Int} (h : RdT K F H v (.scr ns)) : ∃ a, v = .ref a ∧ SqL K F a (ns.map V.int) ∧ ns.length ≤ sizeLine := by
  rcases h with h | ⟨p, e, _, h⟩
  · exact h
  · exact h.elim
theorem RdT.dct {ks : List Key} {ts : List T} (s : Same F H) (h : RdT K F H v (.dct ks ts)) : ∃ a kvs, v = .ref a ∧ Rd H a (.dK kvs) ∧ kvs.length ≤ sizeLine ∧ kvs.map (·.1) = ks ∧ Reps K F ts (kvs.map (·.2)) := by
  rcases h with ⟨a, vs, e, q, z, k, r⟩ | ⟨p, e, _, vs, q, z, k, r⟩
  · exact ⟨a, vs, e, Rd.mono s q, z, k, r⟩
  · exact ⟨p, vs, e, .inl q, z, k, r⟩
theorem RdT.bdt {ks : List (List Bool)} {ts : List T} (s : Same F H) (h : RdT K F H v (.bdt ks ts)) : ∃ a xs, v = .ref a ∧ H a = some (BD a xs) ∧ xs.length ≤ sizeLine ∧ xs.map (·.1) = ks ∧ (∀ x ∈ xs, SqT K F x.2.1 (x.1.map V.bl)) ∧ Reps K F ts (xs.map (·.2.2)) := by
  rcases h with ⟨a, xs, e, q, z, k, t, r⟩ | ⟨p, e, _, xs, q, z, k, t, r⟩
  · exact ⟨a, xs, e, s _ _ q, z, k, t, r⟩
  · exact ⟨p, xs, e, q, z, k, t, r⟩
theorem RdT.int {i : Int} (h : RdT K F H v (.int i)) : v = .int i := h.elim id fun ⟨_, _, _, h⟩ => h.elim
theorem RdT.bl {i : Bool} (h : RdT K F H v (.bl i)) : v = .bl i := h.elim id fun ⟨_, _, _, h⟩ => h.elim
theorem RdT.str {i : Str} (h : RdT K F H v (.str i)) : v = .str i := h.elim id fun ⟨_, _, _, h⟩ => h.elim
theorem RdT.non (h : RdT K F H v .non) : v = .non := h.elim id fun ⟨_, _, _, h⟩ => h.elim
theorem RdT.oth {u : V} (h : RdT K F H v (.oth u)) : v = u := h.elim id fun ⟨_, _, _, h⟩ => h.elim
end

abbrev G2 := T → T → (Bool → T → Prop) → Prop
def OpT (X : Cx) (f : Value → Value → Sem Value) (g : G2) : Prop :=
  ∃ r : R2, OpR X f r ∧ ∀ (F H : Hp) (x y : V) (tx ty : T) (G : Bool → T → Prop) (Q : VK), Same F H → RdT X.K F H x tx → RdT X.K F H y ty → g tx ty G →
    (∀ k t v F' H', G k t → Grow F H F' H' → RG X.K H F' H' v k t → Q v H') → r x y H Q
section
variable {X : Cx} {B : Bs}
def tv (i : Nat) : TTE := fun τ P => (∃ s, τ[i]? = some (some s)) ∧ P (.var i) τ
theorem tpe_v (i : Nat) {x : Str} {pos : Pos} (hN : X.N[i]? = some x := by rfl) (hv : Vis X.env.scope x := by first | exact Or.inl rfl | exact Or.inr (Or.inl rfl) | exact Or.inr (Or.inr rfl)) (hd : (x == ("__debug__" : Str)) = false := by decide)
    (hcd : (x == ("__classdict__" : Str)) = false := by decide) : TPE X B (.Name x pos) (tv i) := by
  refine ⟨PE.imp (pe_var hN hv hd hcd) fun σ H Q h => ?_⟩
  obtain ⟨F, τ, P, I, ⟨⟨s, hs⟩, hp⟩, hq⟩ := h
  obtain ⟨v, hv⟩ : ∃ v, σ[i]? = some (some v) := by
    obtain ⟨k, l, t⟩ := s
    by_cases hk : k = .frz
    · subst hk
      obtain ⟨v, e, _⟩ := I.wf.frz i l t hs
      exact ⟨v, e⟩
    · obtain ⟨a, e, _⟩ := I.wf.own i k l t hs hk
      exact ⟨_, e⟩
  exact ⟨v, hv, hq _ _ _ _ _ hp I Stp.refl ⟨hv, s, hs⟩ trivial⟩
def tk (t : T) : TTE := fun τ P => P (.val false t) τ
theorem tpe_k {e : Expr} {t : T} {v : V} (h : PE X e (tC v)) (r : ∀ K F, Rep K F t v) : TPE X B e (tk t) := by
  refine ⟨PE.imp h fun σ H Q h => ?_⟩
  obtain ⟨F, τ, P, I, hp, hq⟩ := h
  exact hq _ _ _ _ _ hp I Stp.refl (r _ _) trivial
theorem tpe_int {i j pos} : TPE X B (.Constant (.int i) j pos) (tk (.int i)) := tpe_k pe_int fun _ _ => rfl
theorem tpe_bl {i j pos} : TPE X B (.Constant (.bool i) j pos) (tk (.bl i)) := tpe_k pe_bl fun _ _ => rfl
theorem tpe_non {j pos} : TPE X B (.Constant .none j pos) (tk .non) := tpe_k pe_non fun _ _ => rfl
theorem tpe_str {i j pos} : TPE X B (.Constant (.str i) j pos) (tk (.str i)) := tpe_k pe_str fun _ _ => rfl

def frzR : R → TSt → (T → TSt → Prop) → Prop
  | .val _ t, τ, P => P t τ
  | .var i, τ, P => match τ[i]? with
    | some (some ⟨.frz, _, t⟩) => P t τ
    | some (some ⟨.own, false, t⟩) => P t (τ.set i (some ⟨.frz, false, t⟩))
    | _ => False
theorem OwnAt.rep {F H : Hp} {K : PySem.W.Frag} {p : Addr} {o : HO} (n : F p = none) (ho : H p = some o) : ∀ {t : T}, OwnAt K F H p t → Rep K (upd F p o) t (.ref p)
  | .lst _, ⟨vs, h, z, r⟩ => by
    rw [ho] at h
    cases h
    exact ⟨p, vs, rfl, upd_same, z, Reps.mono (same_upd n) _ _ r⟩
  | .dct _ _, ⟨kvs, h, z, k, r⟩ => by
    rw [ho] at h
    cases h
    exact ⟨p, kvs, rfl, .inl upd_same, z, k, Reps.mono (same_upd n) _ _ r⟩
  | .bdt _ _, ⟨xs, h, z, k, t, r⟩ => by
    rw [ho] at h
    cases h
    exact ⟨p, xs, rfl, upd_same, z, k, fun x hx => SqT.mono (same_upd n) (t x hx), Reps.mono (same_upd n) _ _ r⟩
  | .obj _ _, ⟨u, _⟩ => u.symm
  | .lat _ _, ⟨u, _⟩ => u.symm
/-- freezing a fresh one, or a slot's own -/
theorem freeze {K : PySem.W.Frag} {F0 H0 F H : Hp} {σ : St} {τ0 τ : TSt} {v : V} {r : R} {P : T → TSt → Prop} (I0 : Inn K B F0 H0 σ τ0) (I : Inn K B F H σ τ) (s : Stp F0 H0 σ τ0 F H τ) (rr : RR K F H σ τ v r) (fr : Fresh H0 v r) (h : frzR r τ P) :
    ∃ t τ' F', P t τ' ∧ Inn K B F' H σ τ' ∧ Stp F0 H0 σ τ0 F' H τ' ∧ Rep K F' t v ∧ Same F F' ∧ (∀ (i : Nat) (s : Sl), τ[i]? = some (some s) → ∃ s' : Sl, τ'[i]? = some (some s') ∧ s'.t = s.t) := by
  cases r with
  | val k t =>
    cases k with
    | false => exact ⟨t, τ, F, h, I, s, rr, fun _ _ h => h, fun _ s h => ⟨s, h, rfl⟩⟩
    | true =>
      obtain ⟨p, rfl, n, o, no⟩ := rr
      obtain ⟨p', e, nf⟩ := fr
      cases e
      obtain ⟨ob, ho⟩ := o.ex
      have w : WF K (upd F p ob) H σ τ := by
        refine ⟨fun a u e => ?_, I.wf.len, fun i l t h => ?_, fun i k l t h hk => ?_, I.wf.sep⟩
        · by_cases ha : a = p
          · subst ha; rw [upd_same] at e; cases e; exact ho
          · rw [upd_ne ha] at e; exact I.wf.sub a u e
        · obtain ⟨v, e, q⟩ := I.wf.frz i l t h
          exact ⟨v, e, Rep.mono (same_upd n) _ _ q⟩
        · obtain ⟨a, e, nF, q⟩ := I.wf.own i k l t h hk
          have ha : a ≠ p := fun z => no i k ⟨l, t, h, hk, by rw [← z]; exact e⟩
          exact ⟨a, e, by rw [upd_ne ha]; exact nF, q.mono (same_upd n) rfl⟩
      have st : Stp F0 H0 σ τ0 (upd F p ob) H τ := by
        refine ⟨s.sub.trans (same_upd n), fun a h => ?_, s.fr, s.dom, s.own, s.slot, s.lock⟩
        by_cases ha : a = p
        · subst ha; exact .inr (.inl nf)
        · rw [upd_ne ha] at h; exact s.new a h
      exact ⟨t, τ, _, h, I0.step w st, st, OwnAt.rep n ho o, same_upd n, fun _ s h => ⟨s, h, rfl⟩⟩
  | var i =>
    obtain ⟨hv, ⟨k, l, t⟩, hs⟩ := rr
    simp only [frzR, hs] at h
    cases k with
    | frz =>
      obtain ⟨v', e, q⟩ := I.wf.frz i l t hs
      rw [hv] at e
      cases e
      exact ⟨t, τ, F, h, I, s, q, fun _ _ h => h, fun _ s h => ⟨s, h, rfl⟩⟩
    | arg j => exact h.elim
    | own =>
      cases l with
      | true => exact h.elim
      | false =>
      obtain ⟨p, e, n, o⟩ := I.wf.own i .own false t hs (by decide)
      rw [hv] at e
      cases e
      obtain ⟨ob, ho⟩ := o.ex
      have hi : i < τ.length := (List.getElem?_eq_some_iff.mp hs).1
      have oi : Owns σ τ i .own p := ⟨false, t, hs, by decide, hv⟩
      have sets : ∀ (j : Nat) (s : Option Sl), (τ.set i (some ⟨.frz, false, t⟩))[j]? = some s → (j = i ∧ s = some ⟨.frz, false, t⟩) ∨ (j ≠ i ∧ τ[j]? = some s) := fun j s e => by
        by_cases hj : j = i
        · subst hj
          rw [List.getElem?_set_self hi] at e
          exact .inl ⟨rfl, (Option.some.inj e).symm⟩
        · rw [List.getElem?_set_ne (Ne.symm hj)] at e
          exact .inr ⟨hj, e⟩
      have ownd : ∀ (j : Nat) (k : Kd) (a : Addr), Owns σ (τ.set i (some ⟨.frz, false, t⟩)) j k a → j ≠ i ∧ Owns σ τ j k a := fun j k a ⟨l, u, h1, h2, h3⟩ => by
        rcases sets j _ h1 with ⟨_, z⟩ | ⟨hj, z⟩
        · cases z; exact absurd rfl h2
        · exact ⟨hj, l, u, z, h2, h3⟩
      have w : WF K (upd F p ob) H σ (τ.set i (some ⟨.frz, false, t⟩)) := by
        refine ⟨fun a u e => ?_, by rw [List.length_set]; exact I.wf.len, fun j l u h => ?_, fun j k l u h hk => ?_, fun a b k l x h1 h2 => I.wf.sep a b k l x (ownd _ _ _ h1).2 (ownd _ _ _ h2).2⟩
        · by_cases ha : a = p
          · subst ha; rw [upd_same] at e; cases e; exact ho
          · rw [upd_ne ha] at e; exact I.wf.sub a u e
        · rcases sets j _ h with ⟨hj, z⟩ | ⟨hj, z⟩
          · cases z
            subst hj
            exact ⟨_, hv, OwnAt.rep n ho o⟩
          · obtain ⟨v, e, q⟩ := I.wf.frz j l u z
            exact ⟨v, e, Rep.mono (same_upd n) _ _ q⟩
        · rcases sets j _ h with ⟨hj, z⟩ | ⟨hj, z⟩
          · cases z; exact absurd rfl hk
          · obtain ⟨a, e, nF, q⟩ := I.wf.own j k l u z hk
            have ha : a ≠ p := fun y => by
              subst y
              exact hj (I.wf.sep j i k .own a ⟨l, u, z, hk, e⟩ oi)
            exact ⟨a, e, by rw [upd_ne ha]; exact nF, q.mono (same_upd n) rfl⟩
      have st : Stp F0 H0 σ τ0 (upd F p ob) H (τ.set i (some ⟨.frz, false, t⟩)) := by
        refine ⟨s.sub.trans (same_upd n), fun a h => ?_, s.fr, s.dom, fun j k a h => s.own j k a (ownd j k a h).2, fun j u h => ?_, fun j k u h => ?_⟩
        · by_cases ha : a = p
          · subst ha; exact .inr (.inr ⟨i, s.own i .own a oi⟩)
          · rw [upd_ne ha] at h; exact s.new a h
        · obtain ⟨u', h'⟩ := s.slot j u h
          by_cases hj : j = i
          · subst hj; exact ⟨_, List.getElem?_set_self hi⟩
          · exact ⟨u', by rw [List.getElem?_set_ne (Ne.symm hj)]; exact h'⟩
        · have h' := s.lock j k u h
          have hj : j ≠ i := fun z => by
            subst z
            rw [hs] at h'
            cases h'
          rw [List.getElem?_set_ne (Ne.symm hj)]
          exact h'
      refine ⟨t, _, _, h, I0.step w st, st, OwnAt.rep n ho o, same_upd n, fun j u hju => ?_⟩
      by_cases hj : j = i
      · subst hj
        rw [hs] at hju
        cases hju
        exact ⟨_, List.getElem?_set_self hi, rfl⟩
      · exact ⟨u, by rw [List.getElem?_set_ne (Ne.symm hj)]; exact hju, rfl⟩
def tf (t : TTE) : TTE := fun τ P => t τ fun r τ1 => frzR r τ1 fun u τ2 => P (.val false u) τ2
abbrev TTL := TSt → (List T → TSt → Prop) → Prop
def liftL (K : PySem.W.Frag) (B : Bs) (t : TTL) : TA := fun σ H Q => ∃ F τ P, Inn K B F H σ τ ∧ t τ P ∧
  ∀ ts τ' F' H' vs, P ts τ' → Inn K B F' H' σ τ' → Stp F H σ τ F' H' τ' → Reps K F' ts vs → Q vs H'
structure TPL (X : Cx) (B : Bs) (es : List Expr) (t : TTL) : Prop where
  pa : PA X es (liftL X.K B t)
def tlnil : TTL := fun τ P => P [] τ
def tlcons (te : TTE) (tl : TTL) : TTL := fun τ P => te τ fun r τ1 => frzR r τ1 fun t τ2 => tl τ2 fun ts τ3 => P (t :: ts) τ3
theorem tpl_nil : TPL X B [] tlnil := by
  refine ⟨PA.imp pa_nil fun σ H Q h => ?_⟩
  obtain ⟨F, τ, P, I, ht, hq⟩ := h
  exact hq _ _ _ _ _ ht I Stp.refl rfl
theorem tpl_cons {e : Expr} {es : List Expr} {te : TTE} {tl : TTL} (ha : TPE X B e te) (hr : TPL X B es tl) (hs : starEach (e :: es) X.env = (false, eval e X.env) :: starEach es X.env := by rfl) : TPL X B (e :: es) (tlcons te tl) := by
  refine ⟨PA.imp (pa_cons ha.pe hr.pa hs) fun σ H Q h => ?_⟩
  obtain ⟨F, τ, P, I, ht, hq⟩ := h
  refine lift.go I ht fun r τ1 F1 H1 v h1 I1 s1 r1 f1 => ?_
  obtain ⟨u, τ2, F2, hp, I2, s2, rep, _⟩ := freeze I I1 s1 r1 f1 h1
  refine ⟨F2, τ2, _, I2, hp, fun ts τ3 F3 H3 vs h3 I3 s3 r3 => ?_⟩
  exact hq _ _ _ _ _ h3 I3 (s2.trans s3) ⟨v, vs, rfl, Rep.mono s3.sub _ _ rep, r3⟩
def ttTup (tl : TTL) : TTE := fun τ P => tl τ fun ts τ1 => ts.length ≤ sizeLine ∧ P (.val false (.tup ts)) τ1
def ttLst (tl : TTL) : TTE := fun τ P => tl τ fun ts τ1 => ts.length ≤ sizeLine ∧ P (.val true (.lst ts)) τ1
variable {es : List Expr} {tl : TTL} {pos : Pos}
theorem tpe_tup {x1} (h : TPL X B es tl) : TPE X B (.Tuple es x1 pos) (ttTup tl) := by
  refine ⟨PE.imp (pe_tup h.pa) fun σ H Q h => ?_⟩
  obtain ⟨F, τ, P, I, ht, hq⟩ := h
  refine ⟨F, τ, _, I, ht, fun ts τ1 F1 H1 vs ⟨hl, hp⟩ I1 s1 r1 => ⟨by rw [← r1.len]; exact hl, fun p np => ?_⟩⟩
  have nF : F1 p = none := I1.wf.sub.free np
  have g : Grow F1 H1 (upd F1 p (.tup vs)) (upd H1 p (.tup vs)) := Grow.frz I1.wf.sub np
  obtain ⟨rr, fr⟩ := RG.rr (v := .ref p) (k := false) (t := .tup ts) I1.wf g ⟨p, vs, rfl, .inl (.inl upd_same), by rw [← r1.len]; exact hl, Reps.mono (same_upd nF) _ _ r1⟩
  exact hq _ _ _ _ _ hp (I1.step (g.wf I1.wf) g.step) (s1.trans g.step) rr trivial
theorem tpe_lst (h : TPL X B es tl) : TPE X B (.List es pos) (ttLst tl) := by
  refine ⟨PE.imp (pe_lst h.pa) fun σ H Q h => ?_⟩
  obtain ⟨F, τ, P, I, ht, hq⟩ := h
  refine ⟨F, τ, _, I, ht, fun ts τ1 F1 H1 vs ⟨hl, hp⟩ I1 s1 r1 => ⟨by rw [← r1.len]; exact hl, fun p np => ?_⟩⟩
  have nF : F1 p = none := I1.wf.sub.free np
  have g : Grow F1 H1 F1 (upd H1 p (.lst vs)) := Grow.own I1.wf.sub np
  obtain ⟨rr, fr⟩ := RG.rr (v := .ref p) (k := true) (t := .lst ts) I1.wf g ⟨p, rfl, np, nF, vs, upd_same, by rw [← r1.len]; exact hl, r1⟩
  exact hq _ _ _ _ _ hp (I1.step (g.wf I1.wf) g.step) (s1.trans g.step) rr (Fresh.step s1 fr)

def ttBin (g : G2) (ta tb : TTE) : TTE := fun τ P => ta τ fun ra τ1 => tb τ1 fun rb τ2 => g (ra.t τ2) (rb.t τ2) fun k t => P (.val k t) τ2
variable {a b c : Expr} {ta tb tc : TTE}
theorem bin_imp {f : Value → Value → Sem Value} {g : G2} {r : R2} (hg : ∀ (F H : Hp) (x y : V) (tx ty : T) (G : Bool → T → Prop) (Q : VK), Same F H → RdT X.K F H x tx → RdT X.K F H y ty → g tx ty G →
    (∀ k t v F' H', G k t → Grow F H F' H' → RG X.K H F' H' v k t → Q v H') → r x y H Q) (σ : St) (H : Hp) (Q : VK) (h : lift X.K B (ttBin g ta tb) σ H Q) : tOp r (lift X.K B ta) (lift X.K B tb) σ H Q := by
  obtain ⟨F, τ, P, I, ht, hq⟩ := h
  refine lift.go I ht fun ra τ1 F1 H1 x h1 I1 s1 r1 f1 => ?_
  refine lift.go I1 h1 fun rb τ2 F2 H2 y h2 I2 s2 r2 f2 => ?_
  refine hg F2 H2 x y _ _ _ Q I2.wf.sub ((r1.step s2).rd I2.wf) (r2.rd I2.wf) h2 fun k t v F' H' gk gr rg => ?_
  obtain ⟨rr, fr⟩ := RG.rr I2.wf gr rg
  exact hq _ _ _ _ _ gk (I2.step (gr.wf I2.wf) gr.step) ((s1.trans s2).trans gr.step) rr (Fresh.step (s1.trans s2) fr)
theorem tpe_bin {op : Operator} {g : G2} (ho : OpT X (binaryOp op) g) (ha : TPE X B a ta) (hb : TPE X B b tb) : TPE X B (.BinOp a op b pos) (ttBin g ta tb) := by
  obtain ⟨r, hr, hg⟩ := ho
  exact ⟨PE.imp (pe_op hr ha.pe hb.pe) (bin_imp (f := binaryOp op) hg)⟩
theorem tpe_cmp {op : CmpOp} {g : G2} (ho : OpT X (compareOp op) g) (ha : TPE X B a ta) (hb : TPE X B b tb) (hm : behindInMarks op b = false) : TPE X B (.Compare a [op] [b] pos) (ttBin g ta tb) := by
  obtain ⟨r, hr, hg⟩ := ho
  exact ⟨PE.imp (pe_cmpR hr ha.pe hb.pe hm) (bin_imp (f := compareOp op) hg)⟩
/-- a bool's value as a test -/
def ttB (te : TTE) : TTT := fun τ P => te τ fun r τ1 => match r.t τ1 with
  | .bl b => P b τ1
  | _ => False
theorem test_imp {te : TTE} (σ : St) (H : Hp) (Q : Bool → Hp → Prop) (h : liftT X.K B (ttB te) σ H Q) : lift X.K B te σ H fun x H' => ∃ k, x = .bl k ∧ Q k H' := by
  obtain ⟨F, τ, P, I, ht, hq⟩ := h
  refine lift.go I ht fun r τ1 F1 H1 v h1 I1 s1 r1 f1 => ?_
  have rd := r1.rd I1.wf
  cases e : r.t τ1 with
  | bl b =>
    rw [e] at h1 rd
    exact ⟨b, rd.bl, hq _ _ _ _ h1 I1 s1⟩
  | _ => rw [e] at h1; exact h1.elim
theorem tpt_cmp {op : CmpOp} {g : G2} (ho : OpT X (compareOp op) g) (ha : TPE X B a ta) (hb : TPE X B b tb) (hm : behindInMarks op b = false) : TPT X B (.Compare a [op] [b] pos) (ttB (ttBin g ta tb)) := by
  obtain ⟨r, hr, hg⟩ := ho
  refine ⟨PT.imp (pt_cmpR hr ha.pe hb.pe hm) fun σ H Q h => ?_⟩
  exact bin_imp (f := compareOp op) hg σ H _ (test_imp σ H Q h)
theorem tpt_val {e : Expr} {te : TTE} (h : TPE X B e te) (he : ∀ whole, isTrue e X.env whole = (do let v ← whole; standAt e.pos; holding [v] (truthy v)) := by intro _; rfl) : TPT X B e (ttB te) :=
  ⟨PT.imp (pt_val h.pe he) fun σ H Q h => test_imp σ H Q h⟩
variable {tA tB' : TTT} {rest : List Expr}
def ttAnd (t u : TTT) : TTT := fun τ P => t τ fun c τ1 => if c = true then u τ1 P else P false τ1
def ttOr (t u : TTT) : TTT := fun τ P => t τ fun c τ1 => if c = true then P true τ1 else u τ1 P
def ttNot (t : TTT) : TTT := fun τ P => t τ fun c τ1 => P (!c) τ1
theorem TPW.pt {e : Expr} {t : TTT} (h : TPW X B e t) : TPT X B e t := ⟨h.pw.pt⟩
theorem tpw_and1 (ha : TPT X B a tA) : TPW X B (.BoolOp .And [a] pos) tA := ⟨pw_and1 ha.pt⟩
theorem tpw_or1 (ha : TPT X B a tA) : TPW X B (.BoolOp .Or [a] pos) tA := ⟨pw_or1 ha.pt⟩
theorem tpw_and (ha : TPT X B a tA) (hb : TPW X B (.BoolOp .And (b :: rest) pos) tB') : TPW X B (.BoolOp .And (a :: b :: rest) pos) (ttAnd tA tB') := by
  refine ⟨PW.imp (pw_and ha.pt hb.pw) fun σ H Q h => ?_⟩
  obtain ⟨F, τ, P, I, ht, hq⟩ := h
  refine ⟨F, τ, _, I, ht, fun c τ1 F1 H1 h1 I1 s1 => ?_⟩
  cases c with
  | true =>
    rw [if_pos rfl] at h1 ⊢
    exact ⟨F1, τ1, _, I1, h1, fun c τ2 F2 H2 h2 I2 s2 => hq _ _ _ _ h2 I2 (s1.trans s2)⟩
  | false =>
    rw [if_neg Bool.false_ne_true] at h1 ⊢
    exact hq _ _ _ _ h1 I1 s1
theorem tpw_or (ha : TPT X B a tA) (hb : TPW X B (.BoolOp .Or (b :: rest) pos) tB') : TPW X B (.BoolOp .Or (a :: b :: rest) pos) (ttOr tA tB') := by
  refine ⟨PW.imp (pw_or ha.pt hb.pw) fun σ H Q h => ?_⟩
  obtain ⟨F, τ, P, I, ht, hq⟩ := h
  refine ⟨F, τ, _, I, ht, fun c τ1 F1 H1 h1 I1 s1 => ?_⟩
  cases c with
  | false =>
    rw [if_neg Bool.false_ne_true] at h1 ⊢
    exact ⟨F1, τ1, _, I1, h1, fun c τ2 F2 H2 h2 I2 s2 => hq _ _ _ _ h2 I2 (s1.trans s2)⟩
  | true =>
    rw [if_pos rfl] at h1 ⊢
    exact hq _ _ _ _ h1 I1 s1
theorem tpt_not (ha : TPT X B a tA) : TPT X B (.UnaryOp .Not a pos) (ttNot tA) := by
  refine ⟨PT.imp (pt_not ha.pt) fun σ H Q h => ?_⟩
  obtain ⟨F, τ, P, I, ht, hq⟩ := h
  exact ⟨F, τ, _, I, ht, fun c τ1 F1 H1 h1 I1 s1 => hq _ _ _ _ h1 I1 s1⟩
def ttIf (t : TTT) (ta tb : TTE) : TTE := fun τ P => t τ fun c τ1 => if c = true then ta τ1 P else tb τ1 P
/-- as values -/
def ttAndV (ta tb : TTE) : TTE := fun τ P => ta τ fun r τ1 => match r.t τ1 with
  | .bl b => if b = true then tb τ1 P else P (.val false (.bl false)) τ1
  | _ => False
def ttOrV (ta tb : TTE) : TTE := fun τ P => ta τ fun r τ1 => match r.t τ1 with
  | .bl b => if b = true then P (.val false (.bl true)) τ1 else tb τ1 P
  | _ => False
def ttNotV (ta : TTE) : TTE := fun τ P => ta τ fun r τ1 => match r.t τ1 with
  | .bl b => P (.val false (.bl (!b))) τ1
  | _ => False
theorem tpe_one {op} {t : TTE} (h : TPE X B a t) : TPE X B (.BoolOp op [a] pos) t := ⟨pe_one h.pe⟩
theorem bl_cases {te : TTE} {σ : St} {H : Hp} {F : Hp} {τ : TSt} {Pb : Bool → TSt → Prop} {Q : VK} (I : Inn X.K B F H σ τ) (ht : te τ fun r τ1 => match r.t τ1 with | .bl b => Pb b τ1 | _ => False)
    (k : ∀ b τ1 F1 H1, Pb b τ1 → Inn X.K B F1 H1 σ τ1 → Stp F H σ τ F1 H1 τ1 → Q (.bl b) H1) : lift X.K B te σ H Q := by
  refine lift.go I ht fun r τ1 F1 H1 v h1 I1 s1 r1 f1 => ?_
  have rd := r1.rd I1.wf
  cases e : r.t τ1 with
  | bl b =>
    rw [e] at h1 rd
    rw [rd.bl]
    exact k _ _ _ _ h1 I1 s1
  | _ => rw [e] at h1; exact h1.elim
theorem tpe_and (ha : TPE X B a ta) (hb : TPE X B (.BoolOp .And (b :: rest) pos) tb) : TPE X B (.BoolOp .And (a :: b :: rest) pos) (ttAndV ta tb) := by
  refine ⟨PE.imp (pe_and ha.pe hb.pe) fun σ H Q h => ?_⟩
  obtain ⟨F, τ, P, I, ht, hq⟩ := h
  refine bl_cases (Pb := fun b τ1 => if b = true then tb τ1 P else P (.val false (.bl false)) τ1) I ht fun c τ1 F1 H1 h1 I1 s1 => ⟨c, rfl, ?_⟩
  cases c with
  | true =>
    rw [if_pos rfl] at h1 ⊢
    exact lift.go I1 h1 fun r τ2 F2 H2 v h2 I2 s2 r2 f2 => hq _ _ _ _ _ h2 I2 (s1.trans s2) r2 (Fresh.step s1 f2)
  | false =>
    rw [if_neg Bool.false_ne_true] at h1 ⊢
    exact hq _ _ _ _ _ h1 I1 s1 rfl trivial
theorem tpe_not (ha : TPE X B a ta) : TPE X B (.UnaryOp .Not a pos) (ttNotV ta) := by
  refine ⟨PE.imp (pe_not ha.pe) fun σ H Q h => ?_⟩
  obtain ⟨F, τ, P, I, ht, hq⟩ := h
  exact bl_cases (Pb := fun b τ1 => P (.val false (.bl (!b))) τ1) I ht fun c τ1 F1 H1 h1 I1 s1 => ⟨c, rfl, hq _ _ _ _ _ h1 I1 s1 rfl trivial⟩
/-- a < b < c -/
def ttChain (g g' : G2) (ta tb tc : TTE) : TTE := fun τ P => ta τ fun ra τ1 => tb τ1 fun rb τ2 => g (ra.t τ2) (rb.t τ2) fun _ t => match t with
  | .bl true => tc τ2 fun rc τ3 => rb.t τ3 = rb.t τ2 ∧ g' (rb.t τ3) (rc.t τ3) fun k t => P (.val k t) τ3
  | .bl false => P (.val false (.bl false)) τ2
  | _ => False
end
end TL

namespace TL
open PySem L2

structure TEnds where
  nx : TSt → Prop
  rt : R → TSt → Prop
  bk : TSt → Prop := fun _ => False
  ct : TSt → Prop := fun _ => False
abbrev TTS := TEnds → TSt → Prop
/-- between two points of a body -/
structure SS (F : Hp) (σ : St) (τ : TSt) (F' : Hp) (σ' : St) (τ' : TSt) : Prop where
  sub : Same F F'
  lock : ∀ (i : Nat) (k : Kd) (t : T), τ[i]? = some (some ⟨k, true, t⟩) → τ'[i]? = some (some ⟨k, true, t⟩) ∧ σ'[i]? = σ[i]?
theorem SS.refl {F : Hp} {σ : St} {τ : TSt} : SS F σ τ F σ τ := ⟨fun _ _ h => h, fun _ _ _ h => ⟨h, rfl⟩⟩
theorem SS.trans {F F1 F2 : Hp} {σ σ1 σ2 : St} {τ τ1 τ2 : TSt} (a : SS F σ τ F1 σ1 τ1) (b : SS F1 σ1 τ1 F2 σ2 τ2) : SS F σ τ F2 σ2 τ2 := ⟨a.sub.trans b.sub, fun i k t h => by
  obtain ⟨h1, e1⟩ := a.lock i k t h
  obtain ⟨h2, e2⟩ := b.lock i k t h1
  exact ⟨h2, e2.trans e1⟩⟩
theorem Stp.ss {F H F1 H1 : Hp} {σ : St} {τ τ1 : TSt} (s : Stp F H σ τ F1 H1 τ1) : SS F σ τ F1 σ τ1 := ⟨s.sub, fun i k t h => ⟨s.lock i k t h, rfl⟩⟩
structure EndsOk (K : PySem.W.Frag) (B : Bs) (F0 : Hp) (σ0 : St) (τ0 : TSt) (TD : TEnds) (D : Ends) : Prop where
  nx : ∀ F H σ τ, Inn K B F H σ τ → SS F0 σ0 τ0 F σ τ → TD.nx τ → D.nx σ H
  bk : ∀ F H σ τ, Inn K B F H σ τ → SS F0 σ0 τ0 F σ τ → TD.bk τ → D.bk σ H
  ct : ∀ F H σ τ, Inn K B F H σ τ → SS F0 σ0 τ0 F σ τ → TD.ct τ → D.ct σ H
  rt : ∀ F H σ τ r v, Inn K B F H σ τ → RR K F H σ τ v r → Fresh B.H v r → TD.rt r τ → D.rt v H
theorem EndsOk.step {K : PySem.W.Frag} {B : Bs} {F0 F1 : Hp} {σ0 σ1 : St} {τ0 τ1 : TSt} {TD : TEnds} {D : Ends} (e : EndsOk K B F0 σ0 τ0 TD D) (s : SS F0 σ0 τ0 F1 σ1 τ1) : EndsOk K B F1 σ1 τ1 TD D :=
  ⟨fun F H σ τ I q => e.nx F H σ τ I (s.trans q), fun F H σ τ I q => e.bk F H σ τ I (s.trans q), fun F H σ τ I q => e.ct F H σ τ I (s.trans q), e.rt⟩
def liftS (K : PySem.W.Frag) (B : Bs) (t : TTS) : TS := fun D σ H => ∃ F τ TD, Inn K B F H σ τ ∧ t TD τ ∧ EndsOk K B F σ τ TD D
structure TPS (X : Cx) (B : Bs) (st : Stmt) (t : TTS) : Prop where
  ps : PS X st (liftS X.K B t)
structure TPSs (X : Cx) (B : Bs) (st : List Stmt) (t : TTS) : Prop where
  pss : PSs X st (liftS X.K B t)

theorem Inn.freshB {K : PySem.W.Frag} {B : Bs} {F H : Hp} {σ : St} {τ : TSt} {v : V} (I : Inn K B F H σ τ) : ∀ {r : R}, Fresh H v r → Fresh B.H v r
  | .val false _, _ => trivial
  | .var _, _ => trivial
  | .val true _, ⟨p, e, n⟩ => ⟨p, e, by
    cases q : B.H p with
    | none => rfl
    | some o => exact absurd n (I.dom p (by rw [q]; simp))⟩

def canS : Option (Option Sl) → Bool
  | some none => true
  | some (some ⟨_, false, _⟩) => true
  | _ => false
def setS (τ : TSt) (i : Nat) (s : Sl) (P : TSt → Prop) : Prop := canS τ[i]? = true ∧ P (τ.set i (some s))
def stR (r : R) (τ : TSt) (i : Nat) (P : TSt → Prop) : Prop := match r with
  | .val true t => setS τ i ⟨.own, false, t⟩ P
  | r => frzR r τ fun t τ1 => setS τ1 i ⟨.frz, false, t⟩ P
theorem setS.inv {τ : TSt} {i : Nat} {s : Sl} {P : TSt → Prop} (h : setS τ i s P) : P (τ.set i (some s)) ∧ i < τ.length ∧ ∀ k t, τ[i]? ≠ some (some ⟨k, true, t⟩) := by
  obtain ⟨c, h⟩ := h
  refine ⟨h, ?_, fun k t z => by rw [z] at c; cases c⟩
  cases e : τ[i]? with
  | none => rw [e] at c; cases c
  | some x => exact (List.getElem?_eq_some_iff.mp e).1
section
variable {K : PySem.W.Frag} {B : Bs} {F H : Hp} {σ : St} {τ : TSt} {v : V}
theorem store_ss {i : Nat} {s : Sl} {x : Option V} (nl : ∀ k t, τ[i]? ≠ some (some ⟨k, true, t⟩)) : SS F σ τ F (σ.set i x) (τ.set i (some s)) := ⟨fun _ _ h => h, fun j k t h => by
  have hj : j ≠ i := fun z => by subst z; exact nl k t h
  rw [List.getElem?_set_ne (Ne.symm hj), List.getElem?_set_ne (Ne.symm hj)]
  exact ⟨h, rfl⟩⟩
theorem set_get {α : Type} {l : List α} {i j : Nat} {x y : α} (h : (l.set i x)[j]? = some y) : (j = i ∧ y = x ∧ i < l.length) ∨ (j ≠ i ∧ l[j]? = some y) := by
  by_cases hj : j = i
  · subst hj
    by_cases hl : j < l.length
    · rw [List.getElem?_set_self hl] at h
      exact .inl ⟨rfl, (Option.some.inj h).symm, hl⟩
    · rw [List.getElem?_eq_none (by simpa using hl)] at h
      cases h
  · rw [List.getElem?_set_ne (Ne.symm hj)] at h
    exact .inr ⟨hj, h⟩
theorem store_frz (I : Inn K B F H σ τ) {i : Nat} {t : T} (hi : i < τ.length) (r : Rep K F t v) : Inn K B F H (σ.set i (some v)) (τ.set i (some ⟨.frz, false, t⟩)) := by
  have own' : ∀ (j : Nat) (k : Kd) (a : Addr), Owns (σ.set i (some v)) (τ.set i (some ⟨.frz, false, t⟩)) j k a → j ≠ i ∧ Owns σ τ j k a := fun j k a ⟨l, u, h1, h2, h3⟩ => by
    rcases set_get h1 with ⟨_, z, _⟩ | ⟨hj, z⟩
    · cases z; exact absurd rfl h2
    · rw [List.getElem?_set_ne (Ne.symm hj)] at h3
      exact ⟨hj, l, u, z, h2, h3⟩
  have hiσ : i < σ.length := by rw [← I.wf.len]; exact hi
  refine ⟨⟨I.wf.sub, by rw [List.length_set, List.length_set]; exact I.wf.len, fun j l u h => ?_, fun j k l u h hk => ?_, fun a b k l x h1 h2 => I.wf.sep a b k l x (own' _ _ _ h1).2 (own' _ _ _ h2).2⟩, I.sub, I.new, I.fr, I.dom, fun j a h => I.ow j a (own' _ _ _ h).2, fun j m a h => I.ar j m a (own' _ _ _ h).2⟩
  · rcases set_get h with ⟨hj, z, _⟩ | ⟨hj, z⟩
    · cases z; subst hj
      exact ⟨v, List.getElem?_set_self hiσ, r⟩
    · rw [List.getElem?_set_ne (Ne.symm hj)]
      exact I.wf.frz j l u z
  · rcases set_get h with ⟨hj, z, _⟩ | ⟨hj, z⟩
    · cases z; exact absurd rfl hk
    · rw [List.getElem?_set_ne (Ne.symm hj)]
      exact I.wf.own j k l u z hk
theorem store_own (I : Inn K B F H σ τ) {i : Nat} {t : T} (hi : i < τ.length) (r : RR K F H σ τ v (.val true t)) (f : Fresh B.H v (.val true t)) : Inn K B F H (σ.set i (some v)) (τ.set i (some ⟨.own, false, t⟩)) := by
  obtain ⟨p, rfl, n, o, no⟩ := r
  obtain ⟨p', e, nb⟩ := f
  cases e
  have hiσ : i < σ.length := by rw [← I.wf.len]; exact hi
  have own' : ∀ (j : Nat) (k : Kd) (a : Addr), Owns (σ.set i (some (.ref p))) (τ.set i (some ⟨.own, false, t⟩)) j k a → (j = i ∧ k = .own ∧ a = p) ∨ (j ≠ i ∧ Owns σ τ j k a) := fun j k a ⟨l, u, h1, h2, h3⟩ => by
    rcases set_get h1 with ⟨hj, z, _⟩ | ⟨hj, z⟩
    · cases z; subst hj
      rw [List.getElem?_set_self hiσ] at h3
      cases h3
      exact .inl ⟨rfl, rfl, rfl⟩
    · rw [List.getElem?_set_ne (Ne.symm hj)] at h3
      exact .inr ⟨hj, l, u, z, h2, h3⟩
  refine ⟨⟨I.wf.sub, by rw [List.length_set, List.length_set]; exact I.wf.len, fun j l u h => ?_, fun j k l u h hk => ?_, fun a b k l x h1 h2 => ?_⟩, I.sub, I.new, I.fr, I.dom, fun j a h => ?_, fun j m a h => ?_⟩
  · rcases set_get h with ⟨hj, z, _⟩ | ⟨hj, z⟩
    · cases z
    · rw [List.getElem?_set_ne (Ne.symm hj)]
      exact I.wf.frz j l u z
  · rcases set_get h with ⟨hj, z, _⟩ | ⟨hj, z⟩
    · cases z; subst hj
      exact ⟨p, List.getElem?_set_self hiσ, n, o⟩
    · rw [List.getElem?_set_ne (Ne.symm hj)]
      exact I.wf.own j k l u z hk
  · rcases own' _ _ _ h1 with ⟨ha, _, e⟩ | ⟨_, q1⟩
    · rcases own' _ _ _ h2 with ⟨hb, _, _⟩ | ⟨_, q2⟩
      · rw [ha, hb]
      · rw [e] at q2; exact absurd q2 (no _ _)
    · rcases own' _ _ _ h2 with ⟨hb, _, e⟩ | ⟨_, q2⟩
      · rw [e] at q1; exact absurd q1 (no _ _)
      · exact I.wf.sep a b k l x q1 q2
  · rcases own' _ _ _ h with ⟨_, _, e⟩ | ⟨_, q⟩
    · rw [e]; exact nb
    · exact I.ow j a q
  · rcases own' _ _ _ h with ⟨_, e, _⟩ | ⟨_, q⟩
    · cases e
    · exact I.ar j m a q
/-- a result goes to slot i -/
theorem stR.ok {F0 H0 : Hp} {τ0 : TSt} {r : R} {i : Nat} {P : TSt → Prop} (I0 : Inn K B F0 H0 σ τ0) (I : Inn K B F H σ τ) (s : Stp F0 H0 σ τ0 F H τ) (rr : RR K F H σ τ v r) (f : Fresh H0 v r) (h : stR r τ i P) :
    ∃ F' τ', P τ' ∧ Inn K B F' H (σ.set i (some v)) τ' ∧ SS F0 σ τ0 F' (σ.set i (some v)) τ' := by
  have frz : ∀ h : frzR r τ fun t τ1 => setS τ1 i ⟨.frz, false, t⟩ P, ∃ F' τ', P τ' ∧ Inn K B F' H (σ.set i (some v)) τ' ∧ SS F0 σ τ0 F' (σ.set i (some v)) τ' := fun h => by
    obtain ⟨t, τ1, F1, h1, I1, s1, rep, _⟩ := freeze I0 I s rr f h
    obtain ⟨hp, hi, nl⟩ := h1.inv
    exact ⟨F1, _, hp, store_frz I1 hi rep, s1.ss.trans (store_ss nl)⟩
  cases r with
  | var j => exact frz h
  | val k t =>
    cases k with
    | false => exact frz h
    | true =>
      obtain ⟨hp, hi, nl⟩ := setS.inv h
      exact ⟨F, _, hp, store_own I hi rr (I0.freshB f), s.ss.trans (store_ss nl)⟩
end

section
variable {X : Cx} {B : Bs} {st : Stmt} {rest : List Stmt} {t u : TTS} {e : Expr} {te : TTE} {pos : Pos}
def ttNext : TTS := fun D τ => D.nx τ
def ttSeq (t u : TTS) : TTS := fun D τ => t { D with nx := u D } τ
theorem tpss_nil : TPSs X B [] ttNext := ⟨PSs.imp pss_nil fun D σ H h => by
  obtain ⟨F, τ, TD, I, h, ok⟩ := h
  exact ok.nx F H σ τ I SS.refl h⟩
theorem tpss_cons (h1 : TPS X B st t) (h2 : TPSs X B rest u) : TPSs X B (st :: rest) (ttSeq t u) := ⟨PSs.imp (pss_cons h1.ps h2.pss) fun D σ H h => by
  obtain ⟨F, τ, TD, I, h, ok⟩ := h
  exact ⟨F, τ, _, I, h, fun F1 H1 σ1 τ1 I1 s1 q => ⟨F1, τ1, TD, I1, q, ok.step s1⟩, ok.bk, ok.ct, ok.rt⟩⟩
theorem tpss_one (h1 : TPS X B st t) : TPSs X B [st] t := ⟨pss_one h1.ps⟩
def ttBreak : TTS := fun D τ => D.bk τ
def ttCont : TTS := fun D τ => D.ct τ
def ttDrop (te : TTE) : TTS := fun D τ => te τ fun _ τ1 => D.nx τ1
theorem tps_expr (he : TPE X B e te) (hs : swapsWith e none pos.line X.env = pure false := by rfl) : TPS X B (.Expr e pos) (ttDrop te) := ⟨PS.imp (ps_expr he.pe hs) fun D σ H h => by
  obtain ⟨F, τ, TD, I, h, ok⟩ := h
  exact lift.go I h fun r τ1 F1 H1 v h1 I1 s1 r1 f1 => ok.nx F1 H1 σ τ1 I1 s1.ss h1⟩
def ttRet (te : TTE) : TTS := fun D τ => te τ fun r τ1 => D.rt r τ1
theorem tps_ret (he : TPE X B e te) : TPS X B (.Return (some e) pos) (ttRet te) := ⟨PS.imp (ps_ret he.pe) fun D σ H h => by
  obtain ⟨F, τ, TD, I, h, ok⟩ := h
  exact lift.go I h fun r τ1 F1 H1 v h1 I1 s1 r1 f1 => ok.rt F1 H1 σ τ1 r v I1 r1 (I.freshB f1) h1⟩
def ttRetN : TTS := fun D τ => D.rt (.val false .non) τ
def ttIfS (c : TTT) (t u : TTS) : TTS := fun D τ => c τ fun b τ1 => if b = true then t D τ1 else u D τ1
theorem tps_if {c : Expr} {a b : List Stmt} {tc : TTT} (hc : TPT X B c tc) (ha : TPSs X B a t) (hb : TPSs X B b u) : TPS X B (.If c a b pos) (ttIfS tc t u) := ⟨PS.imp (ps_if hc.pt ha.pss hb.pss) fun D σ H h => by
  obtain ⟨F, τ, TD, I, h, ok⟩ := h
  refine ⟨F, τ, _, I, h, fun d τ1 F1 H1 h1 I1 s1 => ?_⟩
  cases d with
  | true => rw [if_pos rfl] at h1 ⊢; exact ⟨F1, τ1, TD, I1, h1, ok.step s1.ss⟩
  | false => rw [if_neg Bool.false_ne_true] at h1 ⊢; exact ⟨F1, τ1, TD, I1, h1, ok.step s1.ss⟩⟩
def ttSet (i : Nat) (te : TTE) : TTS := fun D τ => te τ fun r τ1 => stR r τ1 i D.nx
theorem tps_set {i : Nat} {x : Str} {pos' : Pos} (hN : X.N.Nodup) (hi : X.N[i]? = some x) (hx : Loc X.env.scope x) (he : TPE X B e te) (hs : swapsWith e (some (.Name x pos')) pos.line X.env = pure false := by rfl) (hf : X.fn x = true ∨ X.env.scope.names.lookup x = some .local := by first | exact .inl rfl | exact .inr rfl | assumption) :
    TPS X B (.Assign [.Name x pos'] e pos) (ttSet i te) := ⟨PS.imp (ps_set hN hi hx he.pe hs hf) fun D σ H h => by
  obtain ⟨F, τ, TD, I, h, ok⟩ := h
  refine lift.go I h fun r τ1 F1 H1 v h1 I1 s1 r1 f1 => ?_
  obtain ⟨F2, τ2, h2, I2, s2⟩ := stR.ok I I1 s1 r1 f1 h1
  exact ok.nx F2 H1 _ τ2 I2 s2 h2⟩

abbrev TTG := T → TSt → (TSt → Prop) → Prop
abbrev TTGs := List T → TSt → (TSt → Prop) → Prop
def liftG (K : PySem.W.Frag) (B : Bs) (is : List Nat) (g : TTG) : TG := fun v σ H Q => ∃ F τ t P, Inn K B F H σ τ ∧ Rep K F t v ∧ g t τ P ∧
  ∀ σ' τ', Inn K B F H σ' τ' → SS F σ τ F σ' τ' → (σ'.length = σ.length ∧ ∀ (j : Nat), j ∉ is → σ'[j]? = σ[j]? ∧ τ'[j]? = τ[j]?) → (∀ (j : Nat), j ∈ is → ∀ s : Sl, τ'[j]? = some (some s) → s.k = .frz) → P τ' → Q σ' H
def liftGs (K : PySem.W.Frag) (B : Bs) (is : List Nat) (g : TTGs) : TGs := fun vs σ H Q => ∃ F τ ts P, Inn K B F H σ τ ∧ Reps K F ts vs ∧ g ts τ P ∧
  ∀ σ' τ', Inn K B F H σ' τ' → SS F σ τ F σ' τ' → (σ'.length = σ.length ∧ ∀ (j : Nat), j ∉ is → σ'[j]? = σ[j]? ∧ τ'[j]? = τ[j]?) → (∀ (j : Nat), j ∈ is → ∀ s : Sl, τ'[j]? = some (some s) → s.k = .frz) → P τ' → Q σ' H
structure TPG (X : Cx) (B : Bs) (is : List Nat) (e : Expr) (g : TTG) : Prop where
  pg : PG X e (liftG X.K B is g)
structure TPGs (X : Cx) (B : Bs) (is : List Nat) (e : List Expr) (g : TTGs) : Prop where
  pgs : PGs X e (liftGs X.K B is g)
theorem PG.imp {e : Expr} {t u : TG} (h : PG X e t) (i : ∀ v σ H Q, u v σ H Q → t v σ H Q) : PG X e u := ⟨fun pins s σ H v w Q I r q => h.run pins s σ H v w Q I r (i v σ H Q q)⟩
theorem PGs.imp {e : List Expr} {t u : TGs} (h : PGs X e t) (i : ∀ v σ H Q, u v σ H Q → t v σ H Q) : PGs X e u := ⟨fun pins s σ H v w Q I r q => h.run pins s σ H v w Q I r (i v σ H Q q)⟩
def tgN (i : Nat) : TTG := fun t τ P => setS τ i ⟨.frz, false, t⟩ P
theorem tpg_n {i : Nat} {x : Str} (hN : X.N.Nodup) (hi : X.N[i]? = some x) (hx : Loc X.env.scope x) (hf : X.fn x = true ∨ X.env.scope.names.lookup x = some .local := by first | exact .inl rfl | exact .inr rfl | assumption) : TPG X B [i] (.Name x pos) (tgN i) :=
  ⟨PG.imp (pg_name hN hi hx hf) fun v σ H Q h => by
  obtain ⟨F, τ, t, P, I, r, h, q⟩ := h
  obtain ⟨hp, hi', nl⟩ := setS.inv h
  refine q _ _ (store_frz I hi' r) (store_ss nl) ⟨List.length_set .., fun j hj => ?_⟩ (fun j hj s e => ?_) hp
  · have hj : i ≠ j := fun z => hj (by simp [z])
    exact ⟨List.getElem?_set_ne hj, List.getElem?_set_ne hj⟩
  · rcases set_get e with ⟨_, z, _⟩ | ⟨z, _⟩
    · cases z; rfl
    · exact absurd (by simpa using hj) z⟩
def tgsNil : TTGs := fun ts τ P => match ts with
  | [] => P τ
  | _ => False
def tgsCons (g : TTG) (gs : TTGs) : TTGs := fun ts τ P => match ts with
  | t :: r => g t τ fun τ1 => gs r τ1 P
  | _ => False
theorem tpgs_nil : TPGs X B [] [] tgsNil := ⟨PGs.imp pgs_nil fun vs σ H Q h => by
  obtain ⟨F, τ, ts, P, I, r, h, q⟩ := h
  cases ts with
  | nil => exact ⟨r, q σ τ I SS.refl ⟨rfl, fun _ _ => ⟨rfl, rfl⟩⟩ (fun _ z => nomatch z) h⟩
  | cons _ _ => exact h.elim⟩
theorem tpgs_cons {e : Expr} {es : List Expr} {g : TTG} {gs : TTGs} {is js : List Nat} (h1 : TPG X B is e g) (h2 : TPGs X B js es gs) (hs : (assignEach (e :: es) X.env).map (·.2) = assign e X.env :: (assignEach es X.env).map (·.2) := by rfl) : TPGs X B (is ++ js) (e :: es) (tgsCons g gs) :=
  ⟨PGs.imp (pgs_cons h1.pg h2.pgs hs) fun vs σ H Q h => by
  obtain ⟨F, τ, ts, P, I, r, h, q⟩ := h
  cases ts with
  | nil => exact h.elim
  | cons t ts =>
    obtain ⟨v, vr, rfl, r1, r2⟩ := r
    refine ⟨v, vr, rfl, F, τ, t, _, I, r1, h, fun σ1 τ1 I1 s1 n1 f1 h1 => ?_⟩
    refine ⟨F, τ1, ts, _, I1, r2, h1, fun σ2 τ2 I2 s2 n2 f2 h2 => q σ2 τ2 I2 (s1.trans s2) ⟨n2.1.trans n1.1, fun j hj => ?_⟩ (fun j hj s e => ?_) h2⟩
    · rw [List.mem_append, not_or] at hj
      exact ⟨(n2.2 j hj.2).1.trans (n1.2 j hj.1).1, (n2.2 j hj.2).2.trans (n1.2 j hj.1).2⟩
    · by_cases hj2 : j ∈ js
      · exact f2 j hj2 s e
      · rw [(n2.2 j hj2).2] at e
        exact f1 j ((List.mem_append.mp hj).resolve_right hj2) s e⟩
def tgTup (n : Nat) (gs : TTGs) : TTG := fun t τ P => match t with
  | .tup ts => ts.length = n ∧ gs ts τ P
  | _ => False
theorem tpg_tup {es : List Expr} {k : Nat} {gs : TTGs} {n : Nat} {is : List Nat} (hc : X.calm = true) (h : TPGs X B is es gs) (hn : (assignEach es X.env).length = n := by rfl) (hst : (assignEach es X.env).findIdx? (·.1) = none := by rfl) :
    TPG X B is (.Tuple es k pos) (tgTup n gs) := ⟨PG.imp (pg_tup hc h.pgs hn hst) fun v σ H Q h => by
  obtain ⟨F, τ, t, P, I, r, h, q⟩ := h
  cases t with
  | tup ts =>
    obtain ⟨a, vs, rfl, sq, z, rs⟩ := r
    exact ⟨a, vs, rfl, SqT.mono I.wf.sub sq, by rw [← rs.len]; exact h.1, F, τ, ts, P, I, rs, h.2, q⟩
  | _ => exact h.elim⟩
def ttAsg (te : TTE) (g : TTG) : TTS := fun D τ => te τ fun r τ1 => frzR r τ1 fun t τ2 => g t τ2 D.nx
theorem tps_asg {tg : Expr} {g : TTG} {is : List Nat} (he : TPE X B e te) (hg : TPG X B is tg g) (hs : swapsWithSole [tg] e pos.line X.env = pure false := by rfl) (hw : swappedStores [tg] e X.env = pure none := by rfl)
    (h1 : (assignEach [tg] X.env).map (·.2) = [assign tg X.env] := by rfl) : TPS X B (.Assign [tg] e pos) (ttAsg te g) := ⟨PS.imp (ps_asg he.pe hg.pg hs hw h1) fun D σ H h => by
  obtain ⟨F, τ, TD, I, h, ok⟩ := h
  refine lift.go I h fun r τ1 F1 H1 v h1 I1 s1 r1 f1 => ?_
  obtain ⟨t, τ2, F2, h2, I2, s2, rep, _⟩ := freeze I I1 s1 r1 f1 h1
  exact ⟨F2, τ2, t, _, I2, rep, h2, fun σ' τ' I' s' _ _ q => ok.nx F2 H1 σ' τ' I' (s2.ss.trans s') q⟩⟩

def ttWhile (c : TTT) (tb : TTS) : TTS := fun D τ => ∃ W : Nat → TSt → Prop, (∃ m, W m τ) ∧ ∀ m τ, W m τ → c τ fun b τ1 =>
  if b = true then tb { D with nx := fun τ' => ∃ m', m' < m ∧ W m' τ', ct := fun τ' => ∃ m', m' < m ∧ W m' τ', bk := D.nx } τ1 else D.nx τ1
theorem tps_while {c : Expr} {body : List Stmt} {tc : TTT} {tb : TTS} (hp : PassesOwn (model X.prog X.w) X.A X.env X.xe) (hc : TPT X B c tc) (hb : TPSs X B body tb) : TPS X B (.While c body [] pos) (ttWhile tc tb) :=
  ⟨PS.imp (ps_while hp hc.pt hb.pss) fun D σ H h => by
  obtain ⟨F, τ, TD, I, ⟨W, ⟨m0, w0⟩, turn⟩, ok⟩ := h
  refine ⟨fun m σ1 H1 => ∃ F1 τ1, Inn X.K B F1 H1 σ1 τ1 ∧ SS F σ τ F1 σ1 τ1 ∧ W m τ1, ⟨m0, F, τ, I, SS.refl, w0⟩, ?_⟩
  rintro m σ1 H1 ⟨F1, τ1, I1, s1, w1⟩
  refine ⟨F1, τ1, _, I1, turn m τ1 w1, fun b τ2 F2 H2 h2 I2 s2 => ?_⟩
  cases b with
  | false =>
    rw [if_neg Bool.false_ne_true] at h2 ⊢
    exact ok.nx F2 H2 σ1 τ2 I2 (s1.trans s2.ss) h2
  | true =>
    rw [if_pos rfl] at h2 ⊢
    refine ⟨fun σ' H' => ∃ m', m' < m ∧ ∃ F1 τ1, Inn X.K B F1 H' σ' τ1 ∧ SS F σ τ F1 σ' τ1 ∧ W m' τ1, fun σ' H' ⟨m', hm, F3, τ3, I3, s3, w3⟩ => ⟨m', hm, F3, τ3, I3, s3, w3⟩, F2, τ2, _, I2, h2, ?_⟩
    have s12 := s1.trans s2.ss
    exact ⟨fun F3 H3 σ3 τ3 I3 s3 ⟨m', hm, w3⟩ => ⟨m', hm, F3, τ3, I3, s12.trans s3, w3⟩, fun F3 H3 σ3 τ3 I3 s3 h3 => ok.nx F3 H3 σ3 τ3 I3 (s12.trans s3) h3, fun F3 H3 σ3 τ3 I3 s3 ⟨m', hm, w3⟩ => ⟨m', hm, F3, τ3, I3, s12.trans s3, w3⟩, ok.rt⟩⟩

/-- the slot that is locked through a loop -/
abbrev Lk := Option Nat
def lckT (l : Bool) (i : Nat) (τ : TSt) : TSt := match τ[i]? with
  | some (some s) => τ.set i (some ⟨s.k, l, s.t⟩)
  | _ => τ
def lck (u : Lk) (τ : TSt) : TSt := match u with
  | none => τ
  | some i => lckT true i τ
/-- the flag as it was in τ1 -/
def unl (u : Lk) (τ1 τ2 : TSt) : TSt := match u with
  | none => τ2
  | some i => match τ1[i]? with
    | some (some s) => lckT s.l i τ2
    | _ => τ2
theorem lckT_get {l : Bool} {i j : Nat} {τ : TSt} {k : Kd} {b : Bool} {t : T} (h : (lckT l i τ)[j]? = some (some ⟨k, b, t⟩)) : ∃ b', τ[j]? = some (some ⟨k, b', t⟩) ∧ (j = i → b = l) ∧ (j ≠ i → b = b') := by
  unfold lckT at h
  split at h
  · rename_i s e
    rcases set_get h with ⟨hj, z, _⟩ | ⟨hj, z⟩
    · cases z; subst hj
      exact ⟨s.l, e, fun _ => rfl, fun n => absurd rfl n⟩
    · exact ⟨b, z, fun n => absurd n hj, fun _ => rfl⟩
  · rename_i ne
    refine ⟨b, h, fun e => ?_, fun _ => rfl⟩
    subst e
    exact absurd h (ne _)
theorem lckT_of {l : Bool} {i j : Nat} {τ : TSt} {k : Kd} {b : Bool} {t : T} (h : τ[j]? = some (some ⟨k, b, t⟩)) : (lckT l i τ)[j]? = some (some ⟨k, if j = i then l else b, t⟩) := by
  unfold lckT
  by_cases hj : j = i
  · subst hj
    rw [h, if_pos rfl]
    exact List.getElem?_set_self (List.getElem?_eq_some_iff.mp h).1
  · rw [if_neg hj]
    split
    · rw [List.getElem?_set_ne (Ne.symm hj)]; exact h
    · exact h
theorem lckT_len {l : Bool} {i : Nat} {τ : TSt} : (lckT l i τ).length = τ.length := by
  unfold lckT
  split
  · rw [List.length_set]
  · rfl
theorem lckT_owns {l : Bool} {i j : Nat} {σ : St} {τ : TSt} {k : Kd} {a : Addr} : Owns σ (lckT l i τ) j k a ↔ Owns σ τ j k a := by
  constructor
  · rintro ⟨b, t, h1, h2, h3⟩
    obtain ⟨b', h, _⟩ := lckT_get h1
    exact ⟨b', t, h, h2, h3⟩
  · rintro ⟨b, t, h1, h2, h3⟩
    exact ⟨_, t, lckT_of h1, h2, h3⟩
theorem lckT_wf {K : PySem.W.Frag} {F H : Hp} {σ : St} {τ : TSt} {l : Bool} {i : Nat} (w : WF K F H σ τ) : WF K F H σ (lckT l i τ) :=
  ⟨w.sub, lckT_len.trans w.len, fun j b t h => let ⟨b', h', _⟩ := lckT_get h; w.frz j b' t h', fun j k b t h hk => let ⟨b', h', _⟩ := lckT_get h; w.own j k b' t h' hk, fun i j k m a h1 h2 => w.sep i j k m a (lckT_owns.mp h1) (lckT_owns.mp h2)⟩
theorem lckT_inn {K : PySem.W.Frag} {B : Bs} {F H : Hp} {σ : St} {τ : TSt} {l : Bool} {i : Nat} (I : Inn K B F H σ τ) : Inn K B F H σ (lckT l i τ) :=
  ⟨lckT_wf I.wf, I.sub, I.new, I.fr, I.dom, fun i a h => I.ow i a (lckT_owns.mp h), fun i j a h => I.ar i j a (lckT_owns.mp h)⟩
theorem lck_inn {K : PySem.W.Frag} {B : Bs} {F H : Hp} {σ : St} {τ : TSt} {u : Lk} (I : Inn K B F H σ τ) : Inn K B F H σ (lck u τ) := by
  cases u with
  | none => exact I
  | some i => exact lckT_inn I
theorem unl_inn {K : PySem.W.Frag} {B : Bs} {F H : Hp} {σ : St} {τ1 τ : TSt} {u : Lk} (I : Inn K B F H σ τ) : Inn K B F H σ (unl u τ1 τ) := by
  cases u with
  | none => exact I
  | some i =>
    unfold unl
    simp only
    split
    · exact lckT_inn I
    · exact I
theorem lck_owns {j : Nat} {σ : St} {τ : TSt} {k : Kd} {a : Addr} {u : Lk} : Owns σ (lck u τ) j k a ↔ Owns σ τ j k a := by
  cases u with
  | none => exact Iff.rfl
  | some i => exact lckT_owns
theorem unl_owns {j : Nat} {σ : St} {τ1 τ : TSt} {k : Kd} {a : Addr} {u : Lk} : Owns σ (unl u τ1 τ) j k a ↔ Owns σ τ j k a := by
  cases u with
  | none => exact Iff.rfl
  | some i =>
    unfold unl
    simp only
    split
    · exact lckT_owns
    · exact Iff.rfl
theorem unl_ss {F F2 : Hp} {σ σ2 : St} {τ1 τ2 : TSt} {u : Lk} (s : SS F σ (lck u τ1) F2 σ2 τ2) : SS F σ τ1 F2 σ2 (unl u τ1 τ2) := by
  cases u with
  | none => exact s
  | some i =>
    refine ⟨s.sub, fun j k t h => ?_⟩
    have h' : (lck (some i) τ1)[j]? = some (some ⟨k, true, t⟩) := by
      have q := lckT_of (l := true) (i := i) h
      rw [ite_self] at q
      exact q
    obtain ⟨h2, e2⟩ := s.lock j k t h'
    refine ⟨?_, e2⟩
    unfold unl
    simp only
    split
    · rename_i s' es
      have q := lckT_of (l := s'.l) (i := i) h2
      rw [q]
      by_cases hj : j = i
      · subst hj
        rw [h] at es
        cases es
        simp
      · rw [if_neg hj]
    · exact h2
theorem unl_stp {F H F2 H2 : Hp} {σ : St} {τ1 τ2 : TSt} {u : Lk} (s : Stp F H σ (lck u τ1) F2 H2 τ2) : Stp F H σ τ1 F2 H2 (unl u τ1 τ2) where
  sub := s.sub
  new := fun a h => by
    rcases s.new a h with z | z | ⟨i, z⟩
    · exact .inl z
    · exact .inr (.inl z)
    · exact .inr (.inr ⟨i, lck_owns.mp z⟩)
  fr := fun a o h n => s.fr a o h fun i k q => n i k (lck_owns.mp q)
  dom := s.dom
  own := fun i k a h => lck_owns.mp (s.own i k a (unl_owns.mp h))
  slot := fun i x h => by
    have l1 : ∃ s', (lck u τ1)[i]? = some (some s') := by
      cases u with
      | none => exact ⟨x, h⟩
      | some j => exact ⟨_, lckT_of (k := x.k) (b := x.l) (t := x.t) h⟩
    obtain ⟨s', h'⟩ := l1
    obtain ⟨s2, h2⟩ := s.slot i s' h'
    cases u with
    | none => exact ⟨s2, h2⟩
    | some j =>
      unfold unl
      simp only
      split
      · exact ⟨_, lckT_of (k := s2.k) (b := s2.l) (t := s2.t) h2⟩
      · exact ⟨s2, h2⟩
  lock := fun i k t h => ((unl_ss s.ss).lock i k t h).1
abbrev TTI := TSt → (List T → Lk → TSt → Prop) → Prop
/-- the source stands through the loop, and yields these -/
structure SrcOk (K : PySem.W.Frag) (J : It) (ts : List T) (S : Hp → St → TSt → Prop) : Prop where
  keep : ∀ F σ τ F' σ' τ', S F σ τ → SS F σ τ F' σ' τ' → S F' σ' τ'
  go : ∀ i F H σ τ, S F σ τ → WF K F H σ τ → i < ts.length → J.go i H
  stop : ∀ F H σ τ, S F σ τ → WF K F H σ τ → J.stop ts.length H
  yld : ∀ i t F H σ τ x H', S F σ τ → WF K F H σ τ → ts[i]? = some t → J.yld i H x H' → ∃ F', Grow F H F' H' ∧ Rep K F' t x
def liftI (K : PySem.W.Frag) (B : Bs) (ti : TTI) : TI := fun σ H R => ∃ F τ P, Inn K B F H σ τ ∧ ti τ P ∧
  ∀ ts u τ1 F1 H1 J S, P ts u τ1 → Inn K B F1 H1 σ τ1 → Stp F H σ τ F1 H1 τ1 → SrcOk K J ts S → S F1 σ (lck u τ1) → R J H1
structure TPI (X : Cx) (B : Bs) (tg e : Expr) (ti : TTI) : Prop where
  pi : PI X tg e (liftI X.K B ti)
theorem PI.imp {tg e : Expr} {t u : TI} (h : PI X tg e t) (i : ∀ σ H R, u σ H R → t σ H R) : PI X tg e u := ⟨fun pins s σ H R I q => h.run pins s σ H R I (i σ H R q)⟩

def ttFor (ti : TTI) (g : TTG) (tb : TTS) : TTS := fun D τ => ti τ fun ts u τ1 => ∃ Pv : Nat → TSt → Prop, Pv 0 (lck u τ1) ∧
  (∀ i t τ2, ts[i]? = some t → Pv i τ2 → g t τ2 fun τ3 => tb { D with nx := Pv (i + 1), ct := Pv (i + 1), bk := fun τ4 => D.nx (unl u τ1 τ4) } τ3) ∧ ∀ τ2, Pv ts.length τ2 → D.nx (unl u τ1 τ2)
theorem tps_for {tg iter : Expr} {body : List Stmt} {ti : TTI} {g : TTG} {tb : TTS} {is : List Nat} (hp : PassesOwn (model X.prog X.w) X.A X.env X.xe) (hc : X.calm = true) (hi : TPI X B tg iter ti) (hg : TPG X B is tg g) (hb : TPSs X B body tb)
    (hs : ∀ x, foldedSetIterable iter X.env x = pure x := by intro _; rfl) : TPS X B (.For tg iter body [] pos) (ttFor ti g tb) := ⟨PS.imp (ps_for hp hc hi.pi hg.pg hb.pss hs) fun D σ H h => by
  obtain ⟨F, τ, TD, I, h, ok⟩ := h
  refine ⟨F, τ, _, I, h, fun ts u τ1 F1 H1 J S ⟨Pv, p0, turn, fin⟩ I1 s01 so s0 => ?_⟩
  refine ⟨fun i m σ2 H2 => m = ts.length - i ∧ i ≤ ts.length ∧ ∃ F2 τ2, Inn X.K B F2 H2 σ2 τ2 ∧ SS F1 σ (lck u τ1) F2 σ2 τ2 ∧ Pv i τ2, ⟨ts.length, by simp, Nat.zero_le _, F1, _, lck_inn I1, SS.refl, p0⟩, ?_⟩
  rintro i m σ2 H2 ⟨rfl, hi, F2, τ2, I2, s2, p2⟩
  have src := so.keep _ _ _ _ _ _ s0 s2
  by_cases hlt : i < ts.length
  · refine .inr ⟨so.go i F2 H2 σ2 τ2 src I2.wf hlt, fun σ3 H3 => ∃ F3 τ3, Inn X.K B F3 H3 σ3 τ3 ∧ SS F1 σ (lck u τ1) F3 σ3 τ3 ∧ Pv (i + 1) τ3, fun σ3 H3 ⟨F3, τ3, I3, s3, p3⟩ => ⟨ts.length - (i + 1), by omega, rfl, hlt, F3, τ3, I3, s3, p3⟩, fun x H3 y => ?_⟩
    have ht : ts[i]? = some ts[i] := List.getElem?_eq_getElem hlt
    obtain ⟨F3, gr, rep⟩ := so.yld i ts[i] F2 H2 σ2 τ2 x H3 src I2.wf ht y
    have I3 := I2.step (gr.wf I2.wf) gr.step
    have s3 : SS F1 σ (lck u τ1) F3 σ2 τ2 := s2.trans (gr.step (σ := σ2) (τ := τ2)).ss
    refine ⟨F3, τ2, ts[i], _, I3, rep, turn i _ τ2 ht p2, fun σ4 τ4 I4 s4 _ _ h4 => ?_⟩
    refine ⟨F3, τ4, _, I4, h4, ?_⟩
    have s14 := s3.trans s4
    exact ⟨fun F5 H5 σ5 τ5 I5 s5 p5 => ⟨F5, τ5, I5, s14.trans s5, p5⟩, fun F5 H5 σ5 τ5 I5 s5 h5 => ok.nx F5 H5 σ5 _ (unl_inn I5) (s01.ss.trans (unl_ss (s14.trans s5))) h5,
      fun F5 H5 σ5 τ5 I5 s5 p5 => ⟨F5, τ5, I5, s14.trans s5, p5⟩, ok.rt⟩
  · have e : i = ts.length := by omega
    subst e
    exact .inl ⟨so.stop F2 H2 σ2 τ2 src I2.wf, ok.nx F2 H2 σ2 _ (unl_inn I2) (s01.ss.trans (unl_ss s2)) (fin τ2 p2)⟩⟩
end
end TL

namespace TL
open PySem L2
section
variable {X : Cx} {B : Bs} {tg : Expr}
def iSeq3 (K : PySem.W.Frag) (te : TE) : TI := fun σ H R => te σ H fun x H1 => (∃ a xs, x = .ref a ∧ SqL K H1 a xs ∧ R (Itl K a) H1) ∨ (∃ a xs, x = .ref a ∧ SqT K H1 a xs ∧ R (Itt K a) H1) ∨ ∃ z, x = .str z ∧ R (Its z) H1
theorem pi_seq3 {l : Expr} {tl : TE} (hl : PE X l tl) : PI X tg l (iSeq3 X.K tl) := by
  refine ⟨fun pins s σ H R I h => ?_⟩
  refine thn (hl.run pins s σ H _ I h) fun v s1 ⟨x, H1, I1, r1, q1⟩ => ?_
  have sub : ∀ (te : TE), PE X l te → True := fun _ _ => trivial
  rcases q1 with ⟨a, xs, rfl, hq, q⟩ | ⟨a, xs, rfl, hq, q⟩ | ⟨z, rfl, q⟩
  · cases r1
    obtain ⟨its, rv, p, hz⟩ := I1.list hq
    refine PySem.wpAny_pyIter_list p.isList ?_
    refine ⟨s1.heap.objs.size, [s1.heap.objs.size], _, _, H1, rfl, I1.kept (t' := s1.toks) fun b o e => Heap.get?_push_of_some _ e, turn_list a _, ⟨_, Heap.get?_push_size _ rfl, rfl, rfl⟩, fun b hb => ?_, q⟩
    have e : b = s1.heap.objs.size := by simpa using hb
    subst e
    exact I1.fpOk (Nat.le_refl _) (I1.hok.fresh (Nat.le_refl _))
  · cases r1
    obtain ⟨its, rv, p, hz⟩ := I1.tuple hq
    refine PySem.wpAny_pyIter_tuple (show s1.heap.IsTuple a its.toArray from p) ?_
    refine ⟨s1.heap.objs.size, [s1.heap.objs.size], _, _, H1, rfl, I1.kept (t' := s1.toks) fun b o e => Heap.get?_push_of_some _ e, turn_tuple a _, ⟨_, Heap.get?_push_size _ rfl, rfl, rfl⟩, fun b hb => ?_, q⟩
    have e : b = s1.heap.objs.size := by simpa using hb
    subst e
    exact I1.fpOk (Nat.le_refl _) (I1.hok.fresh (Nat.le_refl _))
  · obtain ⟨t, rfl⟩ := r1
    cases ha : z.cps.all (· < 128)
    · exact PySem.wpAny_pyIter_wide ha (pi_one (tk := s1.toks) I1 _ (turn_str _ z t "str_iterator" (.inr rfl)) ⟨_, Heap.get?_push_size _ rfl, rfl, rfl⟩ q)
    · exact PySem.wpAny_pyIter_ascii ha (pi_one (tk := s1.toks) I1 _ (turn_str _ z t "str_ascii_iterator" (.inl rfl)) ⟨_, Heap.get?_push_size _ rfl, rfl, rfl⟩ q)
def signs (z : Str) : List T := z.cps.toList.map fun c => T.str ⟨#[c]⟩
def seqI (t : T) (P : List T → Prop) : Prop := match t with
  | .lst ts => P ts
  | .tup ts => P ts
  | .scr ns => P (ns.map T.int)
  | .str z => P (signs z)
  | _ => False
abbrev TTX := TSt → (T → Lk → TSt → Prop) → Prop
structure SrcV (K : PySem.W.Frag) (v : V) (t : T) (S : Hp → St → TSt → Prop) : Prop where
  keep : ∀ F σ τ F' σ' τ', S F σ τ → SS F σ τ F' σ' τ' → S F' σ' τ'
  rd : ∀ F H σ τ, S F σ τ → WF K F H σ τ → RdT K F H v t
def liftX (K : PySem.W.Frag) (B : Bs) (tx : TTX) : TE := fun σ H Q => ∃ F τ P, Inn K B F H σ τ ∧ tx τ P ∧
  ∀ t u τ1 F1 H1 v S, P t u τ1 → Inn K B F1 H1 σ τ1 → Stp F H σ τ F1 H1 τ1 → SrcV K v t S → S F1 σ (lck u τ1) → Q v H1
structure TPX (X : Cx) (B : Bs) (e : Expr) (tx : TTX) : Prop where
  pe : PE X e (liftX X.K B tx)
def sf (te : TTE) : TTX := fun τ P => te τ fun r τ1 => frzR r τ1 fun t τ2 => P t none τ2
def sl (i : Nat) : TTX := fun τ P => match τ[i]? with
  | some (some s) => P s.t (some i) τ
  | _ => False
theorem tpx_f {e : Expr} {te : TTE} (h : TPE X B e te) : TPX X B e (sf te) := ⟨PE.imp h.pe fun σ H Q q => by
  obtain ⟨F, τ, P, I, ht, hq⟩ := q
  refine lift.go I ht fun r τ1 F1 H1 v h1 I1 s1 r1 f1 => ?_
  obtain ⟨u, τ2, F2, hp, I2, s2, rep, _⟩ := freeze I I1 s1 r1 f1 h1
  exact hq u none τ2 F2 H1 v (fun F _ _ => Rep X.K F u v) hp I2 s2 ⟨fun F σ τ F' σ' τ' r s => Rep.mono s.sub _ _ r, fun F H σ τ r _ => .inl r⟩ rep⟩
theorem tpx_l (i : Nat) {x : Str} {pos : Pos} (hN : X.N[i]? = some x := by rfl) (hv : Vis X.env.scope x := by first | exact Or.inl rfl | exact Or.inr (Or.inl rfl) | exact Or.inr (Or.inr rfl)) (hd : (x == ("__debug__" : Str)) = false := by decide)
    (hcd : (x == ("__classdict__" : Str)) = false := by decide) : TPX X B (.Name x pos) (sl i) := ⟨PE.imp (tpe_v (B := B) i (pos := pos) hN hv hd hcd).pe fun σ H Q q => by
  obtain ⟨F, τ, P, I, ht, hq⟩ := q
  unfold sl at ht
  split at ht
  · rename_i s es
    refine lift.go I (P := fun r τ1 => r = .var i ∧ τ1 = τ) ⟨⟨s, es⟩, rfl, rfl⟩ fun r τ1 F1 H1 v ⟨er, et⟩ I1 s1 r1 f1 => ?_
    subst er et
    obtain ⟨hv, _⟩ := r1
    refine hq s.t (some i) τ1 F1 H1 v (fun F σ τ => σ[i]? = some (some v) ∧ ∃ k, τ[i]? = some (some ⟨k, true, s.t⟩)) ht I1 s1 ⟨fun F σ τ F' σ' τ' ⟨e, k, hk⟩ q => ?_, fun F H σ τ ⟨e, k, hk⟩ w => ?_⟩ ⟨hv, s.k, ?_⟩
    · obtain ⟨h1, h2⟩ := q.lock i k _ hk
      exact ⟨h2.trans e, k, h1⟩
    · have := RR.rd w (r := .var i) (v := v) ⟨e, _, hk⟩
      rwa [show R.t τ (.var i) = s.t by simp [R.t, slT, hk]] at this
    · have q := lckT_of (l := true) (i := i) (k := s.k) (b := s.l) (t := s.t) es
      rw [if_pos rfl] at q
      exact q
  · exact ht.elim⟩
/-- the same value walked -/
theorem SrcV.seq {K : PySem.W.Frag} {F H : Hp} {σ : St} {τ : TSt} {v : V} {t : T} {S : Hp → St → TSt → Prop} {P : List T → Prop} {R : It → Hp → Prop} (s : SrcV K v t S) (h0 : S F σ τ) (w : WF K F H σ τ) (h : seqI t P)
    (k : ∀ ts J, P ts → SrcOk K J ts S → R J H) : (∃ a xs, v = .ref a ∧ SqL K H a xs ∧ R (Itl K a) H) ∨ (∃ a xs, v = .ref a ∧ SqT K H a xs ∧ R (Itt K a) H) ∨ ∃ z, v = .str z ∧ R (Its z) H := by
  have rd0 := s.rd F H σ τ h0 w
  cases t with
  | lst ts =>
    obtain ⟨a, vs, rfl, hl, z, rp⟩ := rd0.lst w.sub
    have go : ∀ F H σ τ, S F σ τ → WF K F H σ τ → ∃ vs, SqL K H a vs ∧ Reps K F ts vs := fun F H σ τ h w => by
      obtain ⟨a', vs, e, hl, z, rp⟩ := (s.rd F H σ τ h w).lst w.sub
      cases e
      exact ⟨vs, SqL.of hl, rp⟩
    refine .inl ⟨a, vs, rfl, SqL.of hl, k ts _ h ⟨s.keep, fun i F H σ τ q w hi => ?_, fun F H σ τ q w => ?_, fun i t F H σ τ x H' q w ht y => ?_⟩⟩
    · obtain ⟨vs, hl, rp⟩ := go F H σ τ q w
      obtain ⟨v, e, _⟩ := rp.get (List.getElem?_eq_getElem hi)
      exact ⟨vs, v, hl, e⟩
    · obtain ⟨vs, hl, rp⟩ := go F H σ τ q w
      exact ⟨vs, hl, by rw [rp.len]; exact Nat.le_refl _⟩
    · obtain ⟨vs, hl, rp⟩ := go F H σ τ q w
      obtain ⟨e, y⟩ := y
      subst e
      obtain ⟨v, e, r⟩ := rp.get ht
      rw [y vs hl] at e
      cases e
      exact ⟨F, Grow.refl w.sub, r⟩
  | tup ts =>
    obtain ⟨a, vs, rfl, hl, z, rp⟩ := rd0.tup
    have go : ∀ F H σ τ, S F σ τ → WF K F H σ τ → ∃ vs, SqT K H a vs ∧ Reps K F ts vs := fun F H σ τ h w => by
      obtain ⟨a', vs, e, hl, z, rp⟩ := (s.rd F H σ τ h w).tup
      cases e
      exact ⟨vs, SqT.mono w.sub hl, rp⟩
    refine .inr (.inl ⟨a, vs, rfl, SqT.mono w.sub hl, k ts _ h ⟨s.keep, fun i F H σ τ q w hi => ?_, fun F H σ τ q w => ?_, fun i t F H σ τ x H' q w ht y => ?_⟩⟩)
    · obtain ⟨vs, hl, rp⟩ := go F H σ τ q w
      obtain ⟨v, e, _⟩ := rp.get (List.getElem?_eq_getElem hi)
      exact ⟨vs, v, hl, e⟩
    · obtain ⟨vs, hl, rp⟩ := go F H σ τ q w
      exact ⟨vs, hl, by rw [rp.len]; exact Nat.le_refl _⟩
    · obtain ⟨vs, hl, rp⟩ := go F H σ τ q w
      obtain ⟨e, y⟩ := y
      subst e
      obtain ⟨v, e, r⟩ := rp.get ht
      rw [y vs hl] at e
      cases e
      exact ⟨F, Grow.refl w.sub, r⟩
  | scr ns =>
    obtain ⟨a, rfl, hl, z⟩ := rd0.scr
    have go : ∀ F H σ τ, S F σ τ → WF K F H σ τ → SqL K H a (ns.map V.int) := fun F H σ τ h w => by
      obtain ⟨a', e, hl, z⟩ := (s.rd F H σ τ h w).scr
      cases e
      exact w.sub.seq hl
    refine .inl ⟨a, _, rfl, w.sub.seq hl, k (ns.map T.int) _ h ⟨s.keep, fun i F H σ τ q w hi => ?_, fun F H σ τ q w => ?_, fun i t F H σ τ x H' q w ht y => ?_⟩⟩
    · rw [List.length_map] at hi
      exact ⟨_, .int ns[i], go F H σ τ q w, by rw [List.getElem?_map, List.getElem?_eq_getElem hi]; rfl⟩
    · exact ⟨_, go F H σ τ q w, by rw [List.length_map, List.length_map]; exact Nat.le_refl _⟩
    · obtain ⟨e, y⟩ := y
      subst e
      have y := y _ (go F H' σ τ q w)
      rw [List.getElem?_map] at ht y
      cases e : ns[i]? with
      | none => rw [e] at ht; cases ht
      | some n =>
        rw [e] at ht y
        cases ht
        cases y
        exact ⟨F, Grow.refl w.sub, rfl⟩
  | str z =>
    have e := rd0.str
    subst e
    refine .inr (.inr ⟨z, rfl, k (signs z) _ h ⟨s.keep, fun i F H σ τ q w hi => ?_, fun F H σ τ q w => ?_, fun i t F H σ τ x H' q w ht y => ?_⟩⟩)
    · show i < z.cps.size
      simpa [signs] using hi
    · show z.cps.size ≤ (signs z).length
      simp [signs]
    · obtain ⟨e, c, hc, ex⟩ := y
      subst e ex
      refine ⟨F, Grow.refl w.sub, ?_⟩
      unfold signs at ht
      rw [List.getElem?_map, Array.getElem?_toList, hc] at ht
      cases ht
      exact rfl
  | _ => exact h.elim
/-- for x in e -/
def tiSeq (tx : TTX) : TTI := fun τ P => tx τ fun t u τ1 => seqI t fun ts => P ts u τ1
theorem tpi_seq {e : Expr} {tx : TTX} (h : TPX X B e tx) : TPI X B tg e (tiSeq tx) := ⟨PI.imp (pi_seq3 h.pe) fun σ H R q => by
  obtain ⟨F, τ, P, I, ht, hq⟩ := q
  exact ⟨F, τ, _, I, ht, fun t u τ1 F1 H1 v S h1 I1 s1 sv s0 => sv.seq s0 (lck_inn I1).wf h1 fun ts J hp so => hq ts u τ1 F1 H1 J S hp I1 s1 so s0⟩⟩
/-- range -/
def rngT (lo : Int) (n : Nat) : List T := (List.range n).map fun (k : Nat) => T.int (lo + k)
def tiRng1 (tl : TTL) : TTI := fun τ P => tl τ fun ts τ1 => match ts with
  | [.int j] => (-(2 ^ 62) ≤ j ∧ j < 2 ^ 62) ∧ P (rngT 0 j.toNat) none τ1
  | _ => False
def tiRng2 (tl : TTL) : TTI := fun τ P => tl τ fun ts τ1 => match ts with
  | [.int i, .int j] => (-(2 ^ 62) ≤ i ∧ i < 2 ^ 62 ∧ -(2 ^ 62) ≤ j ∧ j < 2 ^ 62) ∧ P (rngT i (j - i).toNat) none τ1
  | _ => False
theorem rng_ok {K : PySem.W.Frag} {lo : Int} {n : Nat} : SrcOk K (Itr lo n) (rngT lo n) (fun _ _ _ => True) := by
  have e : (rngT lo n).length = n := by simp [rngT]
  refine ⟨fun _ _ _ _ _ _ _ _ => trivial, fun i F H σ τ _ w hi => by rw [e] at hi; exact hi, fun F H σ τ _ w => by rw [e]; exact Nat.le_refl _, fun i t F H σ τ x H' _ w ht y => ?_⟩
  obtain ⟨e1, e2⟩ := y
  subst e1 e2
  refine ⟨F, Grow.refl w.sub, ?_⟩
  have hi : i < n := by
    have := (List.getElem?_eq_some_iff.mp ht).1
    rwa [e] at this
  unfold rngT at ht
  rw [List.getElem?_map, List.getElem?_range hi] at ht
  cases ht
  exact rfl
theorem tpi_rng1 {a : Expr} {tl : TTL} {p pos : Pos} (hg : Gl X "range") (hm : X.mg "range" = none) (ha : TPL X B [a] tl) (hs : starEach [a] X.env = [(false, eval a X.env)] := by rfl) : TPI X B tg (.Call (.Name "range" p) [a] [] pos) (tiRng1 tl) :=
  ⟨PI.imp (pi_range1 hg hm ha.pa hs) fun σ H R q => by
  obtain ⟨F, τ, P, I, ht, hq⟩ := q
  refine ⟨F, τ, _, I, ht, fun ts τ1 F1 H1 vs h1 I1 s1 r1 => ?_⟩
  match ts, h1 with
  | [.int j], ⟨⟨b1, b2⟩, hp⟩ =>
    obtain ⟨v, r, rfl, e1, e2⟩ := r1
    cases e1
    cases e2
    exact ⟨j, rfl, b1, b2, hq _ none τ1 F1 H1 _ _ hp I1 s1 rng_ok trivial⟩⟩
theorem tpi_rng2 {a b : Expr} {tl : TTL} {p pos : Pos} (hg : Gl X "range") (hm : X.mg "range" = none) (ha : TPL X B [a, b] tl) (hs : starEach [a, b] X.env = [(false, eval a X.env), (false, eval b X.env)] := by rfl) (hs2 : starEach [b] X.env = [(false, eval b X.env)] := by rfl) :
    TPI X B tg (.Call (.Name "range" p) [a, b] [] pos) (tiRng2 tl) :=
  ⟨PI.imp (pi_range2 hg hm ha.pa hs hs2) fun σ H R q => by
  obtain ⟨F, τ, P, I, ht, hq⟩ := q
  refine ⟨F, τ, _, I, ht, fun ts τ1 F1 H1 vs h1 I1 s1 r1 => ?_⟩
  match ts, h1 with
  | [.int i, .int j], ⟨hb, hp⟩ =>
    obtain ⟨v, r, rfl, e1, v2, r2, rfl, e2, e3⟩ := r1
    cases e1
    cases e2
    cases e3
    exact ⟨i, j, rfl, hb, hq _ none τ1 F1 H1 _ _ hp I1 s1 rng_ok trivial⟩⟩

def wipeT (τ : TSt) : List Nat → TSt
  | [] => τ
  | v :: vs => (wipeT τ vs).set v none
/-- the slots vs as they were in τ -/
def backT (τ : TSt) (τ' : TSt) : List Nat → TSt
  | [] => τ'
  | v :: vs => (backT τ τ' vs).set v ((τ[v]?).getD none)
def frzAt (τ : TSt) (v : Nat) : Prop := match τ[v]? with
  | some none => True
  | some (some ⟨.frz, false, _⟩) => True
  | _ => False
structure TPTs (X : Cx) (B : Bs) (es : List Expr) (t : TTT) : Prop where
  pts : PTs X es (liftT X.K B t)
theorem PTs.imp {es : List Expr} {t u : TT} (h : PTs X es t) (i : ∀ σ H Q, u σ H Q → t σ H Q) : PTs X es u := ⟨fun pins s σ H Q I q => h.run pins s σ H Q I (i σ H Q q)⟩
def ttYes : TTT := fun τ P => P true τ
theorem tpts_nil : TPTs X B [] ttYes := ⟨PTs.imp pts_nil fun σ H Q h => by
  obtain ⟨F, τ, P, I, h, q⟩ := h
  exact q true τ F H h I Stp.refl⟩
theorem tpts_one {c : Expr} {t : TTT} (h : TPT X B c t) : TPTs X B [c] t := ⟨pts_one h.pt⟩
def ttLc (ti : TTI) (g : TTG) (tt : TTT) (te : TTE) (vs : List Nat) : TTE := fun τ P => ti τ fun ts u τ1 => (∀ v ∈ vs, frzAt (lck u τ1) v) ∧ ∃ Pv : Nat → List T → TSt → Prop, Pv 0 [] (wipeT (lck u τ1) vs) ∧
  (∀ i t acc τ2, ts[i]? = some t → Pv i acc τ2 → g t τ2 fun τ3 => tt τ3 fun b τ4 =>
    if b = true then te τ4 fun r τ5 => frzR r τ5 fun y τ6 => acc.length < sizeLine ∧ Pv (i + 1) (acc ++ [y]) (wipeT τ6 vs) else Pv (i + 1) acc (wipeT τ4 vs)) ∧
  ∀ acc τ2, Pv ts.length acc τ2 → P (.val true (.lst acc)) (unl u τ1 (backT (lck u τ1) τ2 vs))
end
section
variable {K : PySem.W.Frag} {B : Bs} {F H : Hp} {σ : St} {τ : TSt}
theorem wipeT_len : ∀ vs : List Nat, (wipeT τ vs).length = τ.length
  | [] => rfl
  | v :: vs => by unfold wipeT; rw [List.length_set, wipeT_len vs]
theorem wipeT_get {i : Nat} {s : Sl} : ∀ {vs : List Nat}, (wipeT τ vs)[i]? = some (some s) → τ[i]? = some (some s) ∧ i ∉ vs
  | [], h => ⟨h, by simp⟩
  | v :: vs, h => by
    unfold wipeT at h
    rcases set_get h with ⟨_, z, _⟩ | ⟨hj, z⟩
    · cases z
    · obtain ⟨h1, h2⟩ := wipeT_get z
      exact ⟨h1, by simp [hj, h2]⟩
theorem wipeT_of {i : Nat} : ∀ {vs : List Nat}, i ∉ vs → (wipeT τ vs)[i]? = τ[i]?
  | [], _ => rfl
  | v :: vs, h => by
    simp only [List.mem_cons, not_or] at h
    unfold wipeT
    rw [List.getElem?_set_ne (Ne.symm h.1), wipeT_of h.2]
theorem wipe_of {i : Nat} : ∀ {vs : List Nat}, i ∉ vs → (wipe σ vs)[i]? = σ[i]?
  | [], _ => rfl
  | v :: vs, h => by
    simp only [List.mem_cons, not_or] at h
    unfold wipe
    rw [List.getElem?_set_ne (Ne.symm h.1), wipe_of h.2]
/-- a state whose slots in vs are forgotten -/
theorem wipe_inn {σ' : St} {vs : List Nat} (I : Inn K B F H σ τ) (hl : σ'.length = σ.length) (hs : ∀ j, j ∉ vs → σ'[j]? = σ[j]?) : Inn K B F H σ' (wipeT τ vs) := by
  have own' : ∀ (j : Nat) (k : Kd) (a : Addr), Owns σ' (wipeT τ vs) j k a → Owns σ τ j k a := fun j k a ⟨l, t, h1, h2, h3⟩ => by
    obtain ⟨h, hn⟩ := wipeT_get h1
    exact ⟨l, t, h, h2, by rw [← hs j hn]; exact h3⟩
  refine ⟨⟨I.wf.sub, by rw [wipeT_len, hl]; exact I.wf.len, fun i l t h => ?_, fun i k l t h hk => ?_, fun i j k l a h1 h2 => I.wf.sep i j k l a (own' _ _ _ h1) (own' _ _ _ h2)⟩, I.sub, I.new, I.fr, I.dom, fun i a h => I.ow i a (own' _ _ _ h), fun i j a h => I.ar i j a (own' _ _ _ h)⟩
  · obtain ⟨h, hn⟩ := wipeT_get h
    obtain ⟨v, e, r⟩ := I.wf.frz i l t h
    exact ⟨v, by rw [hs i hn]; exact e, r⟩
  · obtain ⟨h, hn⟩ := wipeT_get h
    obtain ⟨a, e, q⟩ := I.wf.own i k l t h hk
    exact ⟨a, by rw [hs i hn]; exact e, q⟩
theorem wipe_eq {σ σ' : St} : ∀ {vs : List Nat}, σ'.length = σ.length → (∀ j, j ∉ vs → σ'[j]? = σ[j]?) → wipe σ' vs = wipe σ vs := by
  intro vs hl hs
  apply List.ext_getElem?
  intro i
  by_cases hi : i ∈ vs
  · have lem : ∀ (σ : St) (vs : List Nat), i ∈ vs → (wipe σ vs)[i]? = if i < σ.length then some none else none := fun σ vs => by
      induction vs with
      | nil => intro h; cases h
      | cons v vs ih =>
        intro h
        unfold wipe
        by_cases hv : v = i
        · subst hv
          by_cases hl : v < σ.length
          · rw [if_pos hl, List.getElem?_set_self (by rw [wipe_length]; exact hl)]
          · rw [if_neg hl, List.getElem?_eq_none (by rw [List.length_set, wipe_length]; omega)]
        · rw [List.getElem?_set_ne hv]
          rcases List.mem_cons.mp h with z | z
          · exact absurd z.symm hv
          · exact ih z
    rw [lem σ' vs hi, lem σ vs hi, hl]
  · rw [wipe_of hi, wipe_of hi, hs i hi]
theorem backT_len {τ' : TSt} : ∀ vs : List Nat, (backT τ τ' vs).length = τ'.length
  | [] => rfl
  | v :: vs => by unfold backT; rw [List.length_set, backT_len vs]
theorem backT_get {τ' : TSt} {i : Nat} {s : Sl} : ∀ {vs : List Nat}, (backT τ τ' vs)[i]? = some (some s) → (i ∈ vs ∧ τ[i]? = some (some s)) ∨ (i ∉ vs ∧ τ'[i]? = some (some s))
  | [], h => .inr ⟨by simp, h⟩
  | v :: vs, h => by
    unfold backT at h
    rcases set_get h with ⟨hj, z, _⟩ | ⟨hj, z⟩
    · subst hj
      refine .inl ⟨by simp, ?_⟩
      cases e : τ[i]? with
      | none => rw [e] at z; cases z
      | some o => rw [e] at z; exact congrArg some z.symm
    · rcases backT_get z with ⟨h1, h2⟩ | ⟨h1, h2⟩
      · exact .inl ⟨by simp [h1], h2⟩
      · exact .inr ⟨by simp [hj, h1], h2⟩
theorem backT_of {τ' : TSt} {i : Nat} : ∀ {vs : List Nat}, i ∉ vs → (backT τ τ' vs)[i]? = τ'[i]?
  | [], _ => rfl
  | v :: vs, h => by
    simp only [List.mem_cons, not_or] at h
    unfold backT
    rw [List.getElem?_set_ne (Ne.symm h.1), backT_of h.2]
theorem backT_in {τ' : TSt} {i : Nat} {s : Sl} (hl : τ'.length = τ.length) : ∀ {vs : List Nat}, i ∈ vs → τ[i]? = some (some s) → (backT τ τ' vs)[i]? = some (some s)
  | v :: vs, h, e => by
    unfold backT
    by_cases hv : v = i
    · subst hv
      rw [List.getElem?_set_self (by rw [backT_len, hl]; exact (List.getElem?_eq_some_iff.mp e).1), e]
      rfl
    · rw [List.getElem?_set_ne hv]
      rcases List.mem_cons.mp h with z | z
      · exact absurd z.symm hv
      · exact backT_in hl z e
/-- behind the block: what was there is there again -/
theorem back_ok {F' H' : Hp} {τ' : TSt} {σw : St} {vs : List Nat} (I : Inn K B F H σ τ) (fz : ∀ v ∈ vs, frzAt τ v) (hl : σw.length = σ.length) (hs : ∀ j, j ∉ vs → σw[j]? = σ[j]?) (I' : Inn K B F' H' σw τ') (s : Stp F H σw (wipeT τ vs) F' H' τ') (hw : ∀ v ∈ vs, ∀ s, τ'[v]? ≠ some (some s)) :
    Inn K B F' H' σ (backT τ τ' vs) ∧ Stp F H σ τ F' H' (backT τ τ' vs) := by
  have fz' : ∀ i ∈ vs, ∀ s, τ[i]? = some (some s) → s.k = .frz ∧ s.l = false := fun i hi s h => by
    have q := fz i hi
    unfold frzAt at q
    obtain ⟨k, l, t⟩ := s
    rw [h] at q
    split at q
    · rename_i e; cases e
    · rename_i e; cases e; exact ⟨rfl, rfl⟩
    · exact q.elim
  have own' : ∀ (j : Nat) (k : Kd) (a : Addr), Owns σ (backT τ τ' vs) j k a → j ∉ vs ∧ Owns σw τ' j k a := fun j k a ⟨l, t, h1, h2, h3⟩ => by
    rcases backT_get h1 with ⟨hj, h⟩ | ⟨hj, h⟩
    · exact absurd (fz' j hj _ h).1 h2
    · exact ⟨hj, l, t, h, h2, by rw [hs j hj]; exact h3⟩
  have ownw : ∀ (j : Nat) (k : Kd) (a : Addr), Owns σw (wipeT τ vs) j k a → Owns σ τ j k a := fun j k a ⟨l, t, h1, h2, h3⟩ => by
    obtain ⟨h, hn⟩ := wipeT_get h1
    exact ⟨l, t, h, h2, by rw [← hs j hn]; exact h3⟩
  have hlen : τ'.length = τ.length := by rw [I'.wf.len, hl, I.wf.len]
  have w : WF K F' H' σ (backT τ τ' vs) := by
    refine ⟨I'.wf.sub, by rw [backT_len, hlen]; exact I.wf.len, fun i l t h => ?_, fun i k l t h hk => ?_, fun i j k l a h1 h2 => I'.wf.sep i j k l a (own' _ _ _ h1).2 (own' _ _ _ h2).2⟩
    · rcases backT_get h with ⟨hj, h⟩ | ⟨hj, h⟩
      · obtain ⟨v, e, r⟩ := I.wf.frz i l t h
        exact ⟨v, e, Rep.mono s.sub _ _ r⟩
      · obtain ⟨v, e, r⟩ := I'.wf.frz i l t h
        exact ⟨v, by rw [← hs i hj]; exact e, r⟩
    · rcases backT_get h with ⟨hj, h⟩ | ⟨hj, h⟩
      · exact absurd (fz' i hj _ h).1 hk
      · obtain ⟨a, e, q⟩ := I'.wf.own i k l t h hk
        exact ⟨a, by rw [← hs i hj]; exact e, q⟩
  have st : Stp F H σ τ F' H' (backT τ τ' vs) := by
    refine ⟨s.sub, fun a h => ?_, fun a o h n => s.fr a o h fun i k q => n i k (ownw i k a q), s.dom, fun i k a h => ownw i k a (s.own i k a (own' i k a h).2), fun i x h => ?_, fun i k t h => ?_⟩
    · rcases s.new a h with z | z | ⟨i, z⟩
      · exact .inl z
      · exact .inr (.inl z)
      · exact .inr (.inr ⟨i, ownw i _ a z⟩)
    · by_cases hi : i ∈ vs
      · exact ⟨x, backT_in hlen hi h⟩
      · obtain ⟨s', e⟩ := s.slot i x (by rw [wipeT_of hi]; exact h)
        exact ⟨s', by rw [backT_of hi]; exact e⟩
    · by_cases hi : i ∈ vs
      · exact absurd (fz' i hi _ h).2 (by simp)
      · have e := s.lock i k t (by rw [wipeT_of hi]; exact h)
        rw [backT_of hi]
        exact e
  exact ⟨I.step w st, st⟩
end
section
variable {X : Cx} {B : Bs}
/-- the list at D goes on -/
theorem grow_D {K : PySem.W.Frag} {F H : Hp} {σ : St} {τ : TSt} {D : Addr} {o : HO} (I : Inn K B F H σ τ) (nF : F D = none) (no : ∀ i k, ¬ Owns σ τ i k D) (nB : B.H D = none) (hd : H D ≠ none) : Inn K B F (upd H D o) σ τ := by
  refine ⟨⟨fun a u e => ?_, I.wf.len, I.wf.frz, fun i k l t h hk => ?_, I.wf.sep⟩, I.sub, I.new, fun a u e n => ?_, fun a h => ?_, I.ow, I.ar⟩
  · have ha : a ≠ D := fun z => by subst z; rw [nF] at e; cases e
    rw [upd_ne ha]
    exact I.wf.sub a u e
  · obtain ⟨a, e, n, q⟩ := I.wf.own i k l t h hk
    have ha : a ≠ D := fun z => no i k ⟨l, t, h, hk, by rw [← z]; exact e⟩
    exact ⟨a, e, n, q.mono (fun _ _ h => h) (upd_ne ha)⟩
  · have ha : a ≠ D := fun z => by subst z; rw [nB] at e; cases e
    rw [upd_ne ha]
    exact I.fr a u e n
  · by_cases ha : a = D
    · subst ha; rw [upd_same]; simp
    · rw [upd_ne ha]; exact I.dom a h
theorem lc_imp {ti : TTI} {g : TTG} {tt : TTT} {te : TTE} {vs is : List Nat} (hv : ∀ v ∈ is, v ∈ vs) (σ : St) (H : Hp) (Q : VK) (h : lift X.K B (ttLc ti g tt te vs) σ H Q) : tLc (liftI X.K B ti) (liftG X.K B is g) (liftT X.K B tt) (lift X.K B te) vs σ H Q := by
  obtain ⟨F, τ, P, I, h, hq⟩ := h
  refine ⟨F, τ, _, I, h, fun ts u τ1 F1 H1 J S h1 I1 s1 so s0 D nD => ?_⟩
  obtain ⟨fz, Pv, p0, turn, fin⟩ := h1
  have IL : Inn X.K B F1 H1 σ (lck u τ1) := lck_inn I1
  have nB : B.H D = none := by
    cases q : B.H D with
    | none => rfl
    | some o => exact absurd nD (I1.dom D (by rw [q]; simp))
  have fzk : ∀ v ∈ vs, ∀ s, (lck u τ1)[v]? = some (some s) → s.k = .frz ∧ s.l = false := fun i hi s h => by
    have q := fz i hi
    unfold frzAt at q
    obtain ⟨k, l, t⟩ := s
    rw [h] at q
    split at q
    · rename_i e; cases e
    · rename_i e; cases e; exact ⟨rfl, rfl⟩
    · exact q.elim
  have Iw : Inn X.K B F1 H1 (wipe σ vs) (wipeT (lck u τ1) vs) := wipe_inn IL (wipe_length σ vs) fun j hj => wipe_of hj
  have ssw : SS F1 σ (lck u τ1) F1 (wipe σ vs) (wipeT (lck u τ1) vs) := ⟨fun _ _ h => h, fun i k t h => by
    have hi : i ∉ vs := fun z => by have := (fzk i z _ h).2; cases this
    rw [wipeT_of hi, wipe_of hi]
    exact ⟨h, rfl⟩⟩
  have nFD1 : F1 D = none := I1.wf.sub.free nD
  have noD1 : ∀ i k, ¬ Owns (wipe σ vs) (wipeT (lck u τ1) vs) i k D := fun i k ⟨l, t, h1, h2, h3⟩ => by
    obtain ⟨a, e, _, o⟩ := Iw.wf.own i k l t h1 h2
    rw [h3] at e
    cases e
    obtain ⟨ob, ho⟩ := o.ex
    rw [nD] at ho
    cases ho
  have g0 : Grow F1 H1 F1 (upd H1 D (.lst [])) := Grow.own I1.wf.sub nD
  refine ⟨fun i m H2 => m = ts.length - i ∧ i ≤ ts.length ∧ ∃ F2 τ2 acc av, Inn X.K B F2 H2 (wipe σ vs) τ2 ∧ Stp F1 H1 (wipe σ vs) (wipeT (lck u τ1) vs) F2 H2 τ2 ∧ (∀ v ∈ vs, ∀ s, τ2[v]? ≠ some (some s)) ∧ F2 D = none ∧ H2 D = some (.lst av) ∧ av.length ≤ sizeLine ∧ Reps X.K F2 acc av ∧ Pv i acc τ2,
    ⟨ts.length, by simp, Nat.zero_le _, F1, _, [], [], Iw.step (g0.wf Iw.wf) g0.step, g0.step, fun v hv s e => (wipeT_get e).2 hv, nFD1, upd_same, Nat.zero_le _, rfl, p0⟩, ?_⟩
  rintro i m H2 ⟨rfl, hi, F2, τ2, acc, av, I2, s2, hw, nF, hD, hz, hr, p2⟩
  have src := so.keep _ _ _ _ _ _ s0 (ssw.trans s2.ss)
  have noD : ∀ i k, ¬ Owns (wipe σ vs) τ2 i k D := fun i k q => noD1 i k (s2.own i k D q)
  by_cases hlt : i < ts.length
  · refine .inr ⟨so.go i F2 H2 _ τ2 src I2.wf hlt, fun H3 => ∃ F2 τ2 acc av, Inn X.K B F2 H3 (wipe σ vs) τ2 ∧ Stp F1 H1 (wipe σ vs) (wipeT (lck u τ1) vs) F2 H3 τ2 ∧ (∀ v ∈ vs, ∀ s, τ2[v]? ≠ some (some s)) ∧ F2 D = none ∧ H3 D = some (.lst av) ∧ av.length ≤ sizeLine ∧ Reps X.K F2 acc av ∧ Pv (i + 1) acc τ2,
      fun H3 ⟨F2, τ2, acc, av, q⟩ => ⟨ts.length - (i + 1), by omega, rfl, hlt, F2, τ2, acc, av, q⟩, fun x H3 y => ?_⟩
    have ht : ts[i]? = some ts[i] := List.getElem?_eq_getElem hlt
    obtain ⟨F3, gr, rep⟩ := so.yld i ts[i] F2 H2 _ τ2 x H3 src I2.wf ht y
    have I3 := I2.step (gr.wf I2.wf) gr.step
    have s3 := s2.trans gr.step
    have nF3 : F3 D = none := by
      cases q : F3 D with
      | none => rfl
      | some o =>
        rcases gr.new D (by rw [q]; simp) with z | z
        · exact absurd nF z
        · rw [hD] at z; cases z
    have hD3 := gr.hp D _ hD
    refine ⟨F3, τ2, ts[i], _, I3, rep, turn i _ acc τ2 ht p2, fun σ4 τ4 I4 s4 n4 f4 h4 => ?_⟩
    have o4 : ∀ i k a, Owns σ4 τ4 i k a → Owns (wipe σ vs) τ2 i k a := fun i k a ⟨l, t, h1, h2, h3⟩ => by
      by_cases hi : i ∈ is
      · exact absurd (f4 i hi _ h1) h2
      · obtain ⟨e1, e2⟩ := n4.2 i hi
        exact ⟨l, t, by rw [← e2]; exact h1, h2, by rw [← e1]; exact h3⟩
    have e4 : ∀ j, j ∉ vs → σ4[j]? = σ[j]? := fun j hj => by
      rw [(n4.2 j fun z => hj (hv j z)).1, wipe_of hj]
    have l4 : σ4.length = σ.length := by rw [n4.1, wipe_length]
    have no4 : ∀ i k, ¬ Owns σ4 τ4 i k D := fun i k q => noD i k (o4 i k D q)
    -- from a state of the turn to the wiped one
    have wiped : ∀ {F6 H6 τ6}, Inn X.K B F6 H6 σ4 τ6 → Stp F3 H3 σ4 τ4 F6 H6 τ6 → Inn X.K B F6 H6 (wipe σ vs) (wipeT τ6 vs) ∧ Stp F1 H1 (wipe σ vs) (wipeT (lck u τ1) vs) F6 H6 (wipeT τ6 vs) ∧ F6 D = none ∧ H6 D = some (.lst av) ∧ Same F2 F6 ∧ ∀ i k, ¬ Owns (wipe σ vs) (wipeT τ6 vs) i k D := fun {F6 H6 τ6} I6 s6 => by
      have I6w : Inn X.K B F6 H6 (wipe σ vs) (wipeT τ6 vs) := wipe_inn I6 (by rw [wipe_length, l4]) fun j hj => by rw [wipe_of hj, e4 j hj]
      have nF6 : F6 D = none := by
        cases q : F6 D with
        | none => rfl
        | some o =>
          rcases s6.new D (by rw [q]; simp) with z | z | ⟨i, z⟩
          · exact absurd nF3 z
          · rw [hD3] at z; cases z
          · exact absurd z (no4 i _)
      have ow6 : ∀ i k a, Owns (wipe σ vs) (wipeT τ6 vs) i k a → Owns (wipe σ vs) τ2 i k a := fun i k a ⟨l, t, h1, h2, h3⟩ => by
        obtain ⟨h, hn⟩ := wipeT_get h1
        exact o4 i k a (s6.own i k a ⟨l, t, h, h2, by rw [e4 i hn, ← wipe_of hn]; exact h3⟩)
      refine ⟨I6w, s3.trans ⟨s6.sub, fun a h => ?_, fun a o h n => s6.fr a o h fun i k q => n i k (o4 i k a q), s6.dom, ow6, fun i x h => ?_, fun i k t h => ?_⟩, nF6, s6.fr D _ hD3 no4, gr.sub.trans s6.sub, fun i k q => noD i k (ow6 i k D q)⟩
      · rcases s6.new a h with z | z | ⟨i, z⟩
        · exact .inl z
        · exact .inr (.inl z)
        · exact .inr (.inr ⟨i, o4 i _ a z⟩)
      · have hi : i ∉ vs := fun z => hw i z x h
        obtain ⟨s', e⟩ := s6.slot i x (by rw [(n4.2 i fun z => hi (hv i z)).2]; exact h)
        exact ⟨s', by rw [wipeT_of hi]; exact e⟩
      · have hi : i ∉ vs := fun z => hw i z _ h
        rw [wipeT_of hi]
        exact s6.lock i k t (by rw [(n4.2 i fun z => hi (hv i z)).2]; exact h)
    refine ⟨wipe_eq l4 e4, F3, τ4, _, I4, h4, fun b τ5 F5 H5 h5 I5 s5 => ?_⟩
    cases b with
    | false =>
      rw [if_neg Bool.false_ne_true] at h5 ⊢
      obtain ⟨a1, a2, a3, a4, a5, _⟩ := wiped I5 s5
      exact ⟨F5, _, acc, av, a1, a2, fun v hv s e => (wipeT_get e).2 hv, a3, a4, hz, Reps.mono a5 _ _ hr, h5⟩
    | true =>
      rw [if_pos rfl] at h5 ⊢
      refine lift.go I5 h5 fun r τ6 F6 H6 v h6 I6 s6 r6 f6 => ?_
      obtain ⟨t, τ7, F7, ⟨hl7, p7⟩, I7, s7, rep7, _⟩ := freeze I5 I6 s6 r6 f6 h6
      obtain ⟨a1, a2, a3, a4, a5, a6⟩ := wiped I7 (s5.trans s7)
      have hav : acc.length = av.length := hr.len
      refine ⟨av, a4, by rw [← hav]; exact hl7, F7, _, acc ++ [t], av ++ [v], grow_D a1 a3 a6 nB (by rw [a4]; simp), ?_, fun v hv s e => (wipeT_get e).2 hv, a3, upd_same, ?_, Reps.append (Reps.mono a5 _ _ hr) ⟨v, [], rfl, rep7, rfl⟩, p7⟩
      · refine ⟨a2.sub, a2.new, fun a o h n => ?_, fun a h => ?_, a2.own, a2.slot, a2.lock⟩
        · have ha : a ≠ D := fun z => by subst z; rw [nD] at h; cases h
          rw [upd_ne ha]
          exact a2.fr a o h n
        · by_cases ha : a = D
          · subst ha; rw [upd_same]; simp
          · rw [upd_ne ha]; exact a2.dom a h
      · rw [List.length_append, List.length_singleton]
        omega
  · have e : i = ts.length := by omega
    subst e
    refine .inl ⟨so.stop F2 H2 _ τ2 src I2.wf, ?_⟩
    obtain ⟨b1, b2⟩ := back_ok IL fz (wipe_length σ vs) (fun j hj => wipe_of hj) I2 s2 hw
    have nob : ∀ i k, ¬ Owns σ (backT (lck u τ1) τ2 vs) i k D := fun i k q => by
      obtain ⟨a, e, _, o⟩ := b1.wf.own i k q.choose q.choose_spec.choose q.choose_spec.choose_spec.1 q.choose_spec.choose_spec.2.1
      rw [q.choose_spec.choose_spec.2.2] at e
      cases e
      have q1 := lck_owns.mp (b2.own i k D q)
      obtain ⟨l, t, h1, h2, h3⟩ := q1
      obtain ⟨a, e, _, o⟩ := I1.wf.own i k l t h1 h2
      rw [h3] at e
      cases e
      obtain ⟨ob, ho⟩ := o.ex
      rw [nD] at ho
      cases ho
    have b2' := unl_stp b2
    refine hq _ _ F2 H2 (.ref D) (fin acc τ2 p2) (unl_inn b1) (s1.trans b2') ⟨D, rfl, nF, ⟨av, hD, hz, hr⟩, fun i k q => nob i k (unl_owns.mp q)⟩ ⟨D, rfl, ?_⟩
    cases q : H D with
    | none => rfl
    | some o => exact absurd nD (s1.dom D (by rw [q]; simp))
theorem tpe_lc {elt tg iter : Expr} {ifs : List Expr} {scope : Scope} {own : List (Str × Nat)} {pos : Pos} {ti : TTI} {g : TTG} {tt : TTT} {te : TTE} {is : List Nat} (hc : X.calm = true) (hN : X.N.Nodup) (hi : TPI X B tg iter ti) (ok : BlkOk X.N X.env.scope scope own) (hv : ∀ v ∈ is, v ∈ own.map (·.2))
    (hg : ∀ (s : Shared) (H : Hp) (C : Addr) (cl : List (Str × Addr)) (fp : List Addr), TPG (X.blk s H scope (compEnvC scope cl C X.env) fp) B is tg g) (ht : ∀ (s : Shared) (H : Hp) (C : Addr) (cl : List (Str × Addr)) (fp : List Addr), TPTs (X.blk s H scope (compEnvC scope cl C X.env) fp) B ifs tt)
    (he : ∀ (s : Shared) (H : Hp) (C : Addr) (cl : List (Str × Addr)) (fp : List Addr), TPE (X.blk s H scope (compEnvC scope cl C X.env) fp) B elt te) (hs : ∀ x, foldedSetIterable iter X.env x = pure x := by intro _; rfl) :
    TPE X B (.ListComp elt [⟨tg, iter, ifs, 0⟩] scope pos) (ttLc ti g tt te (own.map (·.2))) :=
  ⟨PE.imp (pe_lc hc hN hi.pi ok (fun s H C cl fp => (hg s H C cl fp).pg) (fun s H C cl fp => (ht s H C cl fp).pts) (fun s H C cl fp => (he s H C cl fp).pe) hs) (lc_imp hv)⟩
theorem tps_setLc {i : Nat} {y : Str} {py : Pos} {elt tg iter : Expr} {ifs : List Expr} {scope : Scope} {own : List (Str × Nat)} {pos spos : Pos} {ti : TTI} {g : TTG} {tt : TTT} {te : TTE} {is : List Nat} (hc : X.calm = true) (hN : X.N.Nodup) (hy : X.N[i]? = some y) (hyl : X.env.scope.names.lookup y = some .local)
    (hsw : swapsWith (.ListComp elt [⟨tg, iter, ifs, 0⟩] scope pos) (some (.Name y py)) spos.line X.env = pure true) (hi : TPI X B tg iter ti) (ok : BlkOk X.N X.env.scope scope own) (hv : ∀ v ∈ is, v ∈ own.map (·.2))
    (hg : ∀ (s : Shared) (H : Hp) (C : Addr) (cl : List (Str × Addr)) (fp : List Addr), TPG (X.blk s H scope (compEnvC scope cl C X.env) fp) B is tg g) (ht : ∀ (s : Shared) (H : Hp) (C : Addr) (cl : List (Str × Addr)) (fp : List Addr), TPTs (X.blk s H scope (compEnvC scope cl C X.env) fp) B ifs tt)
    (he : ∀ (s : Shared) (H : Hp) (C : Addr) (cl : List (Str × Addr)) (fp : List Addr), TPE (X.blk s H scope (compEnvC scope cl C X.env) fp) B elt te) (hs : ∀ x, foldedSetIterable iter X.env x = pure x := by intro _; rfl) :
    TPS X B (.Assign [.Name y py] (.ListComp elt [⟨tg, iter, ifs, 0⟩] scope pos) spos) (ttSet i (ttLc ti g tt te (own.map (·.2)))) :=
  ⟨PS.imp (ps_setLc hc hN hy hyl hsw hi.pi ok (fun s H C cl fp => (hg s H C cl fp).pg) (fun s H C cl fp => (ht s H C cl fp).pts) (fun s H C cl fp => (he s H C cl fp).pe) hs) fun D σ H h => by
  obtain ⟨F, τ, TD, I, h, ok'⟩ := h
  refine lc_imp hv σ H _ (lift.go I h fun r τ1 F1 H1 v h1 I1 s1 r1 f1 => ?_)
  obtain ⟨F2, τ2, h2, I2, s2⟩ := stR.ok I I1 s1 r1 f1 h1
  exact ok'.nx F2 H1 _ τ2 I2 s2 h2⟩
end
end TL

namespace TL
open PySem L2

section
variable {X : Cx} {B : Bs}
def taNil : TTA := fun τ P => P [] τ
def taF (te : TTE) (ta : TTA) : TTA := fun τ P => te τ fun r τ1 => frzR r τ1 fun t τ2 => ta τ2 fun rs τ3 => P (.val false t :: rs) τ3
def taV (i : Nat) (ta : TTA) : TTA := fun τ P => (∃ s, τ[i]? = some (some s)) ∧ ta τ fun rs τ3 => P (.var i :: rs) τ3
theorem tpa_nil : TPA X B [] taNil := ⟨PA.imp pa_nil fun σ H Q h => by
  obtain ⟨F, τ, P, I, ht, hq⟩ := h
  exact hq _ _ _ _ _ ht I Stp.refl .nil⟩
theorem tpa_f {e : Expr} {es : List Expr} {te : TTE} {ta : TTA} (ha : TPE X B e te) (hr : TPA X B es ta) (hs : starEach (e :: es) X.env = (false, eval e X.env) :: starEach es X.env := by rfl) : TPA X B (e :: es) (taF te ta) := ⟨PA.imp (pa_cons ha.pe hr.pa hs) fun σ H Q h => by
  obtain ⟨F, τ, P, I, ht, hq⟩ := h
  refine lift.go I ht fun r τ1 F1 H1 v h1 I1 s1 r1 f1 => ?_
  obtain ⟨u, τ2, F2, hp, I2, s2, rep, _⟩ := freeze I I1 s1 r1 f1 h1
  refine ⟨F2, τ2, _, I2, hp, fun rs τ3 F3 H3 vs h3 I3 s3 r3 => ?_⟩
  exact hq _ _ _ _ _ h3 I3 (s2.trans s3) (.cons (r := .val false u) (Rep.mono s3.sub _ _ rep) (fun t z => by cases z) r3)⟩
theorem tpa_v (i : Nat) {x : Str} {pos : Pos} {es : List Expr} {ta : TTA} (hr : TPA X B es ta) (hN : X.N[i]? = some x := by rfl) (hv : Vis X.env.scope x := by first | exact Or.inl rfl | exact Or.inr (Or.inl rfl) | exact Or.inr (Or.inr rfl)) (hd : (x == ("__debug__" : Str)) = false := by decide)
    (hcd : (x == ("__classdict__" : Str)) = false := by decide) (hs : starEach (.Name x pos :: es) X.env = (false, eval (.Name x pos) X.env) :: starEach es X.env := by rfl) : TPA X B (.Name x pos :: es) (taV i ta) := ⟨PA.imp (pa_cons (tpe_v (B := B) i (pos := pos) hN hv hd hcd).pe hr.pa hs) fun σ H Q h => by
  obtain ⟨F, τ, P, I, ⟨hs, ht⟩, hq⟩ := h
  refine lift.go I (P := fun r τ1 => r = .var i ∧ τ1 = τ) ⟨hs, rfl, rfl⟩ fun r τ1 F1 H1 v ⟨er, et⟩ I1 s1 r1 f1 => ?_
  subst er et
  refine ⟨F1, τ1, _, I1, ht, fun rs τ3 F3 H3 vs h3 I3 s3 r3 => ?_⟩
  exact hq _ _ _ _ _ h3 I3 (s1.trans s3) (.cons (r := .var i) (RR.step s3 r1) (fun t z => by cases z) r3)⟩
end

/-- from the arguments: what is wanted of the result and of what the arguments are then; of what is raised -/
abbrev TSp := List Sl → (R → List T → Prop) → (String → List T → Prop) → Prop
def argA (as : List Sl) (vs : List V) : List (Option Addr) := List.zipWith (fun (s : Sl) (v : V) => match s.k, v with
  | .arg _, .ref a => some a
  | _, _ => none) as vs
structure AOk (K : PySem.W.Frag) (F H : Hp) (vs : List V) (as : List Sl) : Prop where
  sub : Same F H
  len : vs.length = as.length
  lk : ∀ (j : Nat) (s : Sl), as[j]? = some s → s.l = false
  fz : ∀ (j : Nat) (s : Sl) (v : V), as[j]? = some s → vs[j]? = some v → s.k = .frz → Rep K F s.t v
  ow : ∀ (j : Nat) (s : Sl) (v : V), as[j]? = some s → vs[j]? = some v → s.k ≠ .frz → s.k = .arg j ∧ ∃ a, v = .ref a ∧ F a = none ∧ OwnAt K F H a s.t
  sep : ∀ (i j : Nat) (a : Addr), (argA as vs)[i]? = some (some a) → (argA as vs)[j]? = some (some a) → i = j
/-- behind the call -/
structure COk (K : PySem.W.Frag) (F H : Hp) (args : List (Option Addr)) (F' H' : Hp) (ts : List T) : Prop where
  sub : Same F F'
  in_ : Same F' H'
  new : ∀ a, F' a ≠ none → F a ≠ none ∨ H a = none
  fr : ∀ a o, H a = some o → some a ∉ args → H' a = some o
  dom : ∀ a, H a ≠ none → H' a ≠ none
  ar : ∀ (j : Nat) (a : Addr), args[j]? = some (some a) → ∃ t, ts[j]? = some t ∧ F' a = none ∧ OwnAt K F' H' a t
def RC (K : PySem.W.Frag) (H F' H' : Hp) (v : V) : R → Prop
  | .val k t => RG K H F' H' v k t
  | .var _ => False
def liftSp (K : PySem.W.Frag) (cls : String → Addr) (S : TSp) : Sp := fun vs H Q E => ∃ F as PR PX, AOk K F H vs as ∧ S as PR PX ∧
  (∀ r ts F' H' v, PR r ts → COk K F H (argA as vs) F' H' ts → RC K H F' H' v r → Q v H') ∧
  (∀ c ts F' H', PX c ts → COk K F H (argA as vs) F' H' ts → E (.ref (cls c)) none H')

def mkA (τ : TSt) : Nat → List R → List Sl
  | _, [] => []
  | j, .val _ t :: rs => ⟨.frz, false, t⟩ :: mkA τ (j + 1) rs
  | j, .var i :: rs => (match τ[i]? with
    | some (some ⟨.frz, _, t⟩) => ⟨.frz, false, t⟩
    | some (some ⟨_, _, t⟩) => ⟨.arg j, false, t⟩
    | _ => ⟨.frz, false, .non⟩) :: mkA τ (j + 1) rs
def putB : List R → List T → TSt → (TSt → Prop) → Prop
  | .val _ _ :: rs, _ :: ts, τ, P => putB rs ts τ P
  | .var i :: rs, t :: ts, τ, P => (match τ[i]? with
    | some (some ⟨.frz, _, _⟩) => putB rs ts τ P
    | some (some ⟨k, false, _⟩) => putB rs ts (τ.set i (some ⟨k, false, t⟩)) P
    | some (some ⟨_, true, u⟩) => u = t ∧ putB rs ts τ P
    | _ => False)
  | [], _, τ, P => P τ
  | _ :: _, [], _, _ => False
/-- no name is handed in twice where it is owned -/
def varsOk : List R → Bool
  | [] => true
  | .val _ _ :: rs => varsOk rs
  | .var i :: rs => (rs.all fun r => match r with | .var j => !(i == j) | _ => true) && varsOk rs
abbrev callS (S : TSp) : TSp := S
def ttCall (S : TSp) (XT : String → TSt → Prop) (ta : TTA) : TTE := fun τ P => ta τ fun rs τ1 => varsOk rs = true ∧ callS S (mkA τ1 0 rs) (fun r ts => ts.length = rs.length ∧ putB rs ts τ1 fun τ2 => P r τ2) (fun c ts => ts.length = rs.length ∧ putB rs ts τ1 fun τ2 => XT c τ2)

section
variable {K : PySem.W.Frag} {B : Bs} {F H F' H' : Hp} {σ : St} {τ : TSt}
theorem varsOk_ne : ∀ {rs : List R} {i j m : Nat}, varsOk rs = true → rs[i]? = some (.var m) → rs[j]? = some (.var m) → i = j
  | .val _ _ :: rs, 0, j, m, h, h1, h2 => by cases h1
  | .val _ _ :: rs, i + 1, 0, m, h, h1, h2 => by cases h2
  | .val _ _ :: rs, i + 1, j + 1, m, h, h1, h2 => congrArg (· + 1) (varsOk_ne (rs := rs) h (by simpa using h1) (by simpa using h2))
  | .var n :: rs, 0, 0, m, h, h1, h2 => rfl
  | .var n :: rs, 0, j + 1, m, h, h1, h2 => by
    cases h1
    have h := (Bool.and_eq_true_iff.mp h).1
    have := List.all_eq_true.mp h (.var n) (List.mem_of_getElem? (by simpa using h2))
    simp at this
  | .var n :: rs, i + 1, 0, m, h, h1, h2 => by
    cases h2
    have h := (Bool.and_eq_true_iff.mp h).1
    have := List.all_eq_true.mp h (.var n) (List.mem_of_getElem? (by simpa using h1))
    simp at this
  | .var n :: rs, i + 1, j + 1, m, h, h1, h2 => congrArg (· + 1) (varsOk_ne (rs := rs) (Bool.and_eq_true_iff.mp h).2 (by simpa using h1) (by simpa using h2))
  | [], i, j, m, h, h1, h2 => by simp at h1
theorem RRs.len {vs : List V} : ∀ {rs : List R}, RRs K F H σ τ vs rs → vs.length = rs.length := fun h => by
  induction h with
  | nil => rfl
  | cons _ _ _ ih => rw [List.length_cons, List.length_cons, ih]
theorem RRs.get {vs : List V} {rs : List R} {i : Nat} {r : R} (h : RRs K F H σ τ vs rs) (e : rs[i]? = some r) : ∃ v, vs[i]? = some v ∧ RR K F H σ τ v r ∧ ∀ t, r ≠ .val true t := by
  induction h generalizing i with
  | nil => simp at e
  | cons h1 h2 _ ih =>
    cases i with
    | zero => simp at e; subst e; exact ⟨_, rfl, h1, h2⟩
    | succ i => simpa using ih (by simpa using e)
theorem mkA_len (τ : TSt) : ∀ (j : Nat) (rs : List R), (mkA τ j rs).length = rs.length
  | _, [] => rfl
  | j, .val _ _ :: rs => by simp [mkA, mkA_len τ (j + 1) rs]
  | j, .var _ :: rs => by simp [mkA, mkA_len τ (j + 1) rs]
theorem mkA_get {τ : TSt} : ∀ {rs : List R} {b i : Nat} {s : Sl}, (mkA τ b rs)[i]? = some s → (∃ k t, rs[i]? = some (.val k t) ∧ s = ⟨.frz, false, t⟩) ∨ ∃ m, rs[i]? = some (.var m) ∧ (((∃ l t, τ[m]? = some (some ⟨.frz, l, t⟩) ∧ s = ⟨.frz, false, t⟩) ∨ ∃ k l t, τ[m]? = some (some ⟨k, l, t⟩) ∧ k ≠ .frz ∧ s = ⟨.arg (b + i), false, t⟩) ∨ ∀ x, τ[m]? ≠ some (some x))
  | [], _, _, _, h => by simp [mkA] at h
  | .val k t :: rs, b, 0, s, h => by
    simp [mkA] at h
    exact .inl ⟨k, t, rfl, h.symm⟩
  | .val k t :: rs, b, i + 1, s, h => by
    have h' : (mkA τ (b + 1) rs)[i]? = some s := by simpa [mkA] using h
    have := mkA_get h'
    rw [show b + 1 + i = b + (i + 1) by omega] at this
    simpa using this
  | .var m :: rs, b, 0, s, h => by
    refine .inr ⟨m, rfl, ?_⟩
    simp only [mkA, List.getElem?_cons_zero, Option.some.injEq] at h
    split at h
    · rename_i l t e
      exact .inl (.inl ⟨l, t, e, h.symm⟩)
    · rename_i k l t ne e
      exact .inl (.inr ⟨k, l, t, e, ne, h.symm⟩)
    · rename_i n1 n2
      exact .inr fun ⟨k, l, t⟩ e => n2 k l t e
  | .var m :: rs, b, i + 1, s, h => by
    have h' : (mkA τ (b + 1) rs)[i]? = some s := by simpa [mkA] using h
    have := mkA_get h'
    rw [show b + 1 + i = b + (i + 1) by omega] at this
    simpa using this
theorem argA_get {as : List Sl} {vs : List V} {i : Nat} {a : Addr} (h : (argA as vs)[i]? = some (some a)) : ∃ s, as[i]? = some s ∧ s.k ≠ .frz ∧ vs[i]? = some (.ref a) := by
  unfold argA at h
  rw [List.getElem?_zipWith] at h
  cases e1 : as[i]? with
  | none => rw [e1] at h; simp at h
  | some s =>
    cases e2 : vs[i]? with
    | none => rw [e1, e2] at h; simp at h
    | some v =>
      rw [e1, e2] at h
      simp only [Option.some.injEq] at h
      split at h
      · rename_i j b ek
        cases h
        exact ⟨s, rfl, by rw [ek]; simp, rfl⟩
      · cases h
theorem argA_of {as : List Sl} {vs : List V} {i j : Nat} {a : Addr} {s : Sl} (h : as[i]? = some s) (hk : s.k = .arg j) (hv : vs[i]? = some (.ref a)) : (argA as vs)[i]? = some (some a) := by
  unfold argA
  rw [List.getElem?_zipWith, h, hv]
  simp only [hk]
/-- the arguments as the callee wants them -/
theorem call_args {vs : List V} {rs : List R} (w : WF K F H σ τ) (r : RRs K F H σ τ vs rs) (ok : varsOk rs = true) : AOk K F H vs (mkA τ 0 rs) ∧ ∀ (i : Nat) (a : Addr), (argA (mkA τ 0 rs) vs)[i]? = some (some a) → ∃ m k, rs[i]? = some (.var m) ∧ Owns σ τ m k a := by
  have key : ∀ (i : Nat) (a : Addr), (argA (mkA τ 0 rs) vs)[i]? = some (some a) → ∃ m k, rs[i]? = some (.var m) ∧ Owns σ τ m k a := fun i a h => by
    obtain ⟨s, hs, hk, hv⟩ := argA_get h
    rcases mkA_get hs with ⟨k, t, e, rfl⟩ | ⟨m, e, (⟨l, t, e2, rfl⟩ | ⟨k, l, t, e2, hk2, rfl⟩) | hn⟩
    · exact absurd rfl hk
    · exact absurd rfl hk
    · obtain ⟨v, hv', ⟨h1, _⟩, _⟩ := r.get e
      rw [hv] at hv'
      cases hv'
      exact ⟨m, k, e, l, t, e2, hk2, h1⟩
    · obtain ⟨v, hv', ⟨_, x, h1⟩, _⟩ := r.get e
      exact absurd h1 (hn x)
  refine ⟨⟨w.sub, by rw [mkA_len]; exact r.len, fun j s hs => ?_, fun j s v hs hv hk => ?_, fun j s v hs hv hk => ?_, fun i j a h1 h2 => ?_⟩, key⟩
  · rcases mkA_get hs with ⟨k, t, e, rfl⟩ | ⟨m, e, (⟨l, t, e2, rfl⟩ | ⟨k, l, t, e2, hk2, rfl⟩) | hn⟩
    · rfl
    · rfl
    · rfl
    · obtain ⟨v, hv', ⟨_, x, h1⟩, _⟩ := r.get e
      exact absurd h1 (hn x)
  · rcases mkA_get hs with ⟨k, t, e, rfl⟩ | ⟨m, e, (⟨l, t, e2, rfl⟩ | ⟨k, l, t, e2, hk2, rfl⟩) | hn⟩
    · obtain ⟨v', hv', h1, nt⟩ := r.get e
      rw [hv] at hv'
      cases hv'
      cases k with
      | false => exact h1
      | true => exact absurd rfl (nt t)
    · obtain ⟨v', hv', ⟨h1, _⟩, _⟩ := r.get e
      rw [hv] at hv'
      cases hv'
      obtain ⟨v', e3, rp⟩ := w.frz m l t e2
      rw [h1] at e3
      cases e3
      exact rp
    · cases hk
    · obtain ⟨v, hv', ⟨_, x, h1⟩, _⟩ := r.get e
      exact absurd h1 (hn x)
  · rcases mkA_get hs with ⟨k, t, e, rfl⟩ | ⟨m, e, (⟨l, t, e2, rfl⟩ | ⟨k, l, t, e2, hk2, rfl⟩) | hn⟩
    · exact absurd rfl hk
    · exact absurd rfl hk
    · obtain ⟨v', hv', ⟨h1, _⟩, _⟩ := r.get e
      rw [hv] at hv'
      cases hv'
      obtain ⟨a, e3, n, o⟩ := w.own m k l t e2 hk2
      rw [h1] at e3
      cases e3
      exact ⟨by simp, a, rfl, n, o⟩
    · obtain ⟨v, hv', ⟨_, x, h1⟩, _⟩ := r.get e
      exact absurd h1 (hn x)
  · obtain ⟨m, k, e1, o1⟩ := key i a h1
    obtain ⟨m', k', e2, o2⟩ := key j a h2
    have em := w.sep m m' k k' a o1 o2
    subst em
    exact varsOk_ne ok e1 e2
/-- what stands in the slots behind a call -/
structure PutOk (rs : List R) (ts : List T) (τ τ' : TSt) : Prop where
  len : τ'.length = τ.length
  old : ∀ (m : Nat) (s : Sl), τ'[m]? = some (some s) → ∃ u, τ[m]? = some (some ⟨s.k, s.l, u⟩) ∧ ((s.k ≠ .frz ∧ ∃ i : Nat, rs[i]? = some (.var m) ∧ ts[i]? = some s.t) ∨ (u = s.t ∧ (s.k = .frz ∨ ∀ i : Nat, rs[i]? ≠ some (.var m))))
  has : ∀ (m : Nat) (s : Sl), τ[m]? = some (some s) → ∃ u, τ'[m]? = some (some ⟨s.k, s.l, u⟩) ∧ (s.l = true → u = s.t)
theorem putB_ok : ∀ {rs : List R} {ts : List T} {τ : TSt} {P : TSt → Prop}, varsOk rs = true → putB rs ts τ P → ∃ τ', P τ' ∧ PutOk rs ts τ τ'
  | [], ts, τ, P, _, h => ⟨τ, h, rfl, fun m s e => ⟨s.t, e, .inr ⟨rfl, .inr fun i z => by simp at z⟩⟩, fun m s e => ⟨s.t, e, fun _ => rfl⟩⟩
  | .val _ _ :: rs, [], τ, P, ok, h => h.elim
  | .var _ :: rs, [], τ, P, ok, h => h.elim
  | .val k u :: rs, t :: ts, τ, P, ok, h => by
    obtain ⟨τ', hp, q⟩ := putB_ok (rs := rs) ok h
    refine ⟨τ', hp, q.len, fun m s e => ?_, q.has⟩
    obtain ⟨u', e1, c⟩ := q.old m s e
    refine ⟨u', e1, c.imp (fun ⟨hk, i, h1, h2⟩ => ⟨hk, i + 1, by simpa using h1, by simpa using h2⟩) fun ⟨h1, h2⟩ => ⟨h1, h2.imp id fun h2 i => ?_⟩⟩
    cases i with
    | zero => intro z; cases z
    | succ i => simpa using h2 i
  | .var n :: rs, t :: ts, τ, P, ok, h => by
    have ok' := (Bool.and_eq_true_iff.mp ok).2
    have nn : ∀ i : Nat, rs[i]? ≠ some (.var n) := fun i z => by
      have := varsOk_ne (rs := .var n :: rs) (i := 0) (j := i + 1) (m := n) ok rfl (by simpa using z)
      cases this
    unfold putB at h
    split at h
    · rename_i l u e
      obtain ⟨τ', hp, q⟩ := putB_ok (rs := rs) ok' h
      refine ⟨τ', hp, q.len, fun m s e1 => ?_, q.has⟩
      obtain ⟨u', e2, c⟩ := q.old m s e1
      refine ⟨u', e2, c.imp (fun ⟨hk, i, h1, h2⟩ => ⟨hk, i + 1, by simpa using h1, by simpa using h2⟩) fun ⟨h1, h2⟩ => ⟨h1, ?_⟩⟩
      by_cases hm : m = n
      · subst hm
        obtain ⟨k1, l1, t1⟩ := s
        rw [e] at e2
        cases e2
        exact .inl rfl
      · refine h2.imp id fun h2 i => ?_
        cases i with
        | zero => intro z; cases z; exact hm rfl
        | succ i => simpa using h2 i
    · rename_i k u ne e
      obtain ⟨τ', hp, q⟩ := putB_ok (rs := rs) ok' h
      have hl : n < τ.length := (List.getElem?_eq_some_iff.mp e).1
      have hkf : k ≠ .frz := ne
      refine ⟨τ', hp, by rw [q.len, List.length_set], fun m s e1 => ?_, fun m s e1 => ?_⟩
      · obtain ⟨u', e2, c⟩ := q.old m s e1
        rcases set_get e2 with ⟨hm, z, _⟩ | ⟨hm, z⟩
        · subst hm
          obtain ⟨k1, l1, t1⟩ := s
          cases z
          refine ⟨u, e, .inl ⟨hkf, 0, rfl, ?_⟩⟩
          rcases c with ⟨_, i, h1, _⟩ | ⟨h1, _⟩
          · exact absurd h1 (nn i)
          · rw [h1]; rfl
        · refine ⟨u', z, c.imp (fun ⟨hk, i, h1, h2⟩ => ⟨hk, i + 1, by simpa using h1, by simpa using h2⟩) fun ⟨h1, h2⟩ => ⟨h1, h2.imp id fun h2 i => ?_⟩⟩
          cases i with
          | zero => intro z; cases z; exact hm rfl
          | succ i => simpa using h2 i
      · by_cases hm : m = n
        · subst hm
          obtain ⟨k1, l1, t1⟩ := s
          rw [e] at e1
          cases e1
          obtain ⟨u', e2, _⟩ := q.has m ⟨k, false, t⟩ (List.getElem?_set_self hl)
          exact ⟨u', e2, fun z => by cases z⟩
        · exact q.has m s (by rw [List.getElem?_set_ne (Ne.symm hm)]; exact e1)
    · rename_i k u ne e
      have hkf : k ≠ .frz := ne
      obtain ⟨hu, h⟩ := h
      subst hu
      obtain ⟨τ', hp, q⟩ := putB_ok (rs := rs) ok' h
      refine ⟨τ', hp, q.len, fun m s e1 => ?_, q.has⟩
      obtain ⟨u', e2, c⟩ := q.old m s e1
      by_cases hm : m = n
      · subst hm
        obtain ⟨k1, l1, t1⟩ := s
        rw [e] at e2
        cases e2
        refine ⟨u, e, .inl ⟨hkf, 0, rfl, ?_⟩⟩
        rcases c with ⟨_, i, h1, _⟩ | ⟨h1, _⟩
        · exact absurd h1 (nn i)
        · rw [h1]; rfl
      · refine ⟨u', e2, c.imp (fun ⟨hk, i, h1, h2⟩ => ⟨hk, i + 1, by simpa using h1, by simpa using h2⟩) fun ⟨h1, h2⟩ => ⟨h1, h2.imp id fun h2 i => ?_⟩⟩
        cases i with
        | zero => intro z; cases z; exact hm rfl
        | succ i => simpa using h2 i
    · exact h.elim
/-- the state behind a call -/
theorem call_back {vs : List V} {rs : List R} {ts : List T} {τ' : TSt} (w : WF K F H σ τ) (r : RRs K F H σ τ vs rs) (ok : varsOk rs = true) (c : COk K F H (argA (mkA τ 0 rs) vs) F' H' ts) (p : PutOk rs ts τ τ') : WF K F' H' σ τ' ∧ Stp F H σ τ F' H' τ' := by
  obtain ⟨ao, key⟩ := call_args w r ok
  have own' : ∀ i k a, Owns σ τ' i k a → Owns σ τ i k a := fun i k a ⟨l, t, h1, h2, h3⟩ => by
    obtain ⟨u, e, _⟩ := p.old i _ h1
    exact ⟨l, u, e, h2, h3⟩
  refine ⟨⟨c.in_, by rw [p.len]; exact w.len, fun i l t h => ?_, fun i k l t h hk => ?_, fun i j k l a h1 h2 => w.sep i j k l a (own' _ _ _ h1) (own' _ _ _ h2)⟩, ⟨c.sub, fun a h => (c.new a h).imp id .inl, fun a o h n => c.fr a o h fun hm => ?_, c.dom, own', fun i s h => let ⟨u, e, _⟩ := p.has i s h; ⟨_, e⟩, fun i k t h => ?_⟩⟩
  · obtain ⟨u, e, q⟩ := p.old i _ h
    rcases q with ⟨hk, _⟩ | ⟨hu, _⟩
    · exact absurd rfl hk
    · subst hu
      obtain ⟨v, e2, rp⟩ := w.frz i l _ e
      exact ⟨v, e2, Rep.mono c.sub _ _ rp⟩
  · obtain ⟨u, e, q⟩ := p.old i _ h
    obtain ⟨a, ea, nF, o⟩ := w.own i k l u e hk
    refine ⟨a, ea, ?_⟩
    have oi : Owns σ τ i k a := ⟨l, u, e, hk, ea⟩
    rcases q with ⟨_, j, h1, h2⟩ | ⟨hu, hn⟩
    · -- handed in
      obtain ⟨v, hv, ⟨h3, _⟩, _⟩ := r.get h1
      have ev : v = .ref a := by rw [ea] at h3; cases h3; rfl
      subst ev
      have hs : ∃ s, (mkA τ 0 rs)[j]? = some s := by
        have : j < (mkA τ 0 rs).length := by rw [mkA_len]; exact (List.getElem?_eq_some_iff.mp h1).1
        exact ⟨_, List.getElem?_eq_getElem this⟩
      obtain ⟨s, hs⟩ := hs
      have hj : (argA (mkA τ 0 rs) vs)[j]? = some (some a) := by
        rcases mkA_get hs with ⟨k', t', e', rfl⟩ | ⟨m, e', (⟨l', t', e2, rfl⟩ | ⟨k', l', t', e2, hk2, rfl⟩) | hn⟩
        · rw [h1] at e'; cases e'
        · rw [h1] at e'
          cases e'
          rw [e] at e2
          cases e2
          exact absurd rfl hk
        · exact argA_of hs rfl hv
        · rw [h1] at e'
          cases e'
          exact absurd e (hn _)
      obtain ⟨t', e4, n4, o4⟩ := c.ar j a hj
      rw [h2] at e4
      cases e4
      exact ⟨n4, o4⟩
    · subst hu
      have hna : some a ∉ argA (mkA τ 0 rs) vs := fun hm => by
        obtain ⟨j, hj⟩ := List.mem_iff_getElem?.mp hm
        obtain ⟨m, k', e1, o1⟩ := key j a hj
        have := w.sep i m k k' a oi o1
        subst this
        rcases hn with hn | hn
        · exact hk hn
        · exact hn j e1
      obtain ⟨ob, ho⟩ := o.ex
      refine ⟨?_, o.mono c.sub ((c.fr a ob ho hna).trans ho.symm)⟩
      cases q : F' a with
      | none => rfl
      | some x =>
        rcases c.new a (by rw [q]; simp) with z | z
        · exact absurd nF z
        · rw [ho] at z; cases z
  · obtain ⟨j, hj⟩ := List.mem_iff_getElem?.mp hm
    obtain ⟨m, k', e1, o1⟩ := key j a hj
    exact n m k' o1
  · obtain ⟨u, e, q⟩ := p.has i _ h
    rw [q rfl] at e
    exact e
end

section
variable {X : Cx} {B : Bs} {CX : CXT} {k : Nat} {f : Addr} {fd : FuncData} {ps : List Str} {cls : String → Addr} {S : TSp} {XT : String → TSt → Prop} {ta : TTA} {E : XK} {x : Str} {p pos : Pos} {e : Expr} {es : List Expr}
theorem call_imp (hE : ∀ c F H σ τ, Inn X.K B F H σ τ → XT c τ → E (.ref (cls c)) none H) (σ : St) (H : Hp) (Q : VK) (h : lift X.K B (ttCall S XT ta) σ H Q) : tCall (liftSp X.K cls S) [] E (liftA X.K B ta) σ H Q := by
  obtain ⟨F, τ, P, I, h, hq⟩ := h
  refine ⟨F, τ, _, I, h, fun rs τ1 F1 H1 vs ⟨ok, h1⟩ I1 s1 r1 => ?_⟩
  obtain ⟨ao, key⟩ := call_args I1.wf r1 ok
  rw [List.append_nil]
  refine ⟨F1, mkA τ1 0 rs, _, _, ao, h1, fun r ts F' H' v ⟨hl, hp⟩ c rc => ?_, fun cn ts F' H' ⟨hl, hp⟩ c => ?_⟩
  · obtain ⟨τ2, hp2, po⟩ := putB_ok ok hp
    obtain ⟨w, st⟩ := call_back I1.wf r1 ok c po
    have I2 := I1.step w st
    cases r with
    | var i => exact rc.elim
    | val kk t =>
      refine hq _ _ F' H' v hp2 I2 (s1.trans st) ?_ ?_
      · cases kk with
        | false => exact rc
        | true =>
          obtain ⟨q, ev, n, nF, o⟩ := rc
          refine ⟨q, ev, nF, o, fun i k' z => ?_⟩
          obtain ⟨l, t', h1, h2, h3⟩ := st.own i k' q z
          obtain ⟨a, e4, _, o4⟩ := I1.wf.own i k' l t' h1 h2
          rw [h3] at e4
          cases e4
          obtain ⟨ob, ho⟩ := o4.ex
          rw [n] at ho
          cases ho
      · cases kk with
        | false => trivial
        | true =>
          obtain ⟨q, ev, n, nF, o⟩ := rc
          refine ⟨q, ev, ?_⟩
          cases z : H q with
          | none => rfl
          | some ob => exact absurd n (s1.dom q (by rw [z]; simp))
  · obtain ⟨τ2, hp2, po⟩ := putB_ok ok hp
    obtain ⟨w, st⟩ := call_back I1.wf r1 ok c po
    exact hE cn F' H' σ τ2 (I1.step w st) hp2
theorem tpe_call (F : FnOk X.prog X.w X.K X.mg X.base CX k f fd ps (liftSp X.K cls S)) (hr : Room k X.A) (hg : Gl X x) (hm : X.mg x = some (.ref f)) (hk : PySem.W.keepIn X.K (.ref f) = true) (hb : Binds X.K fd ps []) (hx : Passes CX X E)
    (hE : ∀ c F H σ τ, Inn X.K B F H σ τ → XT c τ → E (.ref (cls c)) none H) (ha : TPA X B (e :: es) ta) (hdb : (x == ("__debug__" : Str)) = false := by decide) (he : starEach (e :: es) X.env = (false, eval e X.env) :: starEach es X.env := by rfl) (hpl : (backTo pos (starEach es X.env)).any (·.1) = false := by rfl) :
    TPE X B (.Call (.Name x p) (e :: es) [] pos) (ttCall S XT ta) := ⟨PE.imp (pe_call F hr hg hm hk hb (dvs := []) .nil hx ha.pa hdb he hpl) (call_imp hE)⟩
end

/-- what the arguments are at the end -/
def keptN (τ : TSt) : Nat → List Sl → Prop
  | _, [] => True
  | j, s :: as => (match s.k with
    | .frz => True
    | _ => match τ[j]? with
      | some (some ⟨.arg m, _, _⟩) => m = j
      | _ => False) ∧ keptN τ (j + 1) as
def keptA (as : List Sl) (τ : TSt) : Prop := keptN τ 0 as
def outN (τ : TSt) : Nat → List Sl → List T
  | _, [] => []
  | j, _ :: as => slT τ j :: outN τ (j + 1) as
def outA (as : List Sl) (τ : TSt) : List T := outN τ 0 as
theorem keptN_get {τ : TSt} : ∀ {as : List Sl} {b j : Nat} {s : Sl}, keptN τ b as → as[j]? = some s → s.k ≠ .frz → ∃ t l, τ[b + j]? = some (some ⟨.arg (b + j), l, t⟩)
  | [], _, _, _, _, h, _ => by simp at h
  | x :: as, b, 0, s, h, e, hk => by
    simp at e
    subst e
    have h1 := h.1
    split at h1
    · rename_i e; exact absurd e hk
    · split at h1
      · rename_i m l t e
        subst h1
        exact ⟨t, l, e⟩
      · exact h1.elim
  | x :: as, b, j + 1, s, h, e, hk => by
    have := keptN_get (b := b + 1) (j := j) h.2 (by simpa using e) hk
    rwa [show b + 1 + j = b + (j + 1) by omega] at this
theorem outN_get {τ : TSt} : ∀ {as : List Sl} {b j : Nat}, j < as.length → (outN τ b as)[j]? = some (slT τ (b + j))
  | [], _, _, h => by simp at h
  | x :: as, b, 0, _ => rfl
  | x :: as, b, j + 1, h => by
    have := outN_get (τ := τ) (as := as) (b := b + 1) (j := j) (by simpa using h)
    rw [show b + 1 + j = b + (j + 1) by omega] at this
    simpa [outN] using this
def retR (r : R) (τ : TSt) (P : R → TSt → Prop) : Prop := match r with
  | .val k t => P (.val k t) τ
  | .var i => match τ[i]? with
    | some (some ⟨.frz, _, t⟩) => P (.val false t) τ
    | some (some ⟨.own, _, t⟩) => P (.val true t) τ
    | _ => False
def endsT (as : List Sl) (PR : R → List T → Prop) : TEnds where
  nx := fun τ => keptA as τ ∧ PR (.val false .non) (outA as τ)
  rt := fun r τ => retR r τ fun r' τ' => keptA as τ' ∧ PR r' (outA as τ')
def xtT (as : List Sl) (PX : String → List T → Prop) : String → TSt → Prop := fun c τ => keptA as τ ∧ PX c (outA as τ)
def startT (n : Nat) (as : List Sl) : TSt := as.map some ++ List.replicate (n - as.length) none
section
variable {K : PySem.W.Frag} {F H : Hp} {vs : List V} {as : List Sl}
theorem start_in {N : List Str} {ps : List Str} (ao : AOk K F H vs as) (hl : vs.length ≤ N.length) : Inn K ⟨F, H, argA as vs⟩ F H (L2.start N vs) (startT N.length as) := by
  have g : ∀ (i : Nat) (s : Sl), (startT N.length as)[i]? = some (some s) → as[i]? = some s := fun i s h => by
    unfold startT at h
    by_cases hi : i < as.length
    · rw [List.getElem?_append_left (by rw [List.length_map]; exact hi), List.getElem?_map] at h
      cases e : as[i]? with
      | none => rw [e] at h; cases h
      | some x => rw [e] at h; cases h; rfl
    · rw [List.getElem?_append_right (by rw [List.length_map]; omega), List.getElem?_replicate] at h
      split at h <;> cases h
  have gv : ∀ (i : Nat) (v : V), vs[i]? = some v → (L2.start N vs)[i]? = some (some v) := fun i v h => by
    unfold L2.start
    have hi : i < vs.length := (List.getElem?_eq_some_iff.mp h).1
    rw [List.getElem?_append_left (by rw [List.length_map]; exact hi), List.getElem?_map, h]
    rfl
  have hv : ∀ (i : Nat) (s : Sl), as[i]? = some s → ∃ v, vs[i]? = some v := fun i s h => by
    have hi : i < as.length := (List.getElem?_eq_some_iff.mp h).1
    exact ⟨_, List.getElem?_eq_getElem (by rw [ao.len]; exact hi)⟩
  have owns : ∀ i k a, Owns (L2.start N vs) (startT N.length as) i k a → k = .arg i ∧ (argA as vs)[i]? = some (some a) := fun i k a ⟨l, t, h1, h2, h3⟩ => by
    have hs := g i _ h1
    obtain ⟨v, ev⟩ := hv i _ hs
    rw [gv i v ev] at h3
    cases h3
    obtain ⟨hk, _⟩ := ao.ow i _ _ hs ev h2
    exact ⟨hk, argA_of hs hk ev⟩
  refine ⟨⟨ao.sub, ?_, fun i l t h => ?_, fun i k l t h hk => ?_, fun i j k l a h1 h2 => ao.sep i j a (owns _ _ _ h1).2 (owns _ _ _ h2).2⟩, fun _ _ h => h, fun _ h => .inl h, fun _ _ h _ => h, fun _ h => h, fun i a h => ?_, fun i j a h => ?_⟩
  · unfold startT L2.start
    simp [ao.len]
  · have hs := g i _ h
    obtain ⟨v, ev⟩ := hv i _ hs
    exact ⟨v, gv i v ev, ao.fz i _ v hs ev rfl⟩
  · have hs := g i _ h
    obtain ⟨v, ev⟩ := hv i _ hs
    obtain ⟨_, a, rfl, n, o⟩ := ao.ow i _ v hs ev hk
    exact ⟨a, gv i _ ev, n, o⟩
  · obtain ⟨e, _⟩ := owns _ _ _ h
    cases e
  · obtain ⟨e, h'⟩ := owns _ _ _ h
    cases e
    exact h'
theorem end_ok {F' H' : Hp} {σ : St} {τ : TSt} (ao : AOk K F H vs as) (I : Inn K ⟨F, H, argA as vs⟩ F' H' σ τ) (kp : keptA as τ) : COk K F H (argA as vs) F' H' (outA as τ) := by
  refine ⟨I.sub, I.wf.sub, I.new, I.fr, I.dom, fun j a h => ?_⟩
  obtain ⟨s, hs, hk, hv⟩ := argA_get h
  obtain ⟨t, l, ht⟩ := keptN_get kp hs hk
  rw [Nat.zero_add] at ht
  obtain ⟨a', e, n, o⟩ := I.wf.own j (.arg j) l t ht (by simp)
  have := I.ar j j a' ⟨l, t, ht, by simp, e⟩
  have e2 : a' = a := by
    have h' : (argA as vs)[j]? = some (some a') := this
    rw [h] at h'
    cases h'
    rfl
  subst e2
  have hj : j < as.length := (List.getElem?_eq_some_iff.mp hs).1
  refine ⟨slT τ j, ?_, n, ?_⟩
  · have := outN_get (τ := τ) (b := 0) hj
    rwa [Nat.zero_add] at this
  · rw [show slT τ j = t by simp [slT, ht]]
    exact o
theorem ret_ok {F' H' : Hp} {σ : St} {τ : TSt} {v : V} {r : R} {B : Bs} (I : Inn K B F' H' σ τ) (rr : RR K F' H' σ τ v r) (f : Fresh B.H v r) {P : R → TSt → Prop} (h : retR r τ P) : ∃ r', P r' τ ∧ RC K B.H F' H' v r' := by
  cases r with
  | val k t =>
    refine ⟨_, h, ?_⟩
    cases k with
    | false => exact rr
    | true =>
      obtain ⟨p, rfl, n, o, _⟩ := rr
      obtain ⟨p', e, nb⟩ := f
      cases e
      exact ⟨p, rfl, nb, n, o⟩
  | var i =>
    unfold retR at h
    obtain ⟨hv, s, hs⟩ := rr
    simp only at h
    split at h
    · rename_i l t e
      obtain ⟨v', e2, rp⟩ := I.wf.frz i l t e
      rw [hv] at e2
      cases e2
      exact ⟨_, h, rp⟩
    · rename_i l t e
      obtain ⟨a, e2, n, o⟩ := I.wf.own i .own l t e (by simp)
      rw [hv] at e2
      cases e2
      exact ⟨_, h, a, rfl, I.ow i a ⟨l, t, e, by simp, hv⟩, n, o⟩
    · exact h.elim
end
section
variable {P : Program} {w : World} {K : PySem.W.Frag} {mg : Str → Option Value} {base : Heap} {cls : String → Addr}
/-- the ends of a body, from what is wanted of its call -/
theorem ends_ok {N : List Str} {F H : Hp} {vs : List V} {as : List Sl} {Q : VK} {PR : R → List T → Prop} (ao : AOk K F H vs as) (hq : ∀ r ts F' H' v, PR r ts → COk K F H (argA as vs) F' H' ts → RC K H F' H' v r → Q v H') :
    EndsOk K ⟨F, H, argA as vs⟩ F (L2.start N vs) (startT N.length as) (endsT as PR) { nx := fun _ H' => Q .non H', rt := Q } :=
  ⟨fun F' H' σ τ I _ ⟨kp, h⟩ => hq _ _ F' H' .non h (end_ok ao I kp) rfl, fun _ _ _ _ _ _ h => h, fun _ _ _ _ _ _ h => h, fun F' H' σ τ r v I rr f h => by
    obtain ⟨r', ⟨kp, h⟩, rc⟩ := ret_ok (P := fun r' τ' => keptA as τ' ∧ PR r' (outA as τ')) I rr f h
    exact hq _ _ F' H' v h (end_ok ao I kp) rc⟩
/-- a def that raises nothing -/
theorem def0 {x qual : Str} {st : Stmt} {f : Addr} {fd : FuncData} {N ps : List Str} {k : Nat} {S : TSp} (Fn : Fun K x qual st f fd) (Sc : FnScope N ps (defScope st)) (hl : ∀ as PR PX, S as PR PX → as.length = ps.length) {t : TTS}
    (hb : ∀ (cdv : Value) (A : Around) (outer : List Env) (s : Shared) (H : Hp) (E : XK) (B : Bs), Room k (A.deeper (PyProof.Rows.envOfC qual (defScope st) s.heap.objs.size f cdv)) → TPSs (cxOf CX0 P w K mg base N qual (defScope st) f cdv A outer s H E).nox B (defBody st) t)
    (ht : ∀ as PR PX, S as PR PX → t (endsT as PR) (startT N.length as)) : FnOk P w K mg base CX0 (k + 1) f fd ps (liftSp K cls S) := by
  have hpl : ps.length ≤ N.length := by have := congrArg List.length Sc.pre; rw [List.length_take] at this; omega
  refine Fn.ok Sc (fun vs H Q E h => ?_) (fun cdv A outer s H vs Q E hr h => ?_)
  · obtain ⟨F, as, PR, PX, ao, hs, _⟩ := h
    rw [ao.len]
    exact hl as PR PX hs
  · obtain ⟨F, as, PR, PX, ao, hs, hq, _⟩ := h
    refine ⟨_, (hb cdv A outer s H E ⟨F, H, argA as vs⟩ hr).pss, F, startT N.length as, endsT as PR, start_in (ps := ps) ao (by rw [ao.len, hl as PR PX hs]; exact hpl), ht as PR PX hs, ends_ok ao hq⟩
/-- a def that may raise -/
theorem defX {x qual : Str} {st : Stmt} {f : Addr} {fd : FuncData} {N ps : List Str} {k : Nat} {S : TSp} (Fn : Fun K x qual st f fd) (Sc : FnScope N ps (defScope st)) (hl : ∀ as PR PX, S as PR PX → as.length = ps.length) {t : (String → TSt → Prop) → TTS}
    (hb : ∀ (cdv : Value) (A : Around) (outer : List Env) (s : Shared) (H : Hp) (E : XK) (B : Bs) (XT : String → TSt → Prop), Room k (A.deeper (PyProof.Rows.envOfC qual (defScope st) s.heap.objs.size f cdv)) → (∀ c F H σ τ, Inn K B F H σ τ → XT c τ → E (.ref (cls c)) none H) → TPSs (cxOf (L2.CX P w) P w K mg base N qual (defScope st) f cdv A outer s H E) B (defBody st) (t XT))
    (ht : ∀ as PR PX, S as PR PX → t (xtT as PX) (endsT as PR) (startT N.length as)) : FnOk P w K mg base (L2.CX P w) (k + 1) f fd ps (liftSp K cls S) := by
  have hpl : ps.length ≤ N.length := by have := congrArg List.length Sc.pre; rw [List.length_take] at this; omega
  refine Fn.okX Sc (fun vs H Q E h => ?_) (fun cdv A outer s H vs Q E hr h => ?_)
  · obtain ⟨F, as, PR, PX, ao, hs, _⟩ := h
    rw [ao.len]
    exact hl as PR PX hs
  · obtain ⟨F, as, PR, PX, ao, hs, hq, hx⟩ := h
    refine ⟨_, (hb cdv A outer s H E ⟨F, H, argA as vs⟩ (xtT as PX) hr fun c F' H' σ τ I ⟨kp, h⟩ => hx c _ F' H' h (end_ok ao I kp)).pss, F, startT N.length as, endsT as PR, start_in (ps := ps) ao (by rw [ao.len, hl as PR PX hs]; exact hpl), ht as PR PX hs, ends_ok ao hq⟩
end
end TL

namespace TL
open PySem L2

def addT : G2 := fun a b k => match a, b with
  | .int i, .int j => k false (.int (i + j))
  | .str x, .str y => x.length + y.length ≤ sizeLine ∧ k false (.str (x ++ y))
  | .lst xs, .lst ys => xs.length + ys.length ≤ sizeLine ∧ k true (.lst (xs ++ ys))
  | .tup xs, .tup ys => xs.length + ys.length ≤ sizeLine ∧ k false (.tup (xs ++ ys))
  | _, _ => False
def intT (C : Int → Int → Prop) (g : Int → Int → Int) : G2 := fun a b k => match a, b with
  | .int i, .int j => C i j ∧ k false (.int (g i j))
  | _, _ => False
def cmpT (g : Int → Int → Bool) : G2 := fun a b k => match a, b with
  | .int i, .int j => k false (.bl (g i j))
  | _, _ => False
def MulOk (i j : Int) : Prop := (-(2 ^ 64) < i ∧ i < 2 ^ 64) ∨ (-(2 ^ 64) < j ∧ j < 2 ^ 64) ∨ CMulX i j
def subT : G2 := intT (fun _ _ => True) fun i j => i - j
def mulT : G2 := fun a b k => match a, b with
  | .int i, .int j => MulOk i j ∧ k false (.int (i * j))
  | .lst xs, .int j => (-(2 ^ 63) ≤ j ∧ j < 2 ^ 63 ∧ xs.length * j.toNat ≤ sizeLine) ∧ k true (.lst (List.replicate j.toNat xs).flatten)
  | _, _ => False
def fdivT : G2 := intT (fun _ j => 0 < j ∧ j.natAbs.log2 < 9000) fun i j => i / j
def modT : G2 := intT (fun _ j => 0 < j) fun i j => i % j
def powT : G2 := intT (fun i j => 0 ≤ j ∧ j ≤ 1000000 ∧ i.natAbs < 2 ^ 64) fun i j => i ^ j.toNat
def shlT : G2 := intT (fun i j => 0 ≤ j ∧ j ≤ 1000000 ∧ i.natAbs < 2 ^ 64) fun i j => i * 2 ^ j.toNat
def ltT : G2 := cmpT fun i j => decide (i < j)
def leT : G2 := cmpT fun i j => decide (i ≤ j)
def gtT : G2 := cmpT fun i j => decide (j < i)
def geT : G2 := cmpT fun i j => decide (j ≤ i)
section
variable {X : Cx}
theorem opt_int {f : Value → Value → Sem Value} {C : Int → Int → Prop} {g : Int → Int → Int} (h : OpR X f (rI C fun i j => .int (g i j))) : OpT X f (intT C g) := by
  refine ⟨_, h, fun F H x y tx ty G Q s rx ry hg k => ?_⟩
  unfold intT at hg
  split at hg
  · exact ⟨_, _, rx.int, ry.int, hg.1, k false _ _ F H hg.2 (Grow.refl s) rfl⟩
  · exact hg.elim
theorem opt_cmp {f : Value → Value → Sem Value} {g : Int → Int → Bool} (h : OpR X f (rI0 fun i j => .bl (g i j))) : OpT X f (cmpT g) := by
  refine ⟨_, h, fun F H x y tx ty G Q s rx ry hg k => ?_⟩
  unfold cmpT at hg
  split at hg
  · exact ⟨_, _, rx.int, ry.int, k false _ _ F H hg (Grow.refl s) rfl⟩
  · exact hg.elim
theorem OpR.imp {f : Value → Value → Sem Value} {r r' : R2} (h : OpR X f r) (i : ∀ x y H Q, r' x y H Q → r x y H Q) : OpR X f r' := fun pins s σ H x y v u Q I rx ry q => h pins s σ H x y v u Q I rx ry (i x y H Q q)
theorem o_sub : OpT X (binaryOp .Sub) subT := opt_int (OpR.imp op_sub fun _ _ _ _ ⟨i, j, e, e', _, q⟩ => ⟨i, j, e, e', q⟩)
theorem o_fdiv : OpT X (binaryOp .FloorDiv) fdivT := opt_int op_fdivW
theorem o_mod : OpT X (binaryOp .Mod) modT := opt_int op_mod
theorem o_pow : OpT X (binaryOp .Pow) powT := opt_int op_pow
theorem o_lt : OpT X (compareOp .Lt) ltT := opt_cmp op_lt
theorem o_le : OpT X (compareOp .LtE) leT := opt_cmp op_le
theorem o_gt : OpT X (compareOp .Gt) gtT := opt_cmp op_gt
theorem o_ge : OpT X (compareOp .GtE) geT := opt_cmp op_ge
theorem o_mul : OpT X (binaryOp .Mult) mulT := by
  refine ⟨_, (op_mul (X := X)).or (op_mulX.or op_rep), fun F H x y tx ty G Q s rx ry hg k => ?_⟩
  unfold mulT at hg
  split at hg
  · obtain ⟨hc, hg⟩ := hg
    have e := k false _ _ F H hg (Grow.refl s) rfl
    rcases hc with hc | hc | hc
    · exact .inl ⟨_, _, rx.int, ry.int, .inl hc, e⟩
    · exact .inl ⟨_, _, rx.int, ry.int, .inr hc, e⟩
    · exact .inr (.inl ⟨_, _, rx.int, ry.int, hc, e⟩)
  · rename_i xs j
    obtain ⟨⟨h1, h2, h3⟩, hg⟩ := hg
    obtain ⟨a, vs, rfl, hl, z, r⟩ := rx.lst s
    refine .inr (.inr ⟨a, j, vs, rfl, ry.int, hl, h1, h2, by rw [← r.len]; exact h3, fun p np => ?_⟩)
    have rr : ∀ n, Reps X.K F (List.replicate n xs).flatten (List.replicate n vs).flatten := fun n => by
      induction n with
      | zero => exact rfl
      | succ n ih => rw [List.replicate_succ, List.replicate_succ, List.flatten_cons, List.flatten_cons]; exact Reps.append r ih
    refine k true _ _ F _ hg (Grow.own s np) ⟨p, rfl, np, s.free np, _, upd_same, ?_, rr _⟩
    rw [List.length_flatten, List.map_replicate, List.sum_replicate_nat, ← r.len, Nat.mul_comm]
    exact h3
  · exact hg.elim
theorem o_add : OpT X (binaryOp .Add) addT := by
  refine ⟨_, (op_add (X := X)).or (op_add_str.or (op_cat.or op_catA)), fun F H x y tx ty G Q s rx ry hg k => ?_⟩
  unfold addT at hg
  split at hg
  · exact .inl ⟨_, _, rx.int, ry.int, k false _ _ F H hg (Grow.refl s) rfl⟩
  · exact .inr (.inl ⟨_, _, rx.str, ry.str, hg.1, k false _ _ F H hg.2 (Grow.refl s) rfl⟩)
  · obtain ⟨a, xs, rfl, hl, z, r⟩ := rx.lst s
    obtain ⟨b, ys, rfl, hl2, z2, r2⟩ := ry.lst s
    have e : xs.length + ys.length ≤ sizeLine := by rw [← r.len, ← r2.len]; exact hg.1
    refine .inr (.inr (.inl ⟨a, b, xs, ys, rfl, rfl, hl, hl2, e, fun p np => ?_⟩))
    exact k true _ _ F _ hg.2 (Grow.own s np) ⟨p, rfl, np, s.free np, _, upd_same, by rw [List.length_append]; exact e, Reps.append r r2⟩
  · obtain ⟨a, xs, rfl, hl, z, r⟩ := rx.tup
    obtain ⟨b, ys, rfl, hl2, z2, r2⟩ := ry.tup
    have e : xs.length + ys.length ≤ sizeLine := by rw [← r.len, ← r2.len]; exact hg.1
    refine .inr (.inr (.inr ⟨a, b, xs, ys, rfl, rfl, SqT.mono s hl, SqT.mono s hl2, e, fun e0 => ?_, fun _ e1 => ?_, fun _ _ p np => ?_⟩))
    · exact k false _ _ F H hg.2 (Grow.refl s) ⟨b, xs ++ ys, rfl, by rw [e0]; exact hl2, by rw [List.length_append]; exact e, Reps.append r r2⟩
    · exact k false _ _ F H hg.2 (Grow.refl s) ⟨a, xs ++ ys, rfl, by rw [e1, List.append_nil]; exact hl, by rw [List.length_append]; exact e, Reps.append r r2⟩
    · exact k false _ _ _ _ hg.2 (Grow.frz s np) ⟨p, xs ++ ys, rfl, .inl (.inl upd_same), by rw [List.length_append]; exact e, Reps.mono (same_upd (s.free np)) _ _ (Reps.append r r2)⟩
  · exact hg.elim
end

mutual
def T.D : T → PyData
  | .non => .none
  | .bl b => .bool b
  | .int i => .int i
  | .str x => .str x
  | .tup ts => .tuple (T.Ds ts)
  | .lst ts => .list (T.Ds ts)
  | _ => .none
def T.Ds : List T → List PyData
  | [] => []
  | t :: ts => T.D t :: T.Ds ts
end
mutual
def T.plain : T → Bool
  | .non => true
  | .bl _ => true
  | .int _ => true
  | .str _ => true
  | .tup ts => T.plains ts
  | .lst ts => T.plains ts
  | _ => false
def T.plains : List T → Bool
  | [] => true
  | t :: ts => T.plain t && T.plains ts
end
section
variable {K : PySem.W.Frag} {F H : Hp}
mutual
theorem Rep.dp (s : Same F H) : ∀ (t : T) (v : V), t.plain = true → Rep K F t v → Dp K H v t.D
  | .non, _, _, h => by rw [show _ = V.non from h]; exact .non
  | .bl b, _, _, h => by rw [show _ = V.bl b from h]; exact .bl b
  | .int i, _, _, h => by rw [show _ = V.int i from h]; exact .int i
  | .str x, _, _, h => by rw [show _ = V.str x from h]; exact .str x
  | .tup ts, _, p, ⟨a, vs, e, q, z, r⟩ => by rw [e]; exact .tup (SqT.mono s q) (Reps.dp s ts vs p r)
  | .lst ts, _, p, ⟨a, vs, e, q, z, r⟩ => by rw [e]; exact .lst (SqL.of (s _ _ q)) (Reps.dp s ts vs p r)
  | .dct _ _, _, p, _ => by cases p
  | .scr _, _, p, _ => by cases p
  | .oth _, _, p, _ => by cases p
theorem Reps.dp (s : Same F H) : ∀ (ts : List T) (vs : List V), T.plains ts = true → Reps K F ts vs → DpAll K H vs (T.Ds ts)
  | [], _, _, h => by rw [show _ = [] from h]; exact .nil
  | t :: ts, _, p, ⟨v, r, e, h1, h2⟩ => by
    rw [e]
    have p' : (T.plain t && T.plains ts) = true := p
    have p2 := Bool.and_eq_true_iff.mp p'
    exact .cons (Rep.dp s t v p2.1 h1) (Reps.dp s ts r p2.2 h2)
end
theorem RdT.dp {t : T} {v : V} (s : Same F H) (p : t.plain = true) (h : RdT K F H v t) : Dp K H v t.D := by
  rcases h with h | ⟨a, e, n, o⟩
  · exact Rep.dp s t v p h
  · cases t with
    | lst ts =>
      obtain ⟨vs, hl, z, r⟩ := o
      subst e
      exact .lst (SqL.of hl) (Reps.dp s ts vs p r)
    | dct _ _ => cases p
    | bdt _ _ => cases p
    | obj _ _ => cases p
    | lat _ _ => cases p
    | _ => exact o.elim
end
def eqOk (t : T) : Bool := t.plain && SeqAt.shaped t.D
def T.eqv (a b : T) : Bool := PyData.eqv a.D b.D
def eqT : G2 := fun a b k => (eqOk a && eqOk b) = true ∧ k false (.bl (T.eqv a b))
def neT : G2 := fun a b k => (eqOk a && eqOk b) = true ∧ k false (.bl (!T.eqv a b))
section
variable {X : Cx}
theorem o_eq (hu : X.A.units + 64 < cLine) : OpT X (compareOp .Eq) eqT := by
  refine ⟨_, op_eqD hu, fun F H x y tx ty G Q s rx ry ⟨ok, hg⟩ k => ?_⟩
  obtain ⟨h1, h2⟩ := Bool.and_eq_true_iff.mp ok
  obtain ⟨a1, a2⟩ := Bool.and_eq_true_iff.mp h1
  obtain ⟨b1, b2⟩ := Bool.and_eq_true_iff.mp h2
  exact ⟨_, _, rx.dp s a1, ry.dp s b1, a2, b2, k false _ _ F H hg (Grow.refl s) rfl⟩
theorem o_ne (hu : X.A.units + 64 < cLine) : OpT X (compareOp .NotEq) neT := by
  refine ⟨_, op_neD hu, fun F H x y tx ty G Q s rx ry ⟨ok, hg⟩ k => ?_⟩
  obtain ⟨h1, h2⟩ := Bool.and_eq_true_iff.mp ok
  obtain ⟨a1, a2⟩ := Bool.and_eq_true_iff.mp h1
  obtain ⟨b1, b2⟩ := Bool.and_eq_true_iff.mp h2
  exact ⟨_, _, rx.dp s a1, ry.dp s b1, a2, b2, k false _ _ F H hg (Grow.refl s) rfl⟩
end

def isT (neg : Bool) : G2 := fun a b k => match a, b with
  | .bl i, .bl j => k false (.bl (neg != decide (i = j)))
  | .non, .non => k false (.bl (!neg))
  | .int _, .non => k false (.bl neg)
  | .bl _, .non => k false (.bl neg)
  | .str _, .non => k false (.bl neg)
  | .tup _, .non => k false (.bl neg)
  | .lst _, .non => k false (.bl neg)
  | _, _ => False
def nonB : T → Bool
  | .int _ => true
  | .bl _ => true
  | .str _ => true
  | .tup _ => true
  | .lst _ => true
  | _ => false
theorem RdT.nonN {K : PySem.W.Frag} {F H : Hp} {v : V} {t : T} (s : Same F H) (h : RdT K F H v t) (ne : nonB t = true) : v ≠ .non := by
  cases t with
  | int i => rw [h.int]; intro z; cases z
  | bl i => rw [h.bl]; intro z; cases z
  | str i => rw [h.str]; intro z; cases z
  | tup i => obtain ⟨a, _, e, _⟩ := h.tup; rw [e]; intro z; cases z
  | lst i => obtain ⟨a, _, e, _⟩ := h.lst s; rw [e]; intro z; cases z
  | _ => cases ne
theorem isT_cases {neg : Bool} {a b : T} {k : Bool → T → Prop} (h : isT neg a b k) : (∃ i j, a = .bl i ∧ b = .bl j ∧ k false (.bl (neg != decide (i = j)))) ∨ (a = .non ∧ b = .non ∧ k false (.bl (!neg))) ∨ (nonB a = true ∧ b = .non ∧ k false (.bl neg)) := by
  cases a <;> cases b <;> first | exact (False.elim h) | exact .inl ⟨_, _, rfl, rfl, h⟩ | exact .inr (.inl ⟨rfl, rfl, h⟩) | exact .inr (.inr ⟨rfl, rfl, h⟩)
section
variable {X : Cx}
theorem o_is : OpT X (compareOp .Is) (isT false) := by
  refine ⟨_, (op_isN (X := X)).or op_is_bl, fun F H x y tx ty G Q s rx ry hg k => ?_⟩
  rcases isT_cases hg with ⟨i, j, rfl, rfl, g⟩ | ⟨rfl, rfl, g⟩ | ⟨ne, rfl, g⟩
  · rw [Bool.false_bne] at g
    exact .inr ⟨_, _, rx.bl, ry.bl, k false _ _ F H g (Grow.refl s) rfl⟩
  · refine .inl ⟨ry.non, ?_⟩
    rw [rx.non]
    exact k false _ _ F H g (Grow.refl s) rfl
  · refine .inl ⟨ry.non, ?_⟩
    rw [decide_eq_false (rx.nonN s ne)]
    exact k false _ _ F H g (Grow.refl s) rfl
theorem o_isnot : OpT X (compareOp .IsNot) (isT true) := by
  refine ⟨_, (op_notN (X := X)).or op_isnot_bl, fun F H x y tx ty G Q s rx ry hg k => ?_⟩
  rcases isT_cases hg with ⟨i, j, rfl, rfl, g⟩ | ⟨rfl, rfl, g⟩ | ⟨ne, rfl, g⟩
  · rw [Bool.true_bne] at g
    exact .inr ⟨_, _, rx.bl, ry.bl, k false _ _ F H g (Grow.refl s) rfl⟩
  · refine .inl ⟨ry.non, ?_⟩
    rw [rx.non]
    exact k false _ _ F H g (Grow.refl s) rfl
  · refine .inl ⟨ry.non, ?_⟩
    rw [decide_eq_false (rx.nonN s ne)]
    exact k false _ _ F H g (Grow.refl s) rfl
end

def kMem (k : Key) (ks : List Key) : Bool := ks.any fun k' => decide (k' = k)
def keyT : T → Option Key
  | .int i => some (.inl i)
  | .str x => some (.inr x)
  | _ => none
def inT (neg : Bool) : G2 := fun a b k => match b with
  | .lst ts => (eqOk a && eqOk b) = true ∧ k false (.bl (neg != ts.any fun t => T.eqv t a))
  | .tup ts => (eqOk a && eqOk b) = true ∧ k false (.bl (neg != ts.any fun t => T.eqv t a))
  | .dct ks _ => match keyT a with
    | some key => k false (.bl (neg != kMem key ks))
    | none => False
  | .str z => match a with
    | .str ⟨c⟩ => match c.toList with
      | [n] => k false (.bl (neg != decide (n ∈ z.cps.toList)))
      | _ => False
    | _ => False
  | _ => False
theorem any_D (a : T) : ∀ ts : List T, (T.Ds ts).any (fun z => PyData.eqv z a.D) = ts.any fun t => T.eqv t a
  | [] => rfl
  | t :: ts => by
    show (PyData.eqv t.D a.D || (T.Ds ts).any _) = (T.eqv t a || ts.any _)
    rw [any_D a ts]
    rfl
section
variable {X : Cx}
def rInT (K : PySem.W.Frag) (neg : Bool) : R2 := fun x y H Q => ∃ d ds, Dp K H x d ∧ Dp K H y (.tuple ds) ∧ SeqAt.shaped d = true ∧ SeqAt.shaped (.tuple ds) = true ∧ Q (.bl (neg != ds.any fun z => PyData.eqv z d)) H
theorem op_inT (hu : X.A.units + 65 < cLine) : OpR X (compareOp .In) (rInT X.K false) := by
  intro pins s σ H x y v u Q I rx ry h
  obtain ⟨d, ds, hd, he, sd, se, q⟩ := h
  obtain ⟨as, r1⟩ := Dp.reads I d x v hd rx
  obtain ⟨bs, r2⟩ := Dp.reads I (.tuple ds) y u he ry
  rw [Bool.false_bne] at q
  exact SeqAt.in_tuple_reads r2 r1 (SeqAt.canLay_of_shaped se) (SeqAt.canLay_of_shaped sd) (PyProof.Rows.room_in_shaped sd hu) ⟨.bl _, H, I, rfl, q⟩
def rInDk (neg : Bool) : R2 := fun x y H Q => ∃ a kvs k, y = .ref a ∧ Rd H a (.dK kvs) ∧ x = kV k ∧ Q (.bl (neg != (valV kvs k).isSome)) H
theorem op_inDk (hu : X.A.units + 1 < cLine) : OpR X (compareOp .In) (rInDk false) := by
  intro pins s σ H x y v u Q I rx ry h
  obtain ⟨a, kvs, k, rfl, hr, rfl, q⟩ := h
  obtain rfl : u = Value.ref a := ry
  rw [Bool.false_bne] at q
  exact d_in hu I (.inl ⟨kvs, k, hr, rfl, rfl⟩) rx fun s3 I3 => ⟨.bl _, H, I3, rfl, q⟩
theorem valV_mem {kvs : List (Key × V)} {k : Key} : (valV kvs k).isSome = kMem k (kvs.map (·.1)) := by
  rw [← valV_any, kMem, List.any_map]
  rfl
theorem keyT_rep {K : PySem.W.Frag} {F H : Hp} {v : V} {t : T} {k : Key} (h : RdT K F H v t) (e : keyT t = some k) : v = kV k := by
  cases t with
  | int i => cases e; exact h.int
  | str i => cases e; exact h.str
  | _ => cases e
theorem in_gen {f : Value → Value → Sem Value} (neg : Bool) {rL rS : R2} (hL : OpR X f rL) (iL : ∀ x y H Q d ds, Dp X.K H x d → Dp X.K H y (.list ds) → SeqAt.shaped d = true → SeqAt.shaped (.list ds) = true → Q (.bl (neg != ds.any fun z => PyData.eqv z d)) H → rL x y H Q) (hT : OpR X f (rInT X.K neg)) (hD : OpR X f (rInDk neg))
    (hS : OpR X f rS) (iS : ∀ (c : Nat) (z : Str) H (Q : VK), Q (.bl (neg != decide (c ∈ z.cps.toList))) H → rS (.str ⟨#[c]⟩) (.str z) H Q) : OpT X f (inT neg) := by
  refine ⟨_, hL.or (hT.or (hD.or hS)), fun F H x y tx ty G Q s rx ry hg k => ?_⟩
  unfold inT at hg
  split at hg
  · obtain ⟨ok, hg⟩ := hg
    obtain ⟨h1, h2⟩ := Bool.and_eq_true_iff.mp ok
    obtain ⟨a1, a2⟩ := Bool.and_eq_true_iff.mp h1
    obtain ⟨b1, b2⟩ := Bool.and_eq_true_iff.mp h2
    refine .inl (iL x y H Q _ _ (rx.dp s a1) (ry.dp s b1) a2 b2 ?_)
    rw [any_D]
    exact k false _ _ F H hg (Grow.refl s) rfl
  · obtain ⟨ok, hg⟩ := hg
    obtain ⟨h1, h2⟩ := Bool.and_eq_true_iff.mp ok
    obtain ⟨a1, a2⟩ := Bool.and_eq_true_iff.mp h1
    obtain ⟨b1, b2⟩ := Bool.and_eq_true_iff.mp h2
    refine .inr (.inl ⟨_, _, rx.dp s a1, ry.dp s b1, a2, b2, ?_⟩)
    rw [any_D]
    exact k false _ _ F H hg (Grow.refl s) rfl
  · split at hg
    · rename_i key ek
      obtain ⟨a, kvs, rfl, hr, z, hk, r⟩ := ry.dct s
      refine .inr (.inr (.inl ⟨a, kvs, key, rfl, hr, keyT_rep rx ek, ?_⟩))
      rw [valV_mem, hk]
      exact k false _ _ F H hg (Grow.refl s) rfl
    · exact hg.elim
  · split at hg
    · rename_i z _ c
      split at hg
      · rename_i n en
        have ec : c = #[n] := Array.ext' en
        subst ec
        rw [rx.str, ry.str]
        exact .inr (.inr (.inr (iS n z H Q (k false _ _ F H hg (Grow.refl s) rfl))))
      · exact hg.elim
    · exact hg.elim
  · exact hg.elim
theorem o_in (hu : X.A.units + 65 < cLine) : OpT X (compareOp .In) (inT false) :=
  in_gen false (op_inD hu) (fun x y H Q d ds h1 h2 h3 h4 q => ⟨d, ds, h1, h2, h3, h4, by rw [Bool.false_bne] at q; exact q⟩) (op_inT hu) (op_inDk (by omega)) op_in_sign (fun c z H Q q => ⟨c, z, rfl, rfl, by rw [Bool.false_bne] at q; exact q⟩)
end
end TL

namespace TL
open PySem L2

def dGetT (ks : List Key) (ts : List T) (k : Key) : Option T := ((ks.zip ts).find? fun kv => decide (kv.1 = k)).map (·.2)
def dPutK (ks : List Key) (k : Key) : List Key := if kMem k ks = true then ks else ks ++ [k]
def dPutV (ks : List Key) (ts : List T) (k : Key) (v : T) : List T := if kMem k ks = true then List.zipWith (fun k' t => if k' = k then v else t) ks ts else ts ++ [v]
def ixT : T → T → (T → Prop) → Prop := fun a b k => match a, b with
  | .lst ts, .int i => ∃ t, atI ts i = some t ∧ k t
  | .tup ts, .int i => ∃ t, atI ts i = some t ∧ k t
  | .scr ns, .int i => ∃ n, atI ns i = some n ∧ k (.int n)
  | .str z, .int i => z.length ≤ sizeLine ∧ ∃ c, atI z.cps.toList i = some c ∧ k (.str ⟨#[c]⟩)
  | .dct ks ts, b => ∃ key t, keyT b = some key ∧ dGetT ks ts key = some t ∧ k t
  | _, _ => False
section
variable {K : PySem.W.Frag} {F H : Hp}
theorem Reps.at {ts : List T} {vs : List V} {i : Int} {t : T} (h : Reps K F ts vs) (e : atI ts i = some t) : ∃ v, atI vs i = some v ∧ Rep K F t v := by
  unfold atI at e ⊢
  rw [← h.len]
  cases q : ixN ts.length i with
  | none => rw [q] at e; cases e
  | some j =>
    rw [q] at e
    exact h.get (i := j) e
theorem atI_map {α β : Type} (f : α → β) (xs : List α) (i : Int) : atI (xs.map f) i = (atI xs i).map f := by
  unfold atI
  rw [List.length_map]
  cases ixN xs.length i with
  | none => rfl
  | some j => exact List.getElem?_map ..
theorem dGet_rep : ∀ {kvs : List (Key × V)} {ks : List Key} {ts : List T} {k : Key} {t : T}, kvs.map (·.1) = ks → Reps K F ts (kvs.map (·.2)) → dGetT ks ts k = some t → ∃ v, valV kvs k = some v ∧ Rep K F t v
  | [], _, _, _, _, rfl, h, e => by cases e
  | (k', v) :: r, _, [], _, _, rfl, h, e => by cases h
  | (k', v) :: r, _, t' :: ts, k, t, rfl, ⟨v', r', ev, h1, h2⟩, e => by
    cases ev
    by_cases hk : k' = k
    · have et : t' = t := by
        have : dGetT (k' :: r.map (·.1)) (t' :: ts) k = some t' := by simp [dGetT, hk]
        rw [List.map_cons] at e
        rw [this] at e
        exact Option.some.inj e
      subst et
      exact ⟨v, valV_pos (p := (k', v)) hk, h1⟩
    · have e2 : dGetT (r.map (·.1)) ts k = some t := by
        rw [List.map_cons] at e
        simpa [dGetT, List.zip_cons_cons, List.find?_cons, hk] using e
      obtain ⟨w, h3, h4⟩ := dGet_rep rfl h2 e2
      exact ⟨w, by rw [valV_neg (p := (k', v)) hk]; exact h3, h4⟩
theorem putK_ks (kvs : List (Key × V)) (k : Key) (v : V) : (putK kvs k v).map (·.1) = dPutK (kvs.map (·.1)) k := by
  unfold putK dPutK
  have e : (kvs.any fun kv => decide (kv.1 = k)) = kMem k (kvs.map (·.1)) := by rw [kMem, List.any_map]; rfl
  rw [e]
  by_cases h : kMem k (kvs.map (·.1)) = true
  · rw [if_pos h, if_pos h, List.map_map]
    apply List.map_congr_left
    intro a _
    simp only [Function.comp]
    split <;> rfl
  · rw [if_neg h, if_neg h, List.map_append]
    rfl
theorem putK_vs (k : Key) {t : T} {v : V} (ht : Rep K F t v) : ∀ {kvs : List (Key × V)} {ts : List T}, Reps K F ts (kvs.map (·.2)) → Reps K F (dPutV (kvs.map (·.1)) ts k t) ((putK kvs k v).map (·.2)) := by
  intro kvs ts h
  unfold putK dPutV
  have e : (kvs.any fun kv => decide (kv.1 = k)) = kMem k (kvs.map (·.1)) := by rw [kMem, List.any_map]; rfl
  rw [e]
  by_cases hm : kMem k (kvs.map (·.1)) = true
  · rw [if_pos hm, if_pos hm]
    clear hm e
    induction kvs generalizing ts with
    | nil => cases ts <;> first | exact rfl | (cases h)
    | cons p r ih =>
      cases ts with
      | nil => cases h
      | cons t' ts =>
        obtain ⟨v', r', ev, h1, h2⟩ := h
        cases ev
        simp only [List.map_cons, List.zipWith_cons_cons]
        refine ⟨_, _, rfl, ?_, ih h2⟩
        split
        · exact ht
        · exact h1
  · rw [if_neg hm, if_neg hm, List.map_append]
    exact Reps.append h ⟨v, [], rfl, ht, rfl⟩
end
section
variable {X : Cx} {B : Bs} {a b : Expr} {ta tb : TTE} {pos : Pos}
def rIxD : R2 := fun x y H Q => ∃ p kvs k v, x = .ref p ∧ Rd H p (.dK kvs) ∧ y = kV k ∧ valV kvs k = some v ∧ Q v H
theorem ix_dict (hu : X.A.units + 1 < cLine) : IxR X rIxD := by
  intro value slice pins s σ H x y v u Q I rx ry h hs
  obtain ⟨p, kvs, k, w, rfl, hr, rfl, hv, q⟩ := h
  cases rx
  have g : DGet H p (kV k) (some w) := .inl ⟨kvs, k, hr, rfl, hv.symm⟩
  exact PyProof.Rows.tail_any (dict_typeIs I g) PySem.F.slot_dict_getitem.lookup (d_getItem hu I g ry fun w' s3 I3 rw' => ⟨w, H, I3, rw', q⟩) hs
def ttIx (ta tb : TTE) : TTE := fun τ P => ta τ fun ra τ1 => tb τ1 fun rb τ2 => ixT (ra.t τ2) (rb.t τ2) fun t => P (.val false t) τ2
theorem tpe_ix (hu : X.A.units + 64 < cLine) (ha : TPE X B a ta) (hb : TPE X B b tb) (hs : PlainIx b) : TPE X B (.Subscript a b pos) (ttIx ta tb) := by
  refine ⟨PE.imp (pe_ix (ix_seq.or (ix_dict (by omega))) ha.pe hb.pe hs) fun σ H Q h => ?_⟩
  obtain ⟨F, τ, P, I, ht, hq⟩ := h
  refine lift.go I ht fun ra τ1 F1 H1 x h1 I1 s1 r1 f1 => ?_
  refine lift.go I1 h1 fun rb τ2 F2 H2 y h2 I2 s2 r2 f2 => ?_
  have rx := (r1.step s2).rd I2.wf
  have ry := r2.rd I2.wf
  have fin : ∀ t v, Rep X.K F2 t v → P (.val false t) τ2 → Q v H2 := fun t v r p => hq _ _ _ _ _ p I2 (s1.trans s2) r trivial
  generalize ra.t τ2 = tx at h2 rx
  generalize rb.t τ2 = ty at h2 ry
  have dcase : ∀ ks ts, tx = .dct ks ts → (∃ key t, keyT ty = some key ∧ dGetT ks ts key = some t ∧ P (.val false t) τ2) → rIxD x y H2 Q := fun ks ts e ⟨key, t, ek, eg, p⟩ => by
    subst e
    obtain ⟨a, kvs, rfl, hr, z, hk, r⟩ := rx.dct I2.wf.sub
    obtain ⟨v, hv, rp⟩ := dGet_rep hk r eg
    exact ⟨a, kvs, key, v, rfl, hr, keyT_rep ry ek, hv, fin t v rp p⟩
  cases tx with
  | lst ts =>
    cases ty with
    | int i =>
      obtain ⟨t, e, p⟩ := h2
      obtain ⟨a, vs, rfl, hl, z, r⟩ := rx.lst I2.wf.sub
      obtain ⟨v, ev, rp⟩ := r.at e
      exact .inl (.inl ⟨a, vs, i, v, rfl, ry.int, SqL.of hl, ev, fin t v rp p⟩)
    | _ => exact h2.elim
  | tup ts =>
    cases ty with
    | int i =>
      obtain ⟨t, e, p⟩ := h2
      obtain ⟨a, vs, rfl, hl, z, r⟩ := rx.tup
      obtain ⟨v, ev, rp⟩ := r.at e
      exact .inl (.inr (.inl ⟨a, vs, i, v, rfl, ry.int, SqT.mono I2.wf.sub hl, ev, fin t v rp p⟩))
    | _ => exact h2.elim
  | scr ns =>
    cases ty with
    | int i =>
      obtain ⟨n, e, p⟩ := h2
      obtain ⟨a, rfl, hl, z⟩ := rx.scr
      exact .inl (.inl ⟨a, _, i, .int n, rfl, ry.int, I2.wf.sub.seq hl, by rw [atI_map, e]; rfl, fin (.int n) (.int n) rfl p⟩)
    | _ => exact h2.elim
  | str z =>
    cases ty with
    | int i =>
      obtain ⟨hl, c, e, p⟩ := h2
      exact .inl (.inr (.inr ⟨z, i, c, rx.str, ry.int, hl, e, fin (.str ⟨#[c]⟩) _ rfl p⟩))
    | _ => exact h2.elim
  | dct ks ts => exact .inr (dcase ks ts rfl h2)
  | _ => exact h2.elim

def cutT (xs : List T) (lo hi : Option Int) : List T := (xs.drop (HT.sIx xs.length 0 lo)).take (HT.sIx xs.length xs.length hi - HT.sIx xs.length 0 lo)
def slT' (t : T) (lo hi : Option Int) (k : Bool → T → Prop) : Prop := match t with
  | .lst ts => k true (.lst (cutT ts lo hi))
  | .tup ts => k false (.tup (cutT ts lo hi))
  | .scr ns => k true (.lst (cutT (ns.map T.int) lo hi))
  | .str z => z.length ≤ sizeLine ∧ k false (.str (cutS z lo hi))
  | _ => False
abbrev TTO := TSt → (Option Int → TSt → Prop) → Prop
def liftO (K : PySem.W.Frag) (B : Bs) (t : TTO) : TO := fun σ H Q => ∃ F τ P, Inn K B F H σ τ ∧ t τ P ∧ ∀ o τ' F' H', P o τ' → Inn K B F' H' σ τ' → Stp F H σ τ F' H' τ' → Q o H'
structure TPO (X : Cx) (B : Bs) (o : Option Expr) (t : TTO) : Prop where
  po : PO X o (liftO X.K B t)
def toN : TTO := fun τ P => P none τ
def toS (te : TTE) : TTO := fun τ P => te τ fun r τ1 => match r.t τ1 with
  | .int i => P (some i) τ1
  | _ => False
theorem tpo_n : TPO X B none toN := ⟨⟨fun pins s σ H Q I h => by
  obtain ⟨F, τ, P, I', h, q⟩ := h
  exact po_none.run pins s σ H Q I (q none τ F H h I' Stp.refl)⟩⟩
theorem tpo_s {e : Expr} {te : TTE} (h : TPE X B e te) : TPO X B (some e) (toS te) := ⟨⟨fun pins s σ H Q I q => (po_some h.pe).run pins s σ H Q I (by
  obtain ⟨F, τ, P, I', ht, hq⟩ := q
  refine lift.go I' ht fun r τ1 F1 H1 v h1 I1 s1 r1 f1 => ?_
  have rd := r1.rd I1.wf
  generalize r.t τ1 = t at h1 rd
  cases t with
  | int i => exact ⟨i, rd.int, hq (some i) τ1 F1 H1 h1 I1 s1⟩
  | _ => exact h1.elim)⟩⟩
theorem cutT_rep {K : PySem.W.Frag} {F : Hp} {ts : List T} {vs : List V} (h : Reps K F ts vs) (lo hi : Option Int) : Reps K F (cutT ts lo hi) (cutV vs lo hi) := by
  unfold cutT cutV
  rw [h.len]
  exact Reps.take _ (Reps.drop _ h)
def ttSl (te : TTE) (tl th : TTO) : TTE := fun τ P => te τ fun r τ1 => tl τ1 fun lo τ2 => th τ2 fun hi τ3 => slT' (r.t τ3) lo hi fun k t => P (.val k t) τ3
theorem tpe_sl {lo hi : Option Expr} {te : TTE} {tl th : TTO} {e : Expr} {p2 : Pos} (he : TPE X B e te) (hl : TPO X B lo tl) (hu : TPO X B hi th) : TPE X B (.Subscript e (.Slice lo hi none p2) pos) (ttSl te tl th) := by
  refine ⟨PE.imp (pe_slice ((sl_list (X := X)).or (sl_tupA.or sl_str)) he.pe hl.po hu.po) fun σ H Q h => ?_⟩
  obtain ⟨F, τ, P, I, ht, hq⟩ := h
  refine lift.go I ht fun r τ1 F1 H1 x h1 I1 s1 r1 f1 => ?_
  refine ⟨F1, τ1, _, I1, h1, fun lo' τ2 F2 H2 h2 I2 s2 => ?_⟩
  refine ⟨F2, τ2, _, I2, h2, fun hi' τ3 F3 H3 h3 I3 s3 => ?_⟩
  have rx := (r1.step (s2.trans s3)).rd I3.wf
  have st := (s1.trans s2).trans s3
  have fin : ∀ k t v F' H', P (.val k t) τ3 → Grow F3 H3 F' H' → RG X.K H3 F' H' v k t → Q v H' := fun k t v F' H' p g rg => by
    obtain ⟨rr, fr⟩ := RG.rr I3.wf g rg
    exact hq _ _ _ _ _ p (I3.step (g.wf I3.wf) g.step) (st.trans g.step) rr (Fresh.step st fr)
  have sub := I3.wf.sub
  generalize r.t τ3 = tx at h3 rx
  cases tx with
  | lst ts =>
    obtain ⟨a, vs, rfl, hl, z, rp⟩ := rx.lst sub
    exact .inl ⟨a, vs, rfl, SqL.of hl, fun p np => fin true _ _ _ _ h3 (Grow.own sub np) ⟨p, rfl, np, sub.free np, _, upd_same, Nat.le_trans (cutV_length ..) z, cutT_rep rp _ _⟩⟩
  | scr ns =>
    obtain ⟨a, rfl, hl, z⟩ := rx.scr
    have rp : Reps X.K F3 (ns.map T.int) (ns.map V.int) := Reps.ints.mpr rfl
    exact .inl ⟨a, _, rfl, sub.seq hl, fun p np => fin true _ _ _ _ h3 (Grow.own sub np) ⟨p, rfl, np, sub.free np, _, upd_same, Nat.le_trans (cutV_length ..) (by rw [List.length_map]; exact z), cutT_rep rp _ _⟩⟩
  | tup ts =>
    obtain ⟨a, vs, rfl, hl, z, rp⟩ := rx.tup
    have e1 : ∀ (xs : List V), HT.sIx xs.length 0 lo' = 0 ∧ HT.sIx xs.length xs.length hi' = xs.length → cutV xs lo' hi' = xs := fun xs ⟨e1, e2⟩ => by
      unfold cutV
      rw [e1, e2, List.drop_zero, Nat.sub_zero, List.take_length]
    refine .inr (.inl ⟨a, vs, rfl, SqT.mono sub hl, fun e => ?_, fun _ p np => ?_⟩)
    · refine fin false _ _ _ _ h3 (Grow.refl sub) ⟨a, vs, rfl, hl, z, ?_⟩
      have := cutT_rep rp lo' hi'
      rw [e1 vs e] at this
      exact this
    · exact fin false _ _ _ _ h3 (Grow.frz sub np) ⟨p, _, rfl, .inl (.inl upd_same), Nat.le_trans (cutV_length ..) z, Reps.mono (same_upd (sub.free np)) _ _ (cutT_rep rp _ _)⟩
  | str z =>
    exact .inr (.inr ⟨z, rx.str, h3.1, fin false _ _ _ _ h3.2 (Grow.refl sub) rfl⟩)
  | _ => exact h3.elim
end

section
variable {K : PySem.W.Frag} {B : Bs} {F H : Hp} {σ : St} {τ : TSt}
theorem mut_ok {i : Nat} {k : Kd} {t t' : T} {a : Addr} {o : HO} (I : Inn K B F H σ τ) (hs : τ[i]? = some (some ⟨k, false, t⟩)) (hk : k ≠ .frz) (hv : σ[i]? = some (some (.ref a))) (new : OwnAt K F (upd H a o) a t') :
    Inn K B F (upd H a o) σ (τ.set i (some ⟨k, false, t'⟩)) ∧ Stp F H σ τ F (upd H a o) (τ.set i (some ⟨k, false, t'⟩)) := by
  have oi : Owns σ τ i k a := ⟨false, t, hs, hk, hv⟩
  have nF : F a = none := by
    obtain ⟨a', e, n, _⟩ := I.wf.own i k false t hs hk
    rw [hv] at e
    cases e
    exact n
  have hl : i < τ.length := (List.getElem?_eq_some_iff.mp hs).1
  have own' : ∀ (j : Nat) (m : Kd) (b : Addr), Owns σ (τ.set i (some ⟨k, false, t'⟩)) j m b → Owns σ τ j m b := fun j m b ⟨l, u, h1, h2, h3⟩ => by
    rcases set_get h1 with ⟨hj, z, _⟩ | ⟨_, z⟩
    · cases z; subst hj; exact ⟨false, t, hs, h2, h3⟩
    · exact ⟨l, u, z, h2, h3⟩
  have w : WF K F (upd H a o) σ (τ.set i (some ⟨k, false, t'⟩)) := by
    refine ⟨fun b u e => ?_, by rw [List.length_set]; exact I.wf.len, fun j l u h => ?_, fun j m l u h hm => ?_, fun i j k l a h1 h2 => I.wf.sep i j k l a (own' _ _ _ h1) (own' _ _ _ h2)⟩
    · have hb : b ≠ a := fun z => by subst z; rw [nF] at e; cases e
      rw [upd_ne hb]
      exact I.wf.sub b u e
    · rcases set_get h with ⟨_, z, _⟩ | ⟨_, z⟩
      · cases z; exact absurd rfl hk
      · exact I.wf.frz j l u z
    · rcases set_get h with ⟨hj, z, _⟩ | ⟨hj, z⟩
      · cases z; subst hj
        exact ⟨a, hv, nF, new⟩
      · obtain ⟨b, e, n, q⟩ := I.wf.own j m l u z hm
        have hb : b ≠ a := fun y => by
          subst y
          exact hj (I.wf.sep j i m k b ⟨l, u, z, hm, e⟩ oi)
        exact ⟨b, e, n, q.mono (fun _ _ h => h) (upd_ne hb)⟩
  have s : Stp F H σ τ F (upd H a o) (τ.set i (some ⟨k, false, t'⟩)) := by
    refine ⟨fun _ _ h => h, fun _ h => .inl h, fun b u e n => ?_, fun b h => ?_, own', fun j s h => ?_, fun j m u h => ?_⟩
    · have hb : b ≠ a := fun z => by subst z; exact n i k oi
      rw [upd_ne hb]
      exact e
    · by_cases hb : b = a
      · subst hb; rw [upd_same]; simp
      · rw [upd_ne hb]; exact h
    · by_cases hj : j = i
      · subst hj; exact ⟨_, List.getElem?_set_self hl⟩
      · exact ⟨s, by rw [List.getElem?_set_ne (Ne.symm hj)]; exact h⟩
    · have hj : j ≠ i := fun z => by subst z; rw [hs] at h; cases h
      rw [List.getElem?_set_ne (Ne.symm hj)]
      exact h
  exact ⟨I.step w s, s⟩
end
/-- what a changing method does: the object, the arguments, then the new object and the answer -/
abbrev MG := T → List T → (T → T → Prop) → Prop
def mutS (τ : TSt) (i : Nat) (ts : List T) (g : MG) (P : R → TSt → Prop) : Prop := match τ[i]? with
  | some (some ⟨.own, false, t⟩) => g t ts fun t' u => P (.val false u) (τ.set i (some ⟨.own, false, t'⟩))
  | some (some ⟨.arg j, false, t⟩) => g t ts fun t' u => P (.val false u) (τ.set i (some ⟨.arg j, false, t'⟩))
  | _ => False
theorem mutS.inv {τ : TSt} {i : Nat} {ts : List T} {g : MG} {P : R → TSt → Prop} (h : mutS τ i ts g P) : ∃ k t, τ[i]? = some (some ⟨k, false, t⟩) ∧ k ≠ .frz ∧ g t ts fun t' u => P (.val false u) (τ.set i (some ⟨k, false, t'⟩)) := by
  unfold mutS at h
  split at h
  · rename_i t e
    exact ⟨.own, t, e, by simp, h⟩
  · rename_i j t e
    exact ⟨.arg j, t, e, by simp, h⟩
  · exact h.elim
/-- a method of a name's own object; the object's type is asked ahead of the arguments -/
def ttMut (isL : Bool) (i : Nat) (tl : TTL) (g : MG) : TTE := fun τ P => (match slT τ i with
  | .lst _ => isL = true
  | .dct _ _ => isL = false
  | _ => False) ∧ (∃ s, τ[i]? = some (some s)) ∧ tl τ fun ts τ1 => mutS τ1 i ts g P
/-- the rule of a list's method -/
def MutR (X : Cx) (id : String) (g : MG) : Prop := ∃ r : V → List V → Hp → VK → Prop, MtR X id r ∧ ∀ (F H : Hp) (a : Addr) (vs : List V) (t : T) (ts : List T) (G : T → T → Prop) (Q : VK), Same F H → OwnAt X.K F H a t → Reps X.K F ts vs → g t ts G →
  (∀ t' u o v, G t' u → OwnAt X.K F (upd H a o) a t' → Rep X.K F u v → Q v (upd H a o)) → r (.ref a) vs H Q
section
variable {X : Cx} {B : Bs} {es : List Expr} {e : Expr} {tl : TTL} {i : Nat} {g : MG} {name : Str} {apos cpos : Pos} {id : String} {x : Str} {pos : Pos}
theorem mut_fin {F H : Hp} {σ : St} {τ : TSt} {P : R → TSt → Prop} {Q : VK} {r : V → List V → Hp → VK → Prop} {vs : List V} {v : V} {ts : List T} {F0 H0 : Hp} {τ0 : TSt}
    (hg : ∀ (F H : Hp) (a : Addr) (vs : List V) (t : T) (ts : List T) (G : T → T → Prop) (Q : VK), Same F H → OwnAt X.K F H a t → Reps X.K F ts vs → g t ts G → (∀ t' u o v, G t' u → OwnAt X.K F (upd H a o) a t' → Rep X.K F u v → Q v (upd H a o)) → r (.ref a) vs H Q)
    (I : Inn X.K B F H σ τ) (hv : σ[i]? = some (some v)) (rs : Reps X.K F ts vs) (h : mutS τ i ts g P) (s : Stp F0 H0 σ τ0 F H τ)
    (hq : ∀ r τ' F' H' v, P r τ' → Inn X.K B F' H' σ τ' → Stp F0 H0 σ τ0 F' H' τ' → RR X.K F' H' σ τ' v r → Fresh H0 v r → Q v H') : r v vs H Q := by
  obtain ⟨k, t, hs, hk, h⟩ := h.inv
  obtain ⟨a, ea, n, o⟩ := I.wf.own i k false t hs hk
  rw [hv] at ea
  cases ea
  refine hg F H a vs t ts _ Q I.wf.sub o rs h fun t' u ob w p new rep => ?_
  obtain ⟨I2, s2⟩ := mut_ok I hs hk hv new
  exact hq _ _ _ _ _ p I2 (s.trans s2) rep trivial
theorem tpe_mutL (hm : MutR X id g) (slot : Slot "list" name id) (hty : typeOf (.builtin id) = pure (.type "method_descriptor")) (hN : X.N[i]? = some x) (hv : Vis X.env.scope x) (ha : TPL X B (e :: es) tl)
    (hd : (x == ("__debug__" : Str)) = false := by decide) (hcd : (x == ("__classdict__" : Str)) = false := by decide)
    (hbase : attributeBase (.Name x pos) name X.env (eval (.Name x pos) X.env) = eval (.Name x pos) X.env := by rfl)
    (hfew : ((backTo cpos (starEach (e :: es) X.env)).all (fun x => !x.1) && (backToKw cpos (keywordEach [] X.env)).all (fun x => x.1.isSome)
      && decide ((e :: es).length + ([] : List Keyword).length + (if ([] : List Keyword).isEmpty then 0 else 1) < 30)) = true := by rfl)
    (hline : (apos.endLine == cpos.line) = true := by rfl) (hs : starEach (e :: es) X.env = (false, eval e X.env) :: starEach es X.env := by rfl) (hplain : (backTo cpos (starEach es X.env)).any (·.1) = false := by rfl) :
    TPE X B (.Call (.Attribute (.Name x pos) name apos) (e :: es) [] cpos) (ttMut true i tl g) := by
  obtain ⟨r, hr, hg⟩ := hm
  refine ⟨PE.imp (pe_bm PySem.F.plainAttrs_list slot hty hr (tpe_v (B := B) i hN hv hd hcd).pe ha.pa hbase hfew hline hs hplain) fun σ H Q h => ?_⟩
  obtain ⟨F, τ, P, I, ⟨hty', ⟨s, hs⟩, ht⟩, hq⟩ := h
  refine lift.go I (P := fun r τ1 => r = .var i ∧ τ1 = τ) ⟨⟨s, hs⟩, rfl, rfl⟩ fun r τ1 F1 H1 v ⟨er, et⟩ I1 s1 r1 f1 => ?_
  subst er et
  have rd := r1.rd I1.wf
  have es : R.t τ1 (.var i) = slT τ1 i := rfl
  rw [es] at rd
  refine ⟨?_, F1, τ1, _, I1, ht, fun ts τ2 F2 H2 vs h2 I2 s2 r2 => ?_⟩
  · cases e : slT τ1 i with
    | lst ts =>
      rw [e] at rd
      obtain ⟨a, vs, rfl, hl, _⟩ := rd.lst I1.wf.sub
      exact .inl ⟨rfl, vs, SqL.of hl⟩
    | dct ks ts => rw [e] at hty'; cases hty'
    | _ => rw [e] at hty'; exact hty'.elim
  · exact mut_fin (B := B) hg I2 r1.1 r2 h2 (s1.trans s2) hq
def appendG : MG := fun t ts k => match t, ts with
  | .lst us, [x] => us.length < sizeLine ∧ k (.lst (us ++ [x])) .non
  | _, _ => False
theorem m_append : MutR X "list.append" appendG := by
  refine ⟨rAppend, mt_append, fun F H a vs t ts G Q s o r hg k => ?_⟩
  unfold appendG at hg
  split at hg
  · obtain ⟨us, hl, z, ru⟩ := o
    obtain ⟨v, vr, rfl, h1, h2⟩ := r
    cases h2
    refine ⟨a, us, v, rfl, rfl, hl, by rw [← ru.len]; exact hg.1, k _ _ _ _ hg.2 ⟨_, upd_same, ?_, Reps.append ru ⟨v, [], rfl, h1, rfl⟩⟩ rfl⟩
    have := ru.len
    rw [List.length_append, List.length_singleton]
    omega
  · exact hg.elim
def extendG : MG := fun t ts k => match t, ts with
  | .lst us, [.lst xs] => us.length + xs.length ≤ sizeLine ∧ k (.lst (us ++ xs)) .non
  | _, _ => False
def insertG : MG := fun t ts k => match t, ts with
  | .lst us, [.int i, x] => (us.length < sizeLine ∧ 0 ≤ i ∧ i < 2 ^ 63) ∧ k (.lst (us.take i.toNat ++ [x] ++ us.drop i.toNat)) .non
  | _, _ => False
end
end TL

namespace TL
open PySem L2

def setG (c i v : T) (P : T → Prop) : Prop := match c, i with
  | .lst ts, .int k => ∃ j, ixN ts.length k = some j ∧ P (.lst (ts.set j v))
  | .dct ks ts, i => ∃ key, keyT i = some key ∧ ks.length < sizeLine ∧ P (.dct (dPutK ks key) (dPutV ks ts key v))
  | _, _ => False
def stIx (τ : TSt) (i : Nat) (k v : T) (P : TSt → Prop) : Prop := match τ[i]? with
  | some (some ⟨.own, false, c⟩) => setG c k v fun c' => P (τ.set i (some ⟨.own, false, c'⟩))
  | some (some ⟨.arg j, false, c⟩) => setG c k v fun c' => P (τ.set i (some ⟨.arg j, false, c'⟩))
  | _ => False
theorem stIx.inv {τ : TSt} {i : Nat} {k v : T} {P : TSt → Prop} (h : stIx τ i k v P) : ∃ m c, τ[i]? = some (some ⟨m, false, c⟩) ∧ m ≠ .frz ∧ setG c k v fun c' => P (τ.set i (some ⟨m, false, c'⟩)) := by
  unfold stIx at h
  split at h
  · rename_i t e
    exact ⟨.own, t, e, by simp, h⟩
  · rename_i j t e
    exact ⟨.arg j, t, e, by simp, h⟩
  · exact h.elim
def ttSetIx (i : Nat) (te ti : TTE) : TTS := fun D τ => te τ fun r τ1 => frzR r τ1 fun t τ2 => (∃ s, τ2[i]? = some (some s)) ∧ ti τ2 fun ri τ3 => stIx τ3 i (ri.t τ3) t D.nx
section
variable {X : Cx} {B : Bs}
theorem PSet.or {t u : TSet} (h : PSet X t) (h' : PSet X u) : PSet X (fun o i v H Q => t o i v H Q ∨ u o i v H Q) := fun pins s σ H o i v ov iv w Q I ro ri rv q => q.elim (h pins s σ H o i v ov iv w Q I ro ri rv) (h' pins s σ H o i v ov iv w Q I ro ri rv)
theorem tps_setIx {i : Nat} {x : Str} {e k : Expr} {te ti : TTE} {p0 p1 pos : Pos} (hu : X.A.units + 64 < cLine) (hN : X.N[i]? = some x) (hv : Vis X.env.scope x) (he : TPE X B e te) (hi : TPE X B k ti)
    (hd : (x == ("__debug__" : Str)) = false := by decide) (hcd : (x == ("__classdict__" : Str)) = false := by decide)
    (ha : ∀ v, assign (.Subscript (.Name x p0) k p1) X.env v = (do
      let ov ← holding [v] (eval (.Name x p0) X.env)
      let iv ← holding [v, ov] (eval k X.env)
      standAt p1
      holding [v, ov, iv] (setItem ov iv v)
      release [v, ov, iv] []) := by intro _; rfl)
    (hs : swapsWithSole [.Subscript (.Name x p0) k p1] e pos.line X.env = pure false := by rfl) (hw : swappedStores [.Subscript (.Name x p0) k p1] e X.env = pure none := by rfl)
    (h1 : (assignEach [.Subscript (.Name x p0) k p1] X.env).map (·.2) = [assign (.Subscript (.Name x p0) k p1) X.env] := by rfl) : TPS X B (.Assign [.Subscript (.Name x p0) k p1] e pos) (ttSetIx i te ti) := by
  refine ⟨PS.imp (ps_asg he.pe (pg_sub (tpe_v (B := B) i (pos := p0) hN hv hd hcd).pe hi.pe (PSet.or set_list (set_dict (by omega))) ha) hs hw h1) fun D σ H h => ?_⟩
  obtain ⟨F, τ, TD, I, h, ok⟩ := h
  refine lift.go I h fun r τ1 F1 H1 v h1 I1 s1 r1 f1 => ?_
  obtain ⟨t, τ2, F2, ⟨⟨s, hs⟩, h2⟩, I2, s2, rep, _⟩ := freeze I I1 s1 r1 f1 h1
  refine lift.go I2 (P := fun r τ3 => r = .var i ∧ τ3 = τ2) ⟨⟨s, hs⟩, rfl, rfl⟩ fun r τ3 F3 H3 o ⟨er, et⟩ I3 s3 r3 f3 => ?_
  subst er et
  refine lift.go I3 h2 fun ri τ4 F4 H4 k h4 I4 s4 r4 f4 => ?_
  obtain ⟨m, c, hc, hm, h5⟩ := h4.inv
  have rk := r4.rd I4.wf
  obtain ⟨a, ea, n, ow⟩ := I4.wf.own i m false c hc hm
  have eo : o = .ref a := by
    have := r3.1
    rw [ea] at this
    cases this
    rfl
  subst eo
  have rv : Rep X.K F4 t v := Rep.mono (s3.sub.trans s4.sub) _ _ rep
  have fin : ∀ c' ob, OwnAt X.K F4 (upd H4 a ob) a c' → TD.nx (τ4.set i (some ⟨m, false, c'⟩)) → D.nx σ (upd H4 a ob) := fun c' ob new q => by
    obtain ⟨I5, s5⟩ := mut_ok I4 hc hm ea new
    exact ok.nx _ _ _ _ I5 (((s2.trans s3).trans s4).trans s5).ss q
  generalize ri.t τ4 = ti' at h5 rk
  cases c with
  | lst ts =>
    cases ti' with
    | int j =>
      obtain ⟨j', e, q⟩ := h5
      obtain ⟨vs, hl, z, rp⟩ := ow
      refine .inl ⟨a, vs, j, j', rfl, rk.int, hl, by rw [← rp.len]; exact e, fin (.lst (ts.set j' t)) _ ⟨_, upd_same, by rw [List.length_set]; exact z, Reps.set j' rv rp⟩ q⟩
    | _ => exact h5.elim
  | dct ks ts =>
    obtain ⟨key, ek, hl, q⟩ := h5
    obtain ⟨kvs, hd, z, hk, rp⟩ := ow
    subst hk
    have hl' : kvs.length < sizeLine := by simpa using hl
    have ez : (putK kvs key v).length ≤ sizeLine := by
      unfold putK
      split
      · rw [List.length_map]; exact z
      · rw [List.length_append]; exact hl'
    exact .inr ⟨a, upd H4 a (.dK (putK kvs key v)), rfl, .inl ⟨kvs, key, hd, keyT_rep rk ek, hl', rfl⟩, fin (.dct (dPutK (kvs.map (·.1)) key) (dPutV (kvs.map (·.1)) ts key t)) _ ⟨_, upd_same, ez, putK_ks kvs key v, putK_vs key rv rp⟩ q⟩
  | _ => exact h5.elim

def ttDict0 : TTE := fun τ P => P (.val true (.dct [] [])) τ
abbrev C1 := T → (Bool → T → Prop) → Prop
def CalT1 (X : Cx) (f : Value) (g : C1) : Prop := ∃ r : List V → Hp → VK → Prop, CallR X f r ∧ ∀ (F H : Hp) (x : V) (t : T) (G : Bool → T → Prop) (Q : VK), Same F H → RdT X.K F H x t → g t G →
  (∀ k t v F' H', G k t → Grow F H F' H' → RG X.K H F' H' v k t → Q v H') → r [x] H Q
def ttC1 (g : C1) (te : TTE) : TTE := fun τ P => te τ fun r τ1 => g (r.t τ1) fun k t => P (.val k t) τ1
variable {x : Str} {p pos : Pos} {e : Expr} {te : TTE} {id T' : String} {g : C1}
theorem c1_imp {r : List V → Hp → VK → Prop} (hg : ∀ (F H : Hp) (x : V) (t : T) (G : Bool → T → Prop) (Q : VK), Same F H → RdT X.K F H x t → g t G → (∀ k t v F' H', G k t → Grow F H F' H' → RG X.K H F' H' v k t → Q v H') → r [x] H Q)
    (σ : St) (H : Hp) (Q : VK) (h : lift X.K B (ttC1 g te) σ H Q) : tCB r (tCons (lift X.K B te) tNil) σ H Q := by
  obtain ⟨F, τ, P, I, ht, hq⟩ := h
  refine lift.go I ht fun ra τ1 F1 H1 x h1 I1 s1 r1 f1 => ?_
  refine hg F1 H1 x _ _ Q I1.wf.sub (r1.rd I1.wf) h1 fun k t v F' H' gk gr rg => ?_
  obtain ⟨rr, fr⟩ := RG.rr I1.wf gr rg
  exact hq _ _ _ _ _ gk (I1.step (gr.wf I1.wf) gr.step) (s1.trans gr.step) rr (Fresh.step s1 fr)
theorem tpe_c1 (hc : CalT1 X (.builtin id) g) (hg : Gl X x) (hm : X.mg x = none) (hv : bootBuiltins x = some (.builtin id)) (he : TPE X B e te) (hs : starEach [e] X.env = (false, eval e X.env) :: starEach [] X.env := by rfl) (hn : x ≠ "__name__" := by decide) (hdb : (x == ("__debug__" : Str)) = false := by decide) :
    TPE X B (.Call (.Name x p) [e] [] pos) (ttC1 g te) := by
  obtain ⟨r, hr, hg'⟩ := hc
  exact ⟨PE.imp (pe_callB hr hg hm hv (pa_cons he.pe pa_nil hs) hn hdb hs (by rfl)) (c1_imp hg')⟩
theorem tpe_ct1 (hc : CalT1 X (.type T') g) (hg : Gl X x) (hm : X.mg x = none) (hv : bootBuiltins x = some (.type T')) (he : TPE X B e te) (hs : starEach [e] X.env = (false, eval e X.env) :: starEach [] X.env := by rfl) (hn : x ≠ "__name__" := by decide) (hdb : (x == ("__debug__" : Str)) = false := by decide) :
    TPE X B (.Call (.Name x p) [e] [] pos) (ttC1 g te) := by
  obtain ⟨r, hr, hg'⟩ := hc
  exact ⟨PE.imp (pe_callTy hr hg hm hv (pa_cons he.pe pa_nil hs) hn hdb hs (by rfl)) (c1_imp hg')⟩
def lenT : C1 := fun t k => match t with
  | .lst ts => k false (.int ts.length)
  | .tup ts => k false (.int ts.length)
  | .scr ns => k false (.int ns.length)
  | .str z => z.length ≤ sizeLine ∧ k false (.int z.length)
  | _ => False
theorem c_len : CalT1 X (.builtin "len") lenT := by
  refine ⟨_, call_len, fun F H x t G Q s r hg k => ?_⟩
  have fin : ∀ n : Nat, G false (.int n) → Q (.int n) H := fun n h => k false _ _ F H h (Grow.refl s) rfl
  cases t with
  | lst ts =>
    obtain ⟨a, vs, rfl, hl, z, rp⟩ := r.lst s
    exact ⟨_, vs.length, rfl, .inl ⟨vs, SqL.of hl, rfl⟩, fin _ (by rw [← rp.len]; exact hg)⟩
  | tup ts =>
    obtain ⟨a, vs, rfl, hl, z, rp⟩ := r.tup
    exact ⟨_, vs.length, rfl, .inr ⟨vs, SqT.mono s hl, rfl⟩, fin _ (by rw [← rp.len]; exact hg)⟩
  | scr ns =>
    obtain ⟨a, rfl, hl, z⟩ := r.scr
    exact ⟨_, ns.length, rfl, .inl ⟨_, s.seq hl, by rw [List.length_map]⟩, fin _ hg⟩
  | str z =>
    rw [r.str]
    exact ⟨_, z.length, rfl, ⟨hg.1, rfl⟩, fin _ hg.2⟩
  | _ => exact hg.elim
def listT : C1 := fun t k => match t with
  | .lst ts => k true (.lst ts)
  | .tup ts => k true (.lst ts)
  | .scr ns => k true (.lst (ns.map T.int))
  | _ => False
theorem c_list : CalT1 X (.type "list") listT := by
  refine ⟨_, call_list_of, fun F H x t G Q s r hg k => ?_⟩
  cases t with
  | lst ts =>
    obtain ⟨a, vs, rfl, hl, z, rp⟩ := r.lst s
    exact ⟨a, vs, rfl, .inl (SqL.of hl), fun l nl => k true _ _ _ _ hg (Grow.own s nl) ⟨l, rfl, nl, s.free nl, vs, upd_same, z, rp⟩⟩
  | tup ts =>
    obtain ⟨a, vs, rfl, hl, z, rp⟩ := r.tup
    exact ⟨a, vs, rfl, .inr (SqT.mono s hl), fun l nl => k true _ _ _ _ hg (Grow.own s nl) ⟨l, rfl, nl, s.free nl, vs, upd_same, z, rp⟩⟩
  | scr ns =>
    obtain ⟨a, rfl, hl, z⟩ := r.scr
    exact ⟨a, _, rfl, .inl (s.seq hl), fun l nl => k true _ _ _ _ hg (Grow.own s nl) ⟨l, rfl, nl, s.free nl, _, upd_same, by rw [List.length_map]; exact z, Reps.ints.mpr rfl⟩⟩
  | _ => exact hg.elim
def tupleT : C1 := fun t k => match t with
  | .lst ts => k false (.tup ts)
  | .tup ts => k false (.tup ts)
  | .scr ns => k false (.tup (ns.map T.int))
  | _ => False
theorem c_tuple : CalT1 X (.type "tuple") tupleT := by
  refine ⟨_, call_tuple_of, fun F H x t G Q s r hg k => ?_⟩
  cases t with
  | lst ts =>
    obtain ⟨a, vs, rfl, hl, z, rp⟩ := r.lst s
    exact ⟨a, vs, rfl, .inl ⟨SqL.of hl, fun l nl => k false _ _ _ _ hg (Grow.frz s nl) ⟨l, vs, rfl, .inl (.inl upd_same), z, Reps.mono (same_upd (s.free nl)) _ _ rp⟩⟩⟩
  | tup ts =>
    obtain ⟨a, vs, rfl, hl, z, rp⟩ := r.tup
    exact ⟨a, vs, rfl, .inr ⟨SqT.mono s hl, k false _ _ F H hg (Grow.refl s) ⟨a, vs, rfl, hl, z, rp⟩⟩⟩
  | scr ns =>
    obtain ⟨a, rfl, hl, z⟩ := r.scr
    exact ⟨a, _, rfl, .inl ⟨s.seq hl, fun l nl => k false _ _ _ _ hg (Grow.frz s nl) ⟨l, _, rfl, .inl (.inl upd_same), by rw [List.length_map]; exact z, Reps.ints.mpr rfl⟩⟩⟩
  | _ => exact hg.elim
def b2i (b : Bool) : Int := if b = true then 1 else 0
def intC : C1 := fun t k => match t with
  | .int i => k false (.int i)
  | .bl b => k false (.int (TL.b2i b))
  | .str z => ∃ n, PySem.intText? z = some n ∧ z.length ≤ 640 ∧ k false (.int n)
  | _ => False
theorem c_int : CalT1 X (.type "int") intC := by
  refine ⟨_, (call_int1 (X := X)).or call_int_str, fun F H x t G Q s r hg k => ?_⟩
  cases t with
  | int i => exact .inl (.inl ⟨i, by rw [r.int], k false _ _ F H hg (Grow.refl s) rfl⟩)
  | bl b => exact .inl (.inr ⟨b, by rw [r.bl], k false _ _ F H hg (Grow.refl s) rfl⟩)
  | str z =>
    obtain ⟨n, h1, h2, hg⟩ := hg
    exact .inr ⟨z, n, by rw [r.str], h1, h2, k false _ _ F H hg (Grow.refl s) rfl⟩
  | _ => exact hg.elim
def strC : C1 := fun t k => match t with
  | .int i => i.natAbs.log2 < 1920 ∧ k false (.str (toString i))
  | _ => False
/-- a list of ints, of truths -/
def intsT (ts : List T) (P : List Int → Prop) : Prop := ∃ ns : List Int, ts = ns.map T.int ∧ P ns
def sumT : C1 := fun t k => match t with
  | .lst ts => intsT ts fun ns => k false (.int ns.sum)
  | _ => False
def blsT (ts : List T) (P : List Bool → Prop) : Prop := ∃ bs : List Bool, ts = bs.map T.bl ∧ P bs
def allT : C1 := fun t k => match t with
  | .lst ts => blsT ts fun bs => k false (.bl (bs.all _root_.id))
  | _ => False
def anyT : C1 := fun t k => match t with
  | .lst ts => blsT ts fun bs => k false (.bl (bs.any _root_.id))
  | _ => False
theorem c_all (hc : X.calm = true) : CalT1 X (.builtin "all") allT := by
  refine ⟨_, cr_all hc, fun F H x t G Q s r hg k => ?_⟩
  cases t with
  | lst ts =>
    obtain ⟨ns, rfl, hg⟩ := hg
    obtain ⟨a, vs, rfl, hl, z, rp⟩ := r.lst s
    rw [Reps.bls.mp rp] at hl
    exact ⟨a, ns, rfl, SqL.of hl, k false _ _ F H hg (Grow.refl s) rfl⟩
  | _ => exact hg.elim
theorem c_any (hc : X.calm = true) : CalT1 X (.builtin "any") anyT := by
  refine ⟨_, cr_any hc, fun F H x t G Q s r hg k => ?_⟩
  cases t with
  | lst ts =>
    obtain ⟨ns, rfl, hg⟩ := hg
    obtain ⟨a, vs, rfl, hl, z, rp⟩ := r.lst s
    rw [Reps.bls.mp rp] at hl
    exact ⟨a, ns, rfl, SqL.of hl, k false _ _ F H hg (Grow.refl s) rfl⟩
  | _ => exact hg.elim
/-- sorted ints -/
def srt (ns : List Int) : List Int := ns.mergeSort fun a b => decide (a ≤ b)
def sortedT : C1 := fun t k => match t with
  | .lst ts => intsT ts fun ns => k true (.lst ((srt ns).map T.int))
  | _ => False
end

section
variable {X : Cx} {B : Bs} {x : Str} {p pos : Pos} {e e2 : Expr} {id : String}
abbrev CN := List T → (Bool → T → Prop) → Prop
def CalTn (X : Cx) (f : Value) (g : CN) : Prop := ∃ r : List V → Hp → VK → Prop, CallR X f r ∧ ∀ (F H : Hp) (xs : List V) (ts : List T) (G : Bool → T → Prop) (Q : VK), Same F H → Reps X.K F ts xs → g ts G →
  (∀ k t v F' H', G k t → Grow F H F' H' → RG X.K H F' H' v k t → Q v H') → r xs H Q
def ttCn (g : CN) (tl : TTL) : TTE := fun τ P => tl τ fun ts τ1 => g ts fun k t => P (.val k t) τ1
theorem tpe_cn {g : CN} {tl : TTL} {es : List Expr} (hc : CalTn X (.builtin id) g) (hg : Gl X x) (hm : X.mg x = none) (hv : bootBuiltins x = some (.builtin id)) (ha : TPL X B (e :: es) tl) (hn : x ≠ "__name__" := by decide) (hdb : (x == ("__debug__" : Str)) = false := by decide)
    (he : starEach (e :: es) X.env = (false, eval e X.env) :: starEach es X.env := by rfl) (hpl : (backTo pos (starEach es X.env)).any (·.1) = false := by rfl) : TPE X B (.Call (.Name x p) (e :: es) [] pos) (ttCn g tl) := by
  obtain ⟨r, hr, hg'⟩ := hc
  refine ⟨PE.imp (pe_callB hr hg hm hv ha.pa hn hdb he hpl) fun σ H Q h => ?_⟩
  obtain ⟨F, τ, P, I, ht, hq⟩ := h
  refine ⟨F, τ, _, I, ht, fun ts τ1 F1 H1 vs h1 I1 s1 r1 => ?_⟩
  refine hg' F1 H1 vs ts _ Q I1.wf.sub r1 h1 fun k t v F' H' gk gr rg => ?_
  obtain ⟨rr, fr⟩ := RG.rr I1.wf gr rg
  exact hq _ _ _ _ _ gk (I1.step (gr.wf I1.wf) gr.step) (s1.trans gr.step) rr (Fresh.step s1 fr)
def max2T : CN := fun ts k => match ts with
  | [.int i, .int j] => k false (.int (if j > i then j else i))
  | _ => False
def min2T : CN := fun ts k => match ts with
  | [.int i, .int j] => k false (.int (if j < i then j else i))
  | _ => False
theorem c_max2 (hc : X.calm = true) : CalTn X (.builtin "max") max2T := by
  refine ⟨_, call_max2 hc, fun F H xs ts G Q s r hg k => ?_⟩
  unfold max2T at hg
  split at hg
  · obtain ⟨v, vr, rfl, e1, v2, vr2, rfl, e2, e3⟩ := r
    cases e1
    cases e2
    cases e3
    exact ⟨_, _, rfl, k false _ _ F H hg (Grow.refl s) rfl⟩
  · exact hg.elim
def negT : C1 := fun t k => match t with
  | .int i => k false (.int (-i))
  | _ => False
def ttU (g : C1) (te : TTE) : TTE := ttC1 g te
theorem tpe_neg {te : TTE} (he : TPE X B e te) : TPE X B (.UnaryOp .USub e pos) (ttU negT te) := by
  refine ⟨PE.imp (pe_un un_neg he.pe) fun σ H Q h => ?_⟩
  obtain ⟨F, τ, P, I, ht, hq⟩ := h
  refine lift.go I ht fun ra τ1 F1 H1 x h1 I1 s1 r1 f1 => ?_
  have rd := r1.rd I1.wf
  generalize ra.t τ1 = t at h1 rd
  cases t with
  | int i => exact ⟨i, rd.int, hq _ _ _ _ _ h1 I1 s1 rfl trivial⟩
  | _ => exact h1.elim
end
end TL

namespace TL
open PySem L2
structure Cal (P : Program) (w : World) (K : PySem.W.Frag) (mg : Str → Option Value) (base : Heap) (CX : CXT) (cls : String → Addr) (x : Str) (ps : List Str) (k : Nat) (S : TSp) : Prop where
  ex : ∃ f fd, FnOk P w K mg base CX k f fd ps (liftSp K cls S) ∧ mg x = some (.ref f) ∧ PySem.W.keepIn K (.ref f) = true ∧ Binds K fd ps []
def nox : String → TSt → Prop := fun _ _ => False
section
variable {X : Cx} {B : Bs} {k : Nat} {cls : String → Addr} {S : TSp} {x : Str} {ps : List Str} {ta : TTA} {p pos : Pos} {e : Expr} {es : List Expr}
theorem tpe_calls (C : Cal X.prog X.w X.K X.mg X.base CX0 cls x ps k S) (hr : Room k X.A) (hg : Gl X x) (ha : TPA X B (e :: es) ta) (hdb : (x == ("__debug__" : Str)) = false := by decide)
    (he : starEach (e :: es) X.env = (false, eval e X.env) :: starEach es X.env := by rfl) (hpl : (backTo pos (starEach es X.env)).any (·.1) = false := by rfl) : TPE X B (.Call (.Name x p) (e :: es) [] pos) (ttCall S nox ta) := by
  obtain ⟨f, fd, F, hm, hk, hb⟩ := C.ex
  exact tpe_call (E := E0) F hr hg hm hk hb pass0 (fun _ _ _ _ _ _ h => h.elim) ha hdb he hpl
end
def tyN : T → Option String
  | .non => some "NoneType"
  | .bl _ => some "bool"
  | .int _ => some "int"
  | .str _ => some "str"
  | .tup _ => some "tuple"
  | .lst _ => some "list"
  | .dct _ _ => some "dict"
  | _ => none
def isiT (c : String) (t : T) : Option Bool := if c = "int" then (tyN t).map (fun n => n == "int" || n == "bool") else if c = "bool" then (tyN t).map (· == "bool") else if c = "str" then (tyN t).map (· == "str")
  else if c = "tuple" then (tyN t).map (· == "tuple") else if c = "list" then (tyN t).map (· == "list") else none
theorem tyN_rep {K : PySem.W.Frag} {F H : Hp} {v : V} {t : T} {n : String} (s : Same F H) (r : RdT K F H v t) (e : tyN t = some n) : TyX K H v (.type n) := by
  cases t with
  | non => cases e; rw [r.non]; exact .base .non
  | bl b => cases e; rw [r.bl]; exact .base (.bl b)
  | int b => cases e; rw [r.int]; exact .base (.int b)
  | str b => cases e; rw [r.str]; exact .base (.str b)
  | tup ts =>
    cases e
    obtain ⟨a, vs, rfl, q, _⟩ := r.tup
    rcases q with (q | ⟨o, q⟩) | ⟨o, its, n, q, c, _⟩
    · exact .base (.tup (s _ _ q))
    · exact .fTuple (s _ _ q)
    · exact .kTuple q c
  | lst ts =>
    cases e
    obtain ⟨a, vs, rfl, q, _⟩ := r.lst s
    exact .base (.lst q)
  | dct ks ts =>
    cases e
    obtain ⟨a, vs, rfl, q, _⟩ := r.dct s
    rcases q with q | ⟨o, q⟩
    · exact .base (.dK q)
    · exact .fDict q
  | _ => cases e
theorem isiT_kit {c : String} {t : T} {b : Bool} (h : isiT c t = some b) : ∃ n, tyN t = some n ∧ kitB n c = some b := by
  unfold isiT at h
  split at h
  · rename_i e; subst e
    cases t <;> first | (cases h; exact ⟨_, rfl, by decide +kernel⟩) | (cases h)
  · split at h
    · rename_i e; subst e
      cases t <;> first | (cases h; exact ⟨_, rfl, by decide +kernel⟩) | (cases h)
    · split at h
      · rename_i e; subst e
        cases t <;> first | (cases h; exact ⟨_, rfl, by decide +kernel⟩) | (cases h)
      · split at h
        · rename_i e; subst e
          cases t <;> first | (cases h; exact ⟨_, rfl, by decide +kernel⟩) | (cases h)
        · split at h
          · rename_i e; subst e
            cases t <;> first | (cases h; exact ⟨_, rfl, by decide +kernel⟩) | (cases h)
          · cases h
def ttIsi (c : String) (te : TTE) : TTE := fun τ P => te τ fun r τ1 => match isiT c (r.t τ1) with
  | some b => P (.val false (.bl b)) τ1
  | none => False
section
variable {X : Cx} {B : Bs} {p p2 pos : Pos} {e : Expr} {te : TTE} {c : String} {x : Str}
theorem tpe_isi (hg : Gl X "isinstance") (hm : X.mg "isinstance" = none) (hg2 : Gl X x) (hm2 : X.mg x = none) (hv2 : bootBuiltins x = some (.type c)) (he : TPE X B e te) (hn : x ≠ "__name__" := by decide) (hdb : (x == ("__debug__" : Str)) = false := by decide)
    (hs : starEach [e, .Name x p2] X.env = (false, eval e X.env) :: starEach [.Name x p2] X.env := by rfl) (hs2 : starEach [.Name x p2] X.env = (false, eval (.Name x p2) X.env) :: starEach [] X.env := by rfl) (hpl : (backTo pos (starEach [.Name x p2] X.env)).any (·.1) = false := by rfl) :
    TPE X B (.Call (.Name "isinstance" p) [e, .Name x p2] [] pos) (ttIsi c te) := by
  refine ⟨PE.imp (pe_callB call_isi hg hm (by decide +kernel) (pa_cons he.pe (pa_cons (pe_bltn (v := .ty c) hg2 hm2 hv2 rfl hn hdb) pa_nil hs2) hs) (by decide) (by decide) hs hpl) fun σ H Q h => ?_⟩
  obtain ⟨F, τ, P, I, ht, hq⟩ := h
  refine lift.go I ht fun r τ1 F1 H1 v h1 I1 s1 r1 f1 => ?_
  have rd := r1.rd I1.wf
  generalize r.t τ1 = t at h1 rd
  split at h1
  · rename_i b e
    obtain ⟨n, hn', hk⟩ := isiT_kit e
    exact ⟨v, .ty c, .type n, .type c, b, rfl, .ty c, tyN_rep I1.wf.sub rd hn', kit_ty hk, hq _ _ _ _ _ h1 I1 s1 rfl trivial⟩
  · exact h1.elim
end
section
variable {X : Cx} {B : Bs} {tg : Expr}
/-- a list or a tuple that stands, by its address -/
theorem SrcV.seqAt {K : PySem.W.Frag} {v : V} {t : T} {S : Hp → St → TSt → Prop} {F H : Hp} {σ : St} {τ : TSt} (s : SrcV K v t S) (h : S F σ τ) (w : WF K F H σ τ) : (∀ ts, t = .lst ts → ∃ a, v = .ref a ∧ ∀ F H σ τ, S F σ τ → WF K F H σ τ → ∃ vs, SqL K H a vs ∧ Reps K F ts vs) ∧
    (∀ ts, t = .tup ts → ∃ a, v = .ref a ∧ ∀ F H σ τ, S F σ τ → WF K F H σ τ → ∃ vs, SqT K H a vs ∧ Reps K F ts vs) := by
  constructor
  · rintro ts rfl
    obtain ⟨a, vs, rfl, hl, z, rp⟩ := (s.rd F H σ τ h w).lst w.sub
    refine ⟨a, rfl, fun F H σ τ h w => ?_⟩
    obtain ⟨a', vs, e, hl, z, rp⟩ := (s.rd F H σ τ h w).lst w.sub
    cases e
    exact ⟨vs, SqL.of hl, rp⟩
  · rintro ts rfl
    obtain ⟨a, vs, rfl, hl, z, rp⟩ := (s.rd F H σ τ h w).tup
    refine ⟨a, rfl, fun F H σ τ h w => ?_⟩
    obtain ⟨a', vs, e, hl, z, rp⟩ := (s.rd F H σ τ h w).tup
    cases e
    exact ⟨vs, SqT.mono w.sub hl, rp⟩
def revI (t : T) (P : List T → Prop) : Prop := match t with
  | .lst ts => P ts.reverse
  | .tup ts => P ts.reverse
  | _ => False
def tiRev (tx : TTX) : TTI := fun τ P => tx τ fun t u τ1 => revI t fun ts => P ts u τ1
/-- pairs of two lists or tuples, as many as the shorter one has -/
def zipI (s t : T) (P : List T → Prop) : Prop := match s, t with
  | .lst xs, .lst ys => P (List.zipWith (fun x y => T.tup [x, y]) xs ys)
  | .tup xs, .tup ys => P (List.zipWith (fun x y => T.tup [x, y]) xs ys)
  | _, _ => False
def tiZip (tx : TTX) (te : TTE) : TTI := fun τ P => tx τ fun t u τ1 => te τ1 fun r τ2 => frzR r τ2 fun t2 τ3 => zipI t t2 fun ts => P ts u τ3
end
end TL

namespace TL
open PySem L2
theorem atI_0 {α : Type} {x : α} {xs : List α} : atI (x :: xs) 0 = some x := atI_nat (j := 0) rfl
theorem atI_1 {α : Type} {x y : α} {xs : List α} : atI (x :: y :: xs) 1 = some y := atI_nat (j := 1) rfl
theorem atI_2 {α : Type} {x y z : α} {xs : List α} : atI (x :: y :: z :: xs) 2 = some z := atI_nat (j := 2) rfl
theorem atI_3 {α : Type} {x y z u : α} {xs : List α} : atI (x :: y :: z :: u :: xs) 3 = some u := atI_nat (j := 3) rfl
theorem atI_m1 {α : Type} {xs : List α} (h : xs ≠ []) : atI xs (-1) = some (xs.getLast h) := by
  have := atI_last xs.dropLast (xs.getLast h)
  rwa [List.dropLast_concat_getLast h] at this
theorem ixN_lt {n j : Nat} (h : j < n) : ixN n (j : Int) = some j := by
  unfold ixN
  rw [if_pos (by omega), if_pos (by omega), Int.toNat_natCast]
theorem ixN_0 {n : Nat} : ixN (n + 1) 0 = some 0 := ixN_lt (j := 0) (by omega)
theorem ixN_1 {n : Nat} : ixN (n + 1 + 1) 1 = some 1 := ixN_lt (j := 1) (by omega)
theorem ixN_2 {n : Nat} : ixN (n + 1 + 1 + 1) 2 = some 2 := ixN_lt (j := 2) (by omega)
theorem atI_some {α : Type} {xs : List α} {i : Int} (h0 : 0 ≤ i) (h1 : i < xs.length) : atI xs i = some (xs[i.toNat]'(by omega)) := by
  have e := atI_nat (xs := xs) (j := i.toNat) (List.getElem?_eq_getElem (by omega : i.toNat < xs.length))
  rwa [Int.toNat_of_nonneg h0] at e
theorem ex_some {p : T → Prop} {t : T} : (∃ u, some t = some u ∧ p u) ↔ p t := by simp
theorem log2_ok {j : Int} {n : Nat} (h0 : 0 < j) (h : j < 2 ^ n) (hn : n ≤ 9000) (h1 : 0 < n) : j.natAbs.log2 < 9000 := by
  have : j.natAbs < 2 ^ n := by
    have e : ((2 ^ n : Nat) : Int) = (2 : Int) ^ n := by simp
    omega
  exact Nat.lt_of_lt_of_le (PySem.Flt.log2_lt_of h1 this) hn
/-- a slot that holds nothing, or a frozen value -/
def ofT (o : Option T) : Option Sl := o.map fun t => ⟨.frz, false, t⟩
theorem canS_of {o : Option T} : canS (some (ofT o)) = true := by cases o <;> rfl
theorem canS_none : canS (some none) = true := rfl
theorem canS_some {k : Kd} {t : T} : canS (some (some ⟨k, false, t⟩)) = true := rfl
theorem ofT_none : ofT none = none := rfl
theorem ofT_some {t : T} : ofT (some t) = some ⟨.frz, false, t⟩ := rfl
theorem frzAt_of {τ : TSt} {i : Nat} {o : Option T} (h : τ[i]? = some (ofT o)) : frzAt τ i := by
  unfold frzAt
  rw [h]
  cases o <;> exact trivial
/-- while, by a family of states -/
theorem while_p {α : Type} {c : TTT} {tb : TTS} {D : TEnds} {τ : TSt} (st : α → TSt) (I : α → Prop) (μ : α → Nat) (a0 : α) (e0 : τ = st a0) (h0 : I a0)
    (h : ∀ a, I a → c (st a) fun b τ1 => if b = true then tb { D with nx := fun τ' => ∃ a', τ' = st a' ∧ I a' ∧ μ a' < μ a, ct := fun τ' => ∃ a', τ' = st a' ∧ I a' ∧ μ a' < μ a, bk := D.nx } τ1 else D.nx τ1) : ttWhile c tb D τ := by
  refine ⟨fun m τ => ∃ a, τ = st a ∧ I a ∧ μ a = m, ⟨_, a0, e0, h0, rfl⟩, ?_⟩
  rintro m τ ⟨a, rfl, ha, rfl⟩
  have e : (fun τ' => ∃ m', m' < μ a ∧ ∃ a', τ' = st a' ∧ I a' ∧ μ a' = m') = fun τ' => ∃ a', τ' = st a' ∧ I a' ∧ μ a' < μ a := by
    funext τ'
    apply propext
    constructor
    · rintro ⟨m', hm, a', e, h, rfl⟩
      exact ⟨a', e, h, hm⟩
    · rintro ⟨a', e, h, hm⟩
      exact ⟨_, hm, a', e, h, rfl⟩
  rw [e]
  exact h a ha
/-- for, by a family of states -/
theorem for_p {α : Type} {ts : List T} {u : Lk} {τ1 τ0 : TSt} {g : TTG} {tb : TTS} {D : TEnds} (st : α → TSt) (I : Nat → α → Prop) (a0 : α) (e0 : τ0 = st a0) (h0 : I 0 a0)
    (h : ∀ i t a, ts[i]? = some t → I i a → g t (st a) fun τ3 => tb { D with nx := fun τ' => ∃ a', τ' = st a' ∧ I (i + 1) a', ct := fun τ' => ∃ a', τ' = st a' ∧ I (i + 1) a', bk := fun τ4 => D.nx (unl u τ1 τ4) } τ3)
    (hd : ∀ a, I ts.length a → D.nx (unl u τ1 (st a))) : ∃ Pv : Nat → TSt → Prop, Pv 0 τ0 ∧ (∀ i t τ2, ts[i]? = some t → Pv i τ2 → g t τ2 fun τ3 => tb { D with nx := Pv (i + 1), ct := Pv (i + 1), bk := fun τ4 => D.nx (unl u τ1 τ4) } τ3) ∧ ∀ τ2, Pv ts.length τ2 → D.nx (unl u τ1 τ2) :=
  ⟨fun i τ => ∃ a, τ = st a ∧ I i a, ⟨a0, e0, h0⟩, fun i t τ2 ht ⟨a, e, ha⟩ => by subst e; exact h i t a ht ha, fun τ2 ⟨a, e, ha⟩ => by subst e; exact hd a ha⟩
/-- a comprehension whose turns change nothing -/
theorem lc_pure {ts : List T} {τw : TSt} {g : TTG} {tt : TTT} {te : TTE} {vs : List Nat} {Q : List T → TSt → Prop} (f : T → Option T) (hl : ts.length ≤ sizeLine)
    (h : ∀ t ∈ ts, g t τw fun τ3 => tt τ3 fun b τ4 => if b = true then te τ4 fun r τ5 => frzR r τ5 fun y τ6 => f t = some y ∧ wipeT τ6 vs = τw else f t = none ∧ wipeT τ4 vs = τw)
    (hd : Q (ts.filterMap f) τw) : ∃ Pv : Nat → List T → TSt → Prop, Pv 0 [] τw ∧
    (∀ i t acc τ2, ts[i]? = some t → Pv i acc τ2 → g t τ2 fun τ3 => tt τ3 fun b τ4 =>
      if b = true then te τ4 fun r τ5 => frzR r τ5 fun y τ6 => acc.length < sizeLine ∧ Pv (i + 1) (acc ++ [y]) (wipeT τ6 vs) else Pv (i + 1) acc (wipeT τ4 vs)) ∧ ∀ acc τ2, Pv ts.length acc τ2 → Q acc τ2 := by
  refine ⟨fun i acc τ => τ = τw ∧ acc = (ts.take i).filterMap f, ⟨rfl, rfl⟩, ?_, ?_⟩
  · rintro i t acc τ2 ht ⟨rfl, rfl⟩
    have hi : i < ts.length := (List.getElem?_eq_some_iff.mp ht).1
    have lt : ((ts.take i).filterMap f).length < sizeLine := by
      have h1 := List.length_filterMap_le f (ts.take i)
      rw [List.length_take] at h1
      omega
    have e : (ts.take (i + 1)).filterMap f = (ts.take i).filterMap f ++ (f t).toList := by
      rw [List.take_add_one, List.filterMap_append, ht]
      simp only [Option.toList_some, List.filterMap_cons, List.filterMap_nil]
      cases f t <;> rfl
    have h1 := h t (List.mem_of_getElem? ht)
    have e1 : ∀ y τ6, (((ts.take i).filterMap f).length < sizeLine ∧ wipeT τ6 vs = τ2 ∧ (ts.take i).filterMap f ++ [y] = (ts.take (i + 1)).filterMap f) = (f t = some y ∧ wipeT τ6 vs = τ2) := fun y τ6 => by
      apply propext
      rw [e]
      constructor
      · rintro ⟨_, h2, h3⟩
        have h4 := List.append_cancel_left h3
        cases q : f t with
        | none => rw [q] at h4; cases h4
        | some z =>
          rw [q] at h4
          cases h4
          exact ⟨rfl, h2⟩
      · rintro ⟨h2, h3⟩
        rw [h2]
        exact ⟨lt, h3, rfl⟩
    have e2 : ∀ τ4, (wipeT τ4 vs = τ2 ∧ (ts.take i).filterMap f = (ts.take (i + 1)).filterMap f) = (f t = none ∧ wipeT τ4 vs = τ2) := fun τ4 => by
      apply propext
      rw [e]
      constructor
      · rintro ⟨h2, h3⟩
        cases q : f t with
        | none => exact ⟨rfl, h2⟩
        | some z =>
          rw [q] at h3
          have := congrArg List.length h3
          simp at this
      · rintro ⟨h2, h3⟩
        rw [h2]
        exact ⟨h3, by simp⟩
    simp only [e1, e2]
    exact h1
  · rintro acc τ2 ⟨rfl, rfl⟩
    rw [List.take_length]
    exact hd
/-- .. whose every item is kept -/
theorem lc_map {ts : List T} {τw : TSt} {g : TTG} {te : TTE} {vs : List Nat} {Q : List T → TSt → Prop} (f : T → T) (hl : ts.length ≤ sizeLine)
    (h : ∀ t ∈ ts, g t τw fun τ3 => te τ3 fun r τ5 => frzR r τ5 fun y τ6 => f t = y ∧ wipeT τ6 vs = τw)
    (hd : Q (ts.map f) τw) : ∃ Pv : Nat → List T → TSt → Prop, Pv 0 [] τw ∧
    (∀ i t acc τ2, ts[i]? = some t → Pv i acc τ2 → g t τ2 fun τ3 => ttYes τ3 fun b τ4 =>
      if b = true then te τ4 fun r τ5 => frzR r τ5 fun y τ6 => acc.length < sizeLine ∧ Pv (i + 1) (acc ++ [y]) (wipeT τ6 vs) else Pv (i + 1) acc (wipeT τ4 vs)) ∧ ∀ acc τ2, Pv ts.length acc τ2 → Q acc τ2 := by
  refine lc_pure (fun t => some (f t)) hl (fun t ht => ?_) (by rw [List.filterMap_eq_map']; exact hd)
  have := h t ht
  simp only [ttYes, if_true, Option.some.injEq]
  exact this
end TL

namespace TL
open PySem L2
structure Ok1 (d : Nat) (t : T) : Prop where
  pl : t.plain = true
  lay : t.D.canLay0 = true
  dp : t.D.depth ≤ d
theorem Ok1.eqOk {t : T} {d : Nat} (h : Ok1 d t) (hd : d ≤ 64) : eqOk t = true := by
  unfold TL.eqOk SeqAt.shaped
  rw [h.pl, h.lay, decide_eq_true (Nat.le_trans h.dp hd)]
  rfl
theorem Ok1.mono {t : T} {d e : Nat} (h : Ok1 d t) (hd : d ≤ e) : Ok1 e t := ⟨h.pl, h.lay, Nat.le_trans h.dp hd⟩
theorem ok1_non {d : Nat} : Ok1 d .non := ⟨rfl, by simp [T.D, PyData.canLay0], by simp [T.D, PyData.depth]⟩
theorem ok1_bl {d : Nat} {b : Bool} : Ok1 d (.bl b) := ⟨rfl, by simp [T.D, PyData.canLay0], by simp [T.D, PyData.depth]⟩
theorem ok1_int {d : Nat} {i : Int} : Ok1 d (.int i) := ⟨rfl, by simp [T.D, PyData.canLay0], by simp [T.D, PyData.depth]⟩
theorem ok1_str {d : Nat} {x : Str} (h : PyData.strOk x = true) : Ok1 d (.str x) := ⟨rfl, by simp [T.D, PyData.canLay0, h], by simp [T.D, PyData.depth]⟩
theorem ok1_list {d : Nat} : ∀ {ts : List T}, (∀ t ∈ ts, Ok1 d t) → T.plains ts = true ∧ PyData.canLayAll0 (T.Ds ts) = true ∧ PyData.depthAll (T.Ds ts) ≤ d
  | [], _ => ⟨rfl, by simp [T.Ds, PyData.canLayAll0], by simp [T.Ds, PyData.depthAll]⟩
  | t :: ts, h => by
    obtain ⟨h1, h2, h3⟩ := ok1_list fun t ht => h t (List.mem_cons_of_mem _ ht)
    have q := h t List.mem_cons_self
    refine ⟨by simp [T.plains, q.pl, h1], by simp [T.Ds, PyData.canLayAll0, q.lay, h2], ?_⟩
    simp only [T.Ds, PyData.depthAll]
    have := q.dp
    omega
theorem ok1_tup {d : Nat} {ts : List T} (h : ∀ t ∈ ts, Ok1 d t) : Ok1 (d + 1) (.tup ts) := by
  obtain ⟨h1, h2, h3⟩ := ok1_list h
  exact ⟨h1, by simp [T.D, PyData.canLay0, h2], by simp only [T.D, PyData.depth]; omega⟩
theorem ok1_lst {d : Nat} {ts : List T} (h : ∀ t ∈ ts, Ok1 d t) : Ok1 (d + 1) (.lst ts) := by
  obtain ⟨h1, h2, h3⟩ := ok1_list h
  exact ⟨h1, by simp [T.D, PyData.canLay0, h2], by simp only [T.D, PyData.depth]; omega⟩
theorem ok1_ints {d : Nat} {ns : List Int} : ∀ t ∈ ns.map T.int, Ok1 d t := fun t ht => by
  obtain ⟨n, _, rfl⟩ := List.mem_map.mp ht
  exact ok1_int
theorem eo_int {i : Int} : eqOk (.int i) = true := (ok1_int (d := 0)).eqOk (by decide)
theorem eo_bl {b : Bool} : eqOk (.bl b) = true := (ok1_bl (d := 0)).eqOk (by decide)
theorem eo_non : eqOk .non = true := (ok1_non (d := 0)).eqOk (by decide)
theorem eo_str {x : Str} (h : PyData.strOk x = true) : eqOk (.str x) = true := (ok1_str (d := 0) h).eqOk (by decide)
theorem eo_ints {ns : List Int} : eqOk (.lst (ns.map .int)) = true := (ok1_lst (d := 0) ok1_ints).eqOk (by decide)
theorem eo_intsT {ns : List Int} : eqOk (.tup (ns.map .int)) = true := (ok1_tup (d := 0) ok1_ints).eqOk (by decide)
theorem ev_int {i j : Int} : T.eqv (.int i) (.int j) = decide (i = j) := by rw [Bool.eq_iff_iff]; simp [T.eqv, T.D, PyData.eqv]
theorem ev_bl {i j : Bool} : T.eqv (.bl i) (.bl j) = decide (i = j) := by rw [Bool.eq_iff_iff]; simp [T.eqv, T.D, PyData.eqv]
theorem ev_str {i j : Str} : T.eqv (.str i) (.str j) = decide (i = j) := by rw [Bool.eq_iff_iff]; simp [T.eqv, T.D, PyData.eqv]
theorem ev_lst {xs ys : List T} : T.eqv (.lst xs) (.lst ys) = PyData.eqvAll (T.Ds xs) (T.Ds ys) := by simp [T.eqv, T.D, PyData.eqv]
theorem ev_tup {xs ys : List T} : T.eqv (.tup xs) (.tup ys) = PyData.eqvAll (T.Ds xs) (T.Ds ys) := by simp [T.eqv, T.D, PyData.eqv]
/-- == is equality where it is so of the parts -/
theorem eqvAll_iff : ∀ {xs ys : List T}, (∀ x ∈ xs, ∀ y ∈ ys, T.eqv x y = true ↔ x = y) → (PyData.eqvAll (T.Ds xs) (T.Ds ys) = true ↔ xs = ys)
  | [], [], _ => by simp [T.Ds, PyData.eqvAll]
  | [], y :: ys, _ => by simp [T.Ds, PyData.eqvAll]
  | x :: xs, [], _ => by simp [T.Ds, PyData.eqvAll]
  | x :: xs, y :: ys, h => by
    have h1 := h x List.mem_cons_self y List.mem_cons_self
    have h2 := eqvAll_iff (xs := xs) (ys := ys) fun a ha b hb => h a (List.mem_cons_of_mem _ ha) b (List.mem_cons_of_mem _ hb)
    simp only [T.Ds, PyData.eqvAll, Bool.and_eq_true, h2, List.cons.injEq]
    rw [show PyData.eqv x.D y.D = T.eqv x y from rfl, h1]
theorem map_int_inj {xs ys : List Int} : xs.map T.int = ys.map T.int ↔ xs = ys := by
  constructor
  · intro h
    induction xs generalizing ys with
    | nil => cases ys with
      | nil => rfl
      | cons _ _ => cases h
    | cons x xs ih => cases ys with
      | nil => cases h
      | cons y ys =>
        injection h with h1 h2
        injection h1 with h1
        rw [h1, ih h2]
  · intro h; rw [h]
theorem map_bl_inj {xs ys : List Bool} : xs.map T.bl = ys.map T.bl ↔ xs = ys := by
  constructor
  · intro h
    induction xs generalizing ys with
    | nil => cases ys with
      | nil => rfl
      | cons _ _ => cases h
    | cons x xs ih => cases ys with
      | nil => cases h
      | cons y ys =>
        injection h with h1 h2
        injection h1 with h1
        rw [h1, ih h2]
  · intro h; rw [h]
theorem eqvAll_ints {xs ys : List Int} : PyData.eqvAll (T.Ds (xs.map .int)) (T.Ds (ys.map .int)) = decide (xs = ys) := by
  rw [Bool.eq_iff_iff, eqvAll_iff, map_int_inj, decide_eq_true_eq]
  intro x hx y hy
  obtain ⟨i, _, rfl⟩ := List.mem_map.mp hx
  obtain ⟨j, _, rfl⟩ := List.mem_map.mp hy
  rw [ev_int, decide_eq_true_eq, T.int.injEq]
theorem ev_ints {xs ys : List Int} : T.eqv (.lst (xs.map .int)) (.lst (ys.map .int)) = decide (xs = ys) := by rw [ev_lst, eqvAll_ints]
theorem ev_intsT {xs ys : List Int} : T.eqv (.tup (xs.map .int)) (.tup (ys.map .int)) = decide (xs = ys) := by rw [ev_tup, eqvAll_ints]
theorem any_int {xs : List Int} {n : Int} : ((xs.map T.int).any fun t => T.eqv t (.int n)) = decide (n ∈ xs) := by
  rw [Bool.eq_iff_iff, List.any_eq_true, decide_eq_true_eq]
  constructor
  · rintro ⟨t, ht, e⟩
    obtain ⟨i, hi, rfl⟩ := List.mem_map.mp ht
    rw [ev_int, decide_eq_true_eq] at e
    rw [← e]
    exact hi
  · intro h
    exact ⟨.int n, List.mem_map_of_mem h, by rw [ev_int]; exact decide_eq_true rfl⟩
theorem atI_last_int {ns : List Int} (h : ns ≠ []) : atI (ns.map T.int) (-1) = some (.int (ns.getLast h)) := by
  rw [atI_map, atI_m1 h]
  rfl
theorem atI_int {ns : List Int} {i : Int} (h0 : 0 ≤ i) (h1 : i < ns.length) : atI (ns.map T.int) i = some (.int (ns[i.toNat]'(by omega))) := by
  rw [atI_map, atI_some h0 h1]
  rfl
theorem rngT_get {lo : Int} {n i : Nat} {t : T} (h : (rngT lo n)[i]? = some t) : i < n ∧ t = .int (lo + i) := by
  unfold rngT at h
  rw [List.getElem?_map] at h
  by_cases hi : i < n
  · rw [List.getElem?_range hi] at h
    cases h
    exact ⟨hi, rfl⟩
  · rw [List.getElem?_eq_none (by simpa using hi)] at h
    cases h
theorem rngT_len {lo : Int} {n : Nat} : (rngT lo n).length = n := by simp [rngT]
theorem ints_get {ns : List Int} {i : Nat} {t : T} (h : (ns.map T.int)[i]? = some t) : ∃ n, ns[i]? = some n ∧ t = .int n := by
  rw [List.getElem?_map] at h
  cases e : ns[i]? with
  | none => rw [e] at h; cases h
  | some n => rw [e] at h; cases h; exact ⟨n, rfl, rfl⟩
theorem sizeLine_val : sizeLine = 16777216 := by decide
end TL

namespace TL
open PySem L2
/-- an equation that is used by its proof -/
theorem rf {α : Sort u} {a b : α} (h : a = b) : a = b := h
class Bx (α : Sort u) : Sort (max 1 u) where
  get : α
def box {α : Sort u} [b : Bx α] : α := b.get
theorem bx_app {α : Sort u} {β : Sort v} {f : α → β} {x : α} : (@box (α → β) ⟨f⟩) x = f x := rf rfl
def seqD (u : TTS) (D : TEnds) : TEnds := { D with nx := u D }
def loopD (P b : TSt → Prop) (D : TEnds) : TEnds := { D with nx := P, ct := P, bk := b }
section
variable {u : TTS} {D : TEnds} {P b : TSt → Prop}
theorem sD_nx : (seqD u D).nx = u D := rf rfl
theorem sD_rt : (seqD u D).rt = D.rt := rf rfl
theorem sD_bk : (seqD u D).bk = D.bk := rf rfl
theorem sD_ct : (seqD u D).ct = D.ct := rf rfl
theorem lD_nx : (loopD P b D).nx = P := rf rfl
theorem lD_rt : (loopD P b D).rt = D.rt := rf rfl
theorem lD_bk : (loopD P b D).bk = b := rf rfl
theorem lD_ct : (loopD P b D).ct = P := rf rfl
end
def cnd (b : Bool) (f g : Unit → Prop) : Prop := if b = true then f () else g ()
theorem cnd_t {f g : Unit → Prop} : cnd true f g = f () := rf rfl
theorem cnd_f {f g : Unit → Prop} : cnd false f g = g () := rf rfl
theorem cnd_not {b : Bool} {f g : Unit → Prop} : cnd (!b) f g = cnd b g f := by cases b <;> rfl
theorem cnd_T {p : Prop} [Decidable p] {f g : Unit → Prop} (h : p) (hf : f ()) : cnd (decide p) f g := by rw [decide_eq_true h]; exact hf
theorem cnd_F {p : Prop} [Decidable p] {f g : Unit → Prop} (h : ¬p) (hg : g ()) : cnd (decide p) f g := by rw [decide_eq_false h]; exact hg
theorem cnd_2 {p : Prop} [Decidable p] {f g : Unit → Prop} (hf : p → f ()) (hg : ¬p → g ()) : cnd (decide p) f g := by
  by_cases h : p
  · exact cnd_T h (hf h)
  · exact cnd_F h (hg h)
theorem cnd_b {b : Bool} {f g : Unit → Prop} (hf : b = true → f ()) (hg : b = false → g ()) : cnd b f g := by
  cases b with
  | true => exact hf rfl
  | false => exact hg rfl
def blK (t : T) (k : Bool → Prop) : Prop := match t with
  | .bl b => k b
  | _ => False
theorem blK_bl {b : Bool} {k : Bool → Prop} : blK (.bl b) k = k b := rf rfl
def inK (t : T) (k : Int → Prop) : Prop := match t with
  | .int b => k b
  | _ => False
theorem inK_int {b : Int} {k : Int → Prop} : inK (.int b) k = k b := rf rfl
def opK (o : Option Bool) (k : Bool → Prop) : Prop := match o with
  | some b => k b
  | none => False
theorem opK_some {b : Bool} {k : Bool → Prop} : opK (some b) k = k b := rf rfl
def r1K (ts : List T) (τ : TSt) (P : List T → Lk → TSt → Prop) : Prop := match ts with
  | [.int j] => (-(2 ^ 62) ≤ j ∧ j < 2 ^ 62) ∧ P (rngT 0 j.toNat) none τ
  | _ => False
theorem r1K_i {j : Int} {τ : TSt} {P : List T → Lk → TSt → Prop} : r1K [.int j] τ P = ((-(2 ^ 62) ≤ j ∧ j < 2 ^ 62) ∧ P (rngT 0 j.toNat) none τ) := rf rfl
def r2K (ts : List T) (τ : TSt) (P : List T → Lk → TSt → Prop) : Prop := match ts with
  | [.int i, .int j] => (-(2 ^ 62) ≤ i ∧ i < 2 ^ 62 ∧ -(2 ^ 62) ≤ j ∧ j < 2 ^ 62) ∧ P (rngT i (j - i).toNat) none τ
  | _ => False
theorem r2K_i {i j : Int} {τ : TSt} {P : List T → Lk → TSt → Prop} : r2K [.int i, .int j] τ P = ((-(2 ^ 62) ≤ i ∧ i < 2 ^ 62 ∧ -(2 ^ 62) ≤ j ∧ j < 2 ^ 62) ∧ P (rngT i (j - i).toNat) none τ) := rf rfl
def frK (r : R) (o : Option (Option Sl)) (τ : TSt) (P : T → TSt → Prop) : Prop := match r with
  | .val _ t => P t τ
  | .var i => match o with
    | some (some ⟨.frz, _, t⟩) => P t τ
    | some (some ⟨.own, false, t⟩) => P t (τ.set i (some ⟨.frz, false, t⟩))
    | _ => False
theorem frz_val {k : Bool} {t : T} {τ : TSt} {P : T → TSt → Prop} : frzR (.val k t) τ P = P t τ := rf rfl
theorem frz_var {i : Nat} {τ : TSt} {P : T → TSt → Prop} : frzR (.var i) τ P = frK (.var i) τ[i]? τ P := rf rfl
theorem frK_f {i : Nat} {l : Bool} {t : T} {τ : TSt} {P : T → TSt → Prop} : frK (.var i) (some (some ⟨.frz, l, t⟩)) τ P = P t τ := rf rfl
theorem frK_o {i : Nat} {t : T} {τ : TSt} {P : T → TSt → Prop} : frK (.var i) (some (some ⟨.own, false, t⟩)) τ P = P t (τ.set i (some ⟨.frz, false, t⟩)) := rf rfl
theorem stR_v {t : T} {τ : TSt} {i : Nat} {P : TSt → Prop} : stR (.val true t) τ i P = setS τ i ⟨.own, false, t⟩ P := rf rfl
theorem stR_f {t : T} {τ : TSt} {i : Nat} {P : TSt → Prop} : stR (.val false t) τ i P = setS τ i ⟨.frz, false, t⟩ P := rf rfl
theorem stR_n {j : Nat} {τ : TSt} {i : Nat} {P : TSt → Prop} : stR (.var j) τ i P = frzR (.var j) τ (@box _ ⟨fun t τ1 => setS τ1 i ⟨.frz, false, t⟩ P⟩) := rf rfl
def slK (o : Option (Option Sl)) (i : Nat) (τ : TSt) (P : T → Lk → TSt → Prop) : Prop := match o with
  | some (some s) => P s.t (some i) τ
  | _ => False
theorem sl_eq {i : Nat} {τ : TSt} {P : T → Lk → TSt → Prop} : sl i τ P = slK τ[i]? i τ P := rf rfl
theorem slK_s {s : Sl} {i : Nat} {τ : TSt} {P : T → Lk → TSt → Prop} : slK (some (some s)) i τ P = P s.t (some i) τ := rf rfl
def mtK (o : Option (Option Sl)) (τ : TSt) (i : Nat) (ts : List T) (g : MG) (P : R → TSt → Prop) : Prop := match o with
  | some (some ⟨.own, false, t⟩) => g t ts fun t' u => P (.val false u) (τ.set i (some ⟨.own, false, t'⟩))
  | some (some ⟨.arg j, false, t⟩) => g t ts fun t' u => P (.val false u) (τ.set i (some ⟨.arg j, false, t'⟩))
  | _ => False
theorem mutS_eq {τ : TSt} {i : Nat} {ts : List T} {g : MG} {P : R → TSt → Prop} : mutS τ i ts g P = mtK τ[i]? τ i ts g P := rf rfl
theorem mtK_o {τ : TSt} {i : Nat} {ts : List T} {t : T} {g : MG} {P : R → TSt → Prop} : mtK (some (some ⟨.own, false, t⟩)) τ i ts g P = g t ts (@box _ ⟨fun t' u => P (.val false u) (τ.set i (some ⟨.own, false, t'⟩))⟩) := rf rfl
theorem mtK_a {τ : TSt} {i j : Nat} {ts : List T} {t : T} {g : MG} {P : R → TSt → Prop} : mtK (some (some ⟨.arg j, false, t⟩)) τ i ts g P = g t ts (@box _ ⟨fun t' u => P (.val false u) (τ.set i (some ⟨.arg j, false, t'⟩))⟩) := rf rfl
def sxK (o : Option (Option Sl)) (τ : TSt) (i : Nat) (k v : T) (P : TSt → Prop) : Prop := match o with
  | some (some ⟨.own, false, c⟩) => setG c k v fun c' => P (τ.set i (some ⟨.own, false, c'⟩))
  | some (some ⟨.arg j, false, c⟩) => setG c k v fun c' => P (τ.set i (some ⟨.arg j, false, c'⟩))
  | _ => False
theorem stIx_eq {τ : TSt} {i : Nat} {k v : T} {P : TSt → Prop} : stIx τ i k v P = sxK τ[i]? τ i k v P := rf rfl
theorem sxK_o {τ : TSt} {i : Nat} {c k v : T} {P : TSt → Prop} : sxK (some (some ⟨.own, false, c⟩)) τ i k v P = setG c k v (@box _ ⟨fun c' => P (τ.set i (some ⟨.own, false, c'⟩))⟩) := rf rfl
theorem sxK_a {τ : TSt} {i j : Nat} {c k v : T} {P : TSt → Prop} : sxK (some (some ⟨.arg j, false, c⟩)) τ i k v P = setG c k v (@box _ ⟨fun c' => P (τ.set i (some ⟨.arg j, false, c'⟩))⟩) := rf rfl
def rtK (r : R) (o : Option (Option Sl)) (τ : TSt) (P : R → TSt → Prop) : Prop := match o with
    | some (some ⟨.frz, _, t⟩) => P (.val false t) τ
    | some (some ⟨.own, _, t⟩) => P (.val true t) τ
    | _ => False
theorem ret_val {k : Bool} {t : T} {τ : TSt} {P : R → TSt → Prop} : retR (.val k t) τ P = P (.val k t) τ := rf rfl
theorem ret_var {i : Nat} {τ : TSt} {P : R → TSt → Prop} : retR (.var i) τ P = rtK (.var i) τ[i]? τ P := rf rfl
theorem rtK_f {r : R} {l : Bool} {t : T} {τ : TSt} {P : R → TSt → Prop} : rtK r (some (some ⟨.frz, l, t⟩)) τ P = P (.val false t) τ := rf rfl
theorem rtK_o {r : R} {l : Bool} {t : T} {τ : TSt} {P : R → TSt → Prop} : rtK r (some (some ⟨.own, l, t⟩)) τ P = P (.val true t) τ := rf rfl
theorem ends_rt {as : List Sl} {PR : R → List T → Prop} {r : R} {τ : TSt} : (endsT as PR).rt r τ = retR r τ (@box _ ⟨fun r' τ' => keptA as τ' ∧ PR r' (outA as τ')⟩) := rf rfl
theorem ends_nx {as : List Sl} {PR : R → List T → Prop} {τ : TSt} : (endsT as PR).nx τ = (keptA as τ ∧ PR (.val false .non) (outA as τ)) := rf rfl
section
variable {τ : TSt} {P : R → TSt → Prop} {Pb : Bool → TSt → Prop} {Pl : List T → TSt → Prop} {Pa : List R → TSt → Prop} {Po : Option Int → TSt → Prop} {Px : T → Lk → TSt → Prop} {Pi : List T → Lk → TSt → Prop} {Pg : TSt → Prop}
  {te ta tb tc ti : TTE} {tl : TTL} {tt tu : TTT} {g g' : G2} {c1 : C1} {cn : CN} {t u : TTS} {D : TEnds} {i : Nat} {isL : Bool} {mg : MG} {tx : TTX} {tg : TTG} {tgs : TTGs} {taa : TTA} {S : TSp} {XT : String → TSt → Prop} {lo hi : TTO} {cc : String}
theorem z_v : tv i τ P = ((∃ s, τ[i]? = some (some s)) ∧ P (.var i) τ) := rf rfl
theorem z_k {x : T} : tk x τ P = P (.val false x) τ := rf rfl
theorem z_tf : tf te τ P = te τ (@box _ ⟨fun r τ1 => frzR r τ1 (@box _ ⟨fun u τ2 => P (.val false u) τ2⟩)⟩) := rf rfl
theorem z_nil : tlnil τ Pl = Pl [] τ := rf rfl
theorem z_cons : tlcons te tl τ Pl = te τ (@box _ ⟨fun r τ1 => frzR r τ1 (@box _ ⟨fun t τ2 => tl τ2 (@box _ ⟨fun ts τ3 => Pl (t :: ts) τ3⟩)⟩)⟩) := rf rfl
theorem z_tup : ttTup tl τ P = tl τ (@box _ ⟨fun ts τ1 => ts.length ≤ sizeLine ∧ P (.val false (.tup ts)) τ1⟩) := rf rfl
theorem z_lst : ttLst tl τ P = tl τ (@box _ ⟨fun ts τ1 => ts.length ≤ sizeLine ∧ P (.val true (.lst ts)) τ1⟩) := rf rfl
theorem z_bin : ttBin g ta tb τ P = ta τ (@box _ ⟨fun ra τ1 => tb τ1 (@box _ ⟨fun rb τ2 => g (ra.t τ2) (rb.t τ2) (@box _ ⟨fun k t => P (.val k t) τ2⟩)⟩)⟩) := rf rfl
theorem z_B : ttB te τ Pb = te τ (@box _ ⟨fun r τ1 => blK (r.t τ1) (@box _ ⟨fun b => Pb b τ1⟩)⟩) := rf rfl
theorem z_and : ttAnd tt tu τ Pb = tt τ (@box _ ⟨fun c τ1 => cnd c (@box _ ⟨fun _ => tu τ1 Pb⟩) (@box _ ⟨fun _ => Pb false τ1⟩)⟩) := rf rfl
theorem z_or : ttOr tt tu τ Pb = tt τ (@box _ ⟨fun c τ1 => cnd c (@box _ ⟨fun _ => Pb true τ1⟩) (@box _ ⟨fun _ => tu τ1 Pb⟩)⟩) := rf rfl
theorem z_not : ttNot tt τ Pb = tt τ (@box _ ⟨fun c τ1 => Pb (!c) τ1⟩) := rf rfl
theorem z_if : ttIf tt ta tb τ P = tt τ (@box _ ⟨fun c τ1 => cnd c (@box _ ⟨fun _ => ta τ1 P⟩) (@box _ ⟨fun _ => tb τ1 P⟩)⟩) := rf rfl
theorem z_andV : ttAndV ta tb τ P = ta τ (@box _ ⟨fun r τ1 => blK (r.t τ1) (@box _ ⟨fun b => cnd b (@box _ ⟨fun _ => tb τ1 P⟩) (@box _ ⟨fun _ => P (.val false (.bl false)) τ1⟩)⟩)⟩) := rf rfl
theorem z_orV : ttOrV ta tb τ P = ta τ (@box _ ⟨fun r τ1 => blK (r.t τ1) (@box _ ⟨fun b => cnd b (@box _ ⟨fun _ => P (.val false (.bl true)) τ1⟩) (@box _ ⟨fun _ => tb τ1 P⟩)⟩)⟩) := rf rfl
theorem z_notV : ttNotV ta τ P = ta τ (@box _ ⟨fun r τ1 => blK (r.t τ1) (@box _ ⟨fun b => P (.val false (.bl (!b))) τ1⟩)⟩) := rf rfl
theorem z_chain : ttChain g g' ta tb tc τ P = ta τ (@box _ ⟨fun ra τ1 => tb τ1 (@box _ ⟨fun rb τ2 => g (ra.t τ2) (rb.t τ2) (@box _ ⟨fun _ t => blK t (@box _ ⟨fun b => cnd b (@box _ ⟨fun _ => tc τ2 (@box _ ⟨fun rc τ3 => rb.t τ3 = rb.t τ2 ∧ g' (rb.t τ3) (rc.t τ3) (@box _ ⟨fun k t => P (.val k t) τ3⟩)⟩)⟩) (@box _ ⟨fun _ => P (.val false (.bl false)) τ2⟩)⟩)⟩)⟩)⟩) := by
  unfold ttChain
  refine congrArg (ta τ) (funext fun ra => funext fun τ1 => congrArg (tb τ1) (funext fun rb => funext fun τ2 => congrArg (g (ra.t τ2) (rb.t τ2)) (funext fun k => funext fun t => ?_)))
  cases t with
  | bl b => cases b <;> rfl
  | _ => rfl
theorem z_ix : ttIx ta tb τ P = ta τ (@box _ ⟨fun ra τ1 => tb τ1 (@box _ ⟨fun rb τ2 => ixT (ra.t τ2) (rb.t τ2) (@box _ ⟨fun t => P (.val false t) τ2⟩)⟩)⟩) := rf rfl
theorem z_toN : toN τ Po = Po none τ := rf rfl
theorem z_toS : toS te τ Po = te τ (@box _ ⟨fun r τ1 => inK (r.t τ1) (@box _ ⟨fun i => Po (some i) τ1⟩)⟩) := rf rfl
theorem z_sl : ttSl te lo hi τ P = te τ (@box _ ⟨fun r τ1 => lo τ1 (@box _ ⟨fun l τ2 => hi τ2 (@box _ ⟨fun h τ3 => slT' (r.t τ3) l h (@box _ ⟨fun k t => P (.val k t) τ3⟩)⟩)⟩)⟩) := rf rfl
def mtL (isL : Bool) (t : T) : Prop := match t with
  | .lst _ => isL = true
  | .dct _ _ => isL = false
  | _ => False
theorem mtL_l {b : Bool} {ts : List T} : mtL b (.lst ts) = (b = true) := rf rfl
theorem mtL_d {b : Bool} {ks : List Key} {ts : List T} : mtL b (.dct ks ts) = (b = false) := rf rfl
theorem z_mut : ttMut isL i tl mg τ P = (mtL isL (slT τ i) ∧ (∃ s, τ[i]? = some (some s)) ∧ tl τ (@box _ ⟨fun ts τ1 => mutS τ1 i ts mg P⟩)) := rf rfl
theorem z_d0 : ttDict0 τ P = P (.val true (.dct [] [])) τ := rf rfl
theorem z_c1 : ttC1 c1 te τ P = te τ (@box _ ⟨fun r τ1 => c1 (r.t τ1) (@box _ ⟨fun k t => P (.val k t) τ1⟩)⟩) := rf rfl
theorem z_u : ttU c1 te τ P = te τ (@box _ ⟨fun r τ1 => c1 (r.t τ1) (@box _ ⟨fun k t => P (.val k t) τ1⟩)⟩) := rf rfl
theorem z_cn : ttCn cn tl τ P = tl τ (@box _ ⟨fun ts τ1 => cn ts (@box _ ⟨fun k t => P (.val k t) τ1⟩)⟩) := rf rfl
theorem z_isi : ttIsi cc te τ P = te τ (@box _ ⟨fun r τ1 => opK (isiT cc (r.t τ1)) (@box _ ⟨fun b => P (.val false (.bl b)) τ1⟩)⟩) := rf rfl
theorem z_aN : taNil τ Pa = Pa [] τ := rf rfl
theorem z_aF : taF te taa τ Pa = te τ (@box _ ⟨fun r τ1 => frzR r τ1 (@box _ ⟨fun t τ2 => taa τ2 (@box _ ⟨fun rs τ3 => Pa (.val false t :: rs) τ3⟩)⟩)⟩) := rf rfl
theorem z_aV : taV i taa τ Pa = ((∃ s, τ[i]? = some (some s)) ∧ taa τ (@box _ ⟨fun rs τ3 => Pa (.var i :: rs) τ3⟩)) := rf rfl
theorem z_call : ttCall S XT taa τ P = taa τ (@box _ ⟨fun rs τ1 => varsOk rs = true ∧ S (mkA τ1 0 rs) (@box _ ⟨fun r ts => ts.length = rs.length ∧ putB rs ts τ1 (@box _ ⟨fun τ2 => P r τ2⟩)⟩) (@box _ ⟨fun c ts => ts.length = rs.length ∧ putB rs ts τ1 (@box _ ⟨fun τ2 => XT c τ2⟩)⟩)⟩) := rf rfl
theorem z_next : ttNext D τ = D.nx τ := rf rfl
theorem z_brk : ttBreak D τ = D.bk τ := rf rfl
theorem z_cont : ttCont D τ = D.ct τ := rf rfl
theorem z_seq : ttSeq t u D τ = t (seqD u D) τ := rf rfl
theorem z_drop : ttDrop te D τ = te τ (@box _ ⟨fun _ τ1 => D.nx τ1⟩) := rf rfl
theorem z_ret : ttRet te D τ = te τ (@box _ ⟨fun r τ1 => D.rt r τ1⟩) := rf rfl
theorem z_retN : ttRetN D τ = D.rt (.val false .non) τ := rf rfl
theorem z_ifS : ttIfS tt t u D τ = tt τ (@box _ ⟨fun b τ1 => cnd b (@box _ ⟨fun _ => t D τ1⟩) (@box _ ⟨fun _ => u D τ1⟩)⟩) := rf rfl
theorem z_set : ttSet i te D τ = te τ (@box _ ⟨fun r τ1 => stR r τ1 i D.nx⟩) := rf rfl
theorem z_tgN {x : T} : tgN i x τ Pg = setS τ i ⟨.frz, false, x⟩ Pg := rf rfl
theorem z_gsN : tgsNil [] τ Pg = Pg τ := rf rfl
theorem z_gsC {x : T} {xs : List T} : tgsCons tg tgs (x :: xs) τ Pg = tg x τ (@box _ ⟨fun τ1 => tgs xs τ1 Pg⟩) := rf rfl
theorem z_tgT {n : Nat} {xs : List T} : tgTup n tgs (.tup xs) τ Pg = (xs.length = n ∧ tgs xs τ Pg) := rf rfl
theorem z_asg : ttAsg te tg D τ = te τ (@box _ ⟨fun r τ1 => frzR r τ1 (@box _ ⟨fun t τ2 => tg t τ2 D.nx⟩)⟩) := rf rfl
theorem z_setIx : ttSetIx i te ti D τ = te τ (@box _ ⟨fun r τ1 => frzR r τ1 (@box _ ⟨fun t τ2 => (∃ s, τ2[i]? = some (some s)) ∧ ti τ2 (@box _ ⟨fun ri τ3 => stIx τ3 i (ri.t τ3) t D.nx⟩)⟩)⟩) := rf rfl
theorem z_sf : sf te τ Px = te τ (@box _ ⟨fun r τ1 => frzR r τ1 (@box _ ⟨fun t τ2 => Px t none τ2⟩)⟩) := rf rfl
theorem z_seqs : tiSeq tx τ Pi = tx τ (@box _ ⟨fun t u τ1 => seqI t (@box _ ⟨fun ts => Pi ts u τ1⟩)⟩) := rf rfl
theorem z_rev : tiRev tx τ Pi = tx τ (@box _ ⟨fun t u τ1 => revI t (@box _ ⟨fun ts => Pi ts u τ1⟩)⟩) := rf rfl
theorem z_zip : tiZip tx te τ Pi = tx τ (@box _ ⟨fun t u τ1 => te τ1 (@box _ ⟨fun r τ2 => frzR r τ2 (@box _ ⟨fun t2 τ3 => zipI t t2 (@box _ ⟨fun ts => Pi ts u τ3⟩)⟩)⟩)⟩) := rf rfl
theorem z_rng1 : tiRng1 tl τ Pi = tl τ (@box _ ⟨fun ts τ1 => r1K ts τ1 Pi⟩) := rf rfl
theorem z_rng2 : tiRng2 tl τ Pi = tl τ (@box _ ⟨fun ts τ1 => r2K ts τ1 Pi⟩) := rf rfl
theorem z_yes : ttYes τ Pb = Pb true τ := rf rfl
end
def slK2 (o : Option (Option Sl)) : T := match o with
  | some (some s) => s.t
  | _ => .non
theorem y_sl2 {s : Sl} : slK2 (some (some s)) = s.t := rf rfl
def mkK (j : Nat) (o : Option (Option Sl)) : Sl := match o with
    | some (some ⟨.frz, _, t⟩) => ⟨.frz, false, t⟩
    | some (some ⟨_, _, t⟩) => ⟨.arg j, false, t⟩
    | _ => ⟨.frz, false, .non⟩
theorem y_mkf {j : Nat} {l : Bool} {t : T} : mkK j (some (some ⟨.frz, l, t⟩)) = ⟨.frz, false, t⟩ := rf rfl
theorem y_mko {j : Nat} {l : Bool} {t : T} : mkK j (some (some ⟨.own, l, t⟩)) = ⟨.arg j, false, t⟩ := rf rfl
theorem y_mka {j i : Nat} {l : Bool} {t : T} : mkK j (some (some ⟨.arg i, l, t⟩)) = ⟨.arg j, false, t⟩ := rf rfl
def pbK (o : Option (Option Sl)) (i : Nat) (rs : List R) (t : T) (ts : List T) (τ : TSt) (P : TSt → Prop) : Prop := match o with
    | some (some ⟨.frz, _, _⟩) => putB rs ts τ P
    | some (some ⟨k, false, _⟩) => putB rs ts (τ.set i (some ⟨k, false, t⟩)) P
    | some (some ⟨_, true, u⟩) => u = t ∧ putB rs ts τ P
    | _ => False
def vne (i : Nat) (r : R) : Bool := match r with | .var j => !(i == j) | _ => true
def kpK (k : Kd) (j : Nat) (o : Option (Option Sl)) : Prop := match k with
    | .frz => True
    | _ => match o with
      | some (some ⟨.arg m, _, _⟩) => m = j
      | _ => False
def lckK (o : Option (Option Sl)) (l : Bool) (i : Nat) (τ : TSt) : TSt := match o with
  | some (some s) => τ.set i (some ⟨s.k, l, s.t⟩)
  | _ => τ
def unK (o : Option (Option Sl)) (i : Nat) (τ2 : TSt) : TSt := match o with
    | some (some s) => lckT s.l i τ2
    | _ => τ2
section
variable {τ : TSt} {i j m b : Nat} {k : Bool} {t x u : T} {rs : List R} {ts : List T} {as : List Sl} {s : Sl} {l : Bool} {P : TSt → Prop}
theorem y_tv : (R.val k t).t τ = t := rf rfl
theorem y_tn : (R.var i).t τ = slK2 τ[i]? := rf rfl
theorem y_slT : slT τ i = slK2 τ[i]? := rf rfl
theorem y_set {s : Sl} : setS τ i s P = (canS τ[i]? = true ∧ P (τ.set i (some s))) := rf rfl
theorem y_mkN : mkA τ j [] = [] := rf rfl
theorem y_mkV : mkA τ j (.val k t :: rs) = ⟨.frz, false, t⟩ :: mkA τ (j + 1) rs := rf rfl
theorem y_mkn : mkA τ j (.var i :: rs) = mkK j τ[i]? :: mkA τ (j + 1) rs := rf rfl
theorem y_pbV : putB (.val k t :: rs) (x :: ts) τ P = putB rs ts τ P := rf rfl
theorem y_pbn : putB (.var i :: rs) (x :: ts) τ P = pbK τ[i]? i rs x ts τ P := rf rfl
theorem y_pbN : putB [] ts τ P = P τ := rf (by unfold putB; rfl)
theorem y_pbf : pbK (some (some ⟨.frz, l, u⟩)) i rs x ts τ P = putB rs ts τ P := rf rfl
theorem y_pbo : pbK (some (some ⟨.own, false, u⟩)) i rs x ts τ P = putB rs ts (τ.set i (some ⟨.own, false, x⟩)) P := rf rfl
theorem y_pba : pbK (some (some ⟨.arg j, false, u⟩)) i rs x ts τ P = putB rs ts (τ.set i (some ⟨.arg j, false, x⟩)) P := rf rfl
theorem y_pbl : pbK (some (some ⟨.own, true, u⟩)) i rs x ts τ P = (u = x ∧ putB rs ts τ P) := rf rfl
theorem y_pbm : pbK (some (some ⟨.arg j, true, u⟩)) i rs x ts τ P = (u = x ∧ putB rs ts τ P) := rf rfl
theorem y_voN : varsOk [] = true := rf rfl
theorem y_voV : varsOk (.val k t :: rs) = varsOk rs := rf rfl
theorem y_von : varsOk (.var i :: rs) = ((rs.all (vne i)) && varsOk rs) := rf rfl
theorem y_vnV : vne i (.val k t) = true := rf rfl
theorem y_vnn : vne i (.var j) = !(i == j) := rf rfl
theorem y_out : outA as τ = outN τ 0 as := rf rfl
theorem y_onN : outN τ j [] = [] := rf (by unfold outN; rfl)
theorem y_onC : outN τ j (s :: as) = slT τ j :: outN τ (j + 1) as := rf (by conv => lhs; unfold outN)
theorem y_st : startT m as = as.map some ++ List.replicate (m - as.length) none := rf rfl
theorem y_kp : keptA as τ = keptN τ 0 as := rf rfl
theorem y_kpN : keptN τ j [] = True := rf (by unfold keptN; rfl)
theorem y_kpC : keptN τ j (s :: as) = (kpK s.k j τ[j]? ∧ keptN τ (j + 1) as) := by
  conv => lhs; unfold keptN
  unfold kpK
  cases s.k <;> rfl
theorem y_kpf {o : Option (Option Sl)} : kpK .frz j o = True := rf rfl
theorem y_kpa : kpK (.arg i) j (some (some ⟨.arg m, l, t⟩)) = (m = j) := rf rfl
theorem y_lkN : lck none τ = τ := rf rfl
theorem y_lkS : lck (some i) τ = lckK τ[i]? true i τ := rf rfl
theorem y_lkT : lckT l i τ = lckK τ[i]? l i τ := rf rfl
theorem y_lks : lckK (some (some s)) l i τ = τ.set i (some ⟨s.k, l, s.t⟩) := rf rfl
theorem y_unN {τ1 : TSt} : unl none τ1 τ = τ := rf rfl
theorem y_unS {τ1 : TSt} : unl (some i) τ1 τ = unK τ1[i]? i τ := rf rfl
theorem y_uns : unK (some (some s)) i τ = lckT s.l i τ := rf rfl
theorem y_wN : wipeT τ [] = τ := rf (by unfold wipeT; rfl)
theorem y_bN {τ1 : TSt} : backT τ τ1 [] = τ1 := rf (by unfold backT; rfl)
theorem y_bC {τ1 : TSt} {v : Nat} {vs : List Nat} : backT τ τ1 (v :: vs) = (backT τ τ1 vs).set v ((τ[v]?).getD none) := rf (by conv => lhs; unfold backT)
theorem y_wC {v : Nat} {vs : List Nat} : wipeT τ (v :: vs) = (wipeT τ vs).set v none := rf (by conv => lhs; unfold wipeT)
end
def forT (g : TTG) (tb : TTS) (D : TEnds) (ts : List T) (u : Lk) (τ1 : TSt) : Prop := ∃ Pv : Nat → TSt → Prop, Pv 0 (lck u τ1) ∧
  (∀ i t τ2, ts[i]? = some t → Pv i τ2 → g t τ2 fun τ3 => tb { D with nx := Pv (i + 1), ct := Pv (i + 1), bk := fun τ4 => D.nx (unl u τ1 τ4) } τ3) ∧ ∀ τ2, Pv ts.length τ2 → D.nx (unl u τ1 τ2)
theorem ttFor_eq {ti : TTI} {g : TTG} {tb : TTS} {D : TEnds} {τ : TSt} : ttFor ti g tb D τ = ti τ (@box _ ⟨fun ts u τ1 => forT g tb D ts u τ1⟩) := rf rfl
theorem forT_p {α : Type} {ts : List T} {u : Lk} {τ1 : TSt} {g : TTG} {tb : TTS} {D : TEnds} (st : α → TSt) (I : Nat → α → Prop) (a0 : α) (e0 : lck u τ1 = st a0) (h0 : I 0 a0)
    (h : ∀ i t a, ts[i]? = some t → I i a → g t (st a) (@box _ ⟨fun τ3 => tb (loopD (fun τ' => ∃ a', τ' = st a' ∧ I (i + 1) a') (@box _ ⟨fun τ4 => D.nx (unl u τ1 τ4)⟩) D) τ3⟩))
    (hd : ∀ a, I ts.length a → D.nx (unl u τ1 (st a))) : forT g tb D ts u τ1 := for_p st I a0 e0 h0 h hd
def lcT (g : TTG) (tt : TTT) (te : TTE) (vs : List Nat) (P : R → TSt → Prop) (ts : List T) (u : Lk) (τ1 : TSt) : Prop := (∀ v ∈ vs, frzAt (lck u τ1) v) ∧ ∃ Pv : Nat → List T → TSt → Prop, Pv 0 [] (wipeT (lck u τ1) vs) ∧
  (∀ i t acc τ2, ts[i]? = some t → Pv i acc τ2 → g t τ2 fun τ3 => tt τ3 fun b τ4 =>
    if b = true then te τ4 fun r τ5 => frzR r τ5 fun y τ6 => acc.length < sizeLine ∧ Pv (i + 1) (acc ++ [y]) (wipeT τ6 vs) else Pv (i + 1) acc (wipeT τ4 vs)) ∧
  ∀ acc τ2, Pv ts.length acc τ2 → P (.val true (.lst acc)) (unl u τ1 (backT (lck u τ1) τ2 vs))
theorem ttLc_eq {ti : TTI} {g : TTG} {tt : TTT} {te : TTE} {vs : List Nat} {τ : TSt} {P : R → TSt → Prop} : ttLc ti g tt te vs τ P = ti τ (@box _ ⟨fun ts u τ1 => lcT g tt te vs P ts u τ1⟩) := rf rfl
theorem frzAt_none {τ : TSt} {i : Nat} (h : τ[i]? = some none) : frzAt τ i := by unfold frzAt; rw [h]; trivial
/-- a comprehension whose turns change nothing -/
theorem lcT_p {ts : List T} {u : Lk} {τ1 : TSt} {g : TTG} {tt : TTT} {te : TTE} {vs : List Nat} {P : R → TSt → Prop} (f : T → Option T) (hf : ∀ v ∈ vs, frzAt (lck u τ1) v) (hl : ts.length ≤ sizeLine)
    (h : ∀ t ∈ ts, g t (wipeT (lck u τ1) vs) (@box _ ⟨fun τ3 => tt τ3 (@box _ ⟨fun b τ4 => cnd b (@box _ ⟨fun _ => te τ4 (@box _ ⟨fun r τ5 => frzR r τ5 (@box _ ⟨fun y τ6 => f t = some y ∧ wipeT τ6 vs = wipeT (lck u τ1) vs⟩)⟩)⟩) (@box _ ⟨fun _ => f t = none ∧ wipeT τ4 vs = wipeT (lck u τ1) vs⟩)⟩)⟩))
    (hd : P (.val true (.lst (ts.filterMap f))) (unl u τ1 (backT (lck u τ1) (wipeT (lck u τ1) vs) vs))) : lcT g tt te vs P ts u τ1 :=
  ⟨hf, lc_pure (Q := fun acc τ2 => P (.val true (.lst acc)) (unl u τ1 (backT (lck u τ1) τ2 vs))) f hl h hd⟩
theorem lcT_m {ts : List T} {u : Lk} {τ1 : TSt} {g : TTG} {te : TTE} {vs : List Nat} {P : R → TSt → Prop} (f : T → T) (hf : ∀ v ∈ vs, frzAt (lck u τ1) v) (hl : ts.length ≤ sizeLine)
    (h : ∀ t ∈ ts, g t (wipeT (lck u τ1) vs) (@box _ ⟨fun τ3 => te τ3 (@box _ ⟨fun r τ5 => frzR r τ5 (@box _ ⟨fun y τ6 => f t = y ∧ wipeT τ6 vs = wipeT (lck u τ1) vs⟩)⟩)⟩))
    (hd : P (.val true (.lst (ts.map f))) (unl u τ1 (backT (lck u τ1) (wipeT (lck u τ1) vs) vs))) : lcT g ttYes te vs P ts u τ1 :=
  ⟨hf, lc_map (Q := fun acc τ2 => P (.val true (.lst acc)) (unl u τ1 (backT (lck u τ1) τ2 vs))) f hl h hd⟩
theorem intsT_map {ns : List Int} {k : List Int → Prop} : intsT (ns.map T.int) k = k ns := by
  apply propext
  constructor
  · rintro ⟨ms, e, h⟩
    rw [map_int_inj.mp e]
    exact h
  · exact fun h => ⟨ns, rfl, h⟩
theorem blsT_map {ns : List Bool} {k : List Bool → Prop} : blsT (ns.map T.bl) k = k ns := by
  apply propext
  constructor
  · rintro ⟨ms, e, h⟩
    rw [map_bl_inj.mp e]
    exact h
  · exact fun h => ⟨ns, rfl, h⟩
/-- while, by a family of states -/
theorem while_b {α : Type} {c : TTT} {tb : TTS} {D : TEnds} {τ : TSt} (st : α → TSt) (I : α → Prop) (μ : α → Nat) (a0 : α) (e0 : τ = st a0) (h0 : I a0)
    (h : ∀ a, I a → c (st a) (@box _ ⟨fun b τ1 => cnd b (@box _ ⟨fun _ => tb (loopD (fun τ' => ∃ a', τ' = st a' ∧ I a' ∧ μ a' < μ a) D.nx D) τ1⟩) (@box _ ⟨fun _ => D.nx τ1⟩)⟩)) : ttWhile c tb D τ := while_p st I μ a0 e0 h0 h
/-- a slot that holds nothing, or an owned value -/
def ofO (o : Option T) : Option Sl := o.map fun t => ⟨.own, false, t⟩
theorem canS_ofO {o : Option T} : canS (some (ofO o)) = true := by cases o <;> rfl
theorem ofO_none : ofO none = none := rf rfl
theorem ofO_some {t : T} : ofO (some t) = some ⟨.own, false, t⟩ := rf rfl
/-- a slot that holds nothing, a frozen or an owned value -/
def ofE (o : Option (Bool × T)) : Option Sl := o.map fun p => ⟨if p.1 = true then .own else .frz, false, p.2⟩
theorem canS_ofE {o : Option (Bool × T)} : canS (some (ofE o)) = true := by
  rcases o with _ | ⟨b, t⟩
  · rfl
  · cases b <;> rfl
theorem ofE_none : ofE none = none := rfl
theorem ofE_f {t : T} : ofE (some (false, t)) = some ⟨.frz, false, t⟩ := rfl
theorem ofE_o {t : T} : ofE (some (true, t)) = some ⟨.own, false, t⟩ := rfl
theorem atI_4 {α : Type} {x y z u v : α} {xs : List α} : atI (x :: y :: z :: u :: v :: xs) 4 = some v := atI_nat (j := 4) rfl
theorem atI_5 {α : Type} {x y z u v w : α} {xs : List α} : atI (x :: y :: z :: u :: v :: w :: xs) 5 = some w := atI_nat (j := 5) rfl
theorem isi_int_non  : isiT "int" .non = some false := rf rfl
theorem isi_int_bl {b : Bool} : isiT "int" (.bl b) = some true := rf rfl
theorem isi_int_int {i : Int} : isiT "int" (.int i) = some true := rf rfl
theorem isi_int_str {x : Str} : isiT "int" (.str x) = some false := rf rfl
theorem isi_int_tup {ts : List T} : isiT "int" (.tup ts) = some false := rf rfl
theorem isi_int_lst {ts : List T} : isiT "int" (.lst ts) = some false := rf rfl
theorem isi_bool_non  : isiT "bool" .non = some false := rf rfl
theorem isi_bool_bl {b : Bool} : isiT "bool" (.bl b) = some true := rf rfl
theorem isi_bool_int {i : Int} : isiT "bool" (.int i) = some false := rf rfl
theorem isi_bool_str {x : Str} : isiT "bool" (.str x) = some false := rf rfl
theorem isi_bool_tup {ts : List T} : isiT "bool" (.tup ts) = some false := rf rfl
theorem isi_bool_lst {ts : List T} : isiT "bool" (.lst ts) = some false := rf rfl
theorem isi_str_non  : isiT "str" .non = some false := rf rfl
theorem isi_str_bl {b : Bool} : isiT "str" (.bl b) = some false := rf rfl
theorem isi_str_int {i : Int} : isiT "str" (.int i) = some false := rf rfl
theorem isi_str_str {x : Str} : isiT "str" (.str x) = some true := rf rfl
theorem isi_str_tup {ts : List T} : isiT "str" (.tup ts) = some false := rf rfl
theorem isi_str_lst {ts : List T} : isiT "str" (.lst ts) = some false := rf rfl
theorem isi_tuple_non  : isiT "tuple" .non = some false := rf rfl
theorem isi_tuple_bl {b : Bool} : isiT "tuple" (.bl b) = some false := rf rfl
theorem isi_tuple_int {i : Int} : isiT "tuple" (.int i) = some false := rf rfl
theorem isi_tuple_str {x : Str} : isiT "tuple" (.str x) = some false := rf rfl
theorem isi_tuple_tup {ts : List T} : isiT "tuple" (.tup ts) = some true := rf rfl
theorem isi_tuple_lst {ts : List T} : isiT "tuple" (.lst ts) = some false := rf rfl
theorem isi_list_non  : isiT "list" .non = some false := rf rfl
theorem isi_list_bl {b : Bool} : isiT "list" (.bl b) = some false := rf rfl
theorem isi_list_int {i : Int} : isiT "list" (.int i) = some false := rf rfl
theorem isi_list_str {x : Str} : isiT "list" (.str x) = some false := rf rfl
theorem isi_list_tup {ts : List T} : isiT "list" (.tup ts) = some false := rf rfl
theorem isi_list_lst {ts : List T} : isiT "list" (.lst ts) = some true := rf rfl
theorem q_add_0 {i j : Int}{k : Bool → T → Prop} : (addT (.int i) (.int j) k) = (k false (.int (i + j))) := rf rfl
theorem q_add_1 {x y : Str}{k : Bool → T → Prop} : (addT (.str x) (.str y) k) = (x.length + y.length ≤ sizeLine ∧ k false (.str (x ++ y))) := rf rfl
theorem q_add_2 {xs ys : List T}{k : Bool → T → Prop} : (addT (.lst xs) (.lst ys) k) = (xs.length + ys.length ≤ sizeLine ∧ k true (.lst (xs ++ ys))) := rf rfl
theorem q_add_3 {xs ys : List T}{k : Bool → T → Prop} : (addT (.tup xs) (.tup ys) k) = (xs.length + ys.length ≤ sizeLine ∧ k false (.tup (xs ++ ys))) := rf rfl
theorem q_sub_0 {i j : Int}{k : Bool → T → Prop} : (subT (.int i) (.int j) k) = (True ∧ k false (.int (i - j))) := rf rfl
theorem q_mul_0 {i j : Int}{k : Bool → T → Prop} : (mulT (.int i) (.int j) k) = (MulOk i j ∧ k false (.int (i * j))) := rf rfl
theorem q_mul_1 {xs : List T} {j : Int}{k : Bool → T → Prop} : (mulT (.lst xs) (.int j) k) = ((-(2 ^ 63) ≤ j ∧ j < 2 ^ 63 ∧ xs.length * j.toNat ≤ sizeLine) ∧ k true (.lst (List.replicate j.toNat xs).flatten)) := rf rfl
theorem q_fdiv_0 {i j : Int}{k : Bool → T → Prop} : (fdivT (.int i) (.int j) k) = ((0 < j ∧ j.natAbs.log2 < 9000) ∧ k false (.int (i / j))) := rf rfl
theorem q_mod_0 {i j : Int}{k : Bool → T → Prop} : (modT (.int i) (.int j) k) = (0 < j ∧ k false (.int (i % j))) := rf rfl
theorem q_pow_0 {i j : Int}{k : Bool → T → Prop} : (powT (.int i) (.int j) k) = ((0 ≤ j ∧ j ≤ 1000000 ∧ i.natAbs < 2 ^ 64) ∧ k false (.int (i ^ j.toNat))) := rf rfl
theorem q_shl_0 {i j : Int}{k : Bool → T → Prop} : (shlT (.int i) (.int j) k) = ((0 ≤ j ∧ j ≤ 1000000 ∧ i.natAbs < 2 ^ 64) ∧ k false (.int (i * 2 ^ j.toNat))) := rf rfl
theorem q_lt_0 {i j : Int}{k : Bool → T → Prop} : (ltT (.int i) (.int j) k) = (k false (.bl (decide (i < j)))) := rf rfl
theorem q_le_0 {i j : Int}{k : Bool → T → Prop} : (leT (.int i) (.int j) k) = (k false (.bl (decide (i ≤ j)))) := rf rfl
theorem q_gt_0 {i j : Int}{k : Bool → T → Prop} : (gtT (.int i) (.int j) k) = (k false (.bl (decide (j < i)))) := rf rfl
theorem q_ge_0 {i j : Int}{k : Bool → T → Prop} : (geT (.int i) (.int j) k) = (k false (.bl (decide (j ≤ i)))) := rf rfl
theorem q_eq_0 {i j : Int}{k : Bool → T → Prop} : (eqT (.int i) (.int j) k) = (k false (.bl (decide (i = j)))) := by unfold eqT; rw [eo_int, eo_int, ev_int]; simp
theorem q_ne_0 {i j : Int}{k : Bool → T → Prop} : (neT (.int i) (.int j) k) = (k false (.bl (!decide (i = j)))) := by unfold neT; rw [eo_int, eo_int, ev_int]; simp
theorem q_eq_1 {i j : Bool}{k : Bool → T → Prop} : (eqT (.bl i) (.bl j) k) = (k false (.bl (decide (i = j)))) := by unfold eqT; rw [eo_bl, eo_bl, ev_bl]; simp
theorem q_ne_1 {i j : Bool}{k : Bool → T → Prop} : (neT (.bl i) (.bl j) k) = (k false (.bl (!decide (i = j)))) := by unfold neT; rw [eo_bl, eo_bl, ev_bl]; simp
theorem q_eq_2 {ns ms : List Int}{k : Bool → T → Prop} : (eqT (.lst (ns.map T.int)) (.lst (ms.map T.int)) k) = (k false (.bl (decide (ns = ms)))) := by unfold eqT; rw [eo_ints, eo_ints, ev_ints]; simp
theorem q_ne_2 {ns ms : List Int}{k : Bool → T → Prop} : (neT (.lst (ns.map T.int)) (.lst (ms.map T.int)) k) = (k false (.bl (!decide (ns = ms)))) := by unfold neT; rw [eo_ints, eo_ints, ev_ints]; simp
theorem q_eq_3 {ns ms : List Int}{k : Bool → T → Prop} : (eqT (.tup (ns.map T.int)) (.tup (ms.map T.int)) k) = (k false (.bl (decide (ns = ms)))) := by unfold eqT; rw [eo_intsT, eo_intsT, ev_intsT]; simp
theorem q_ne_3 {ns ms : List Int}{k : Bool → T → Prop} : (neT (.tup (ns.map T.int)) (.tup (ms.map T.int)) k) = (k false (.bl (!decide (ns = ms)))) := by unfold neT; rw [eo_intsT, eo_intsT, ev_intsT]; simp
theorem q_is_0 {b : Bool}{o : Bool}{k : Bool → T → Prop} : (isT o (.bl b) .non k) = (k false (.bl o)) := by cases o <;> rfl
theorem q_is_1 {o : Bool}{k : Bool → T → Prop} : (isT o .non .non k) = (k false (.bl (!o))) := by cases o <;> rfl
theorem q_is_2 {i : Int}{o : Bool}{k : Bool → T → Prop} : (isT o (.int i) .non k) = (k false (.bl o)) := by cases o <;> rfl
theorem q_is_3 {x : Str}{o : Bool}{k : Bool → T → Prop} : (isT o (.str x) .non k) = (k false (.bl o)) := by cases o <;> rfl
theorem q_is_4 {xs : List T}{o : Bool}{k : Bool → T → Prop} : (isT o (.tup xs) .non k) = (k false (.bl o)) := by cases o <;> rfl
theorem q_is_5 {xs : List T}{o : Bool}{k : Bool → T → Prop} : (isT o (.lst xs) .non k) = (k false (.bl o)) := by cases o <;> rfl
theorem q_is_6 {a b o : Bool}{k : Bool → T → Prop} : (isT o (.bl a) (.bl b) k) = (k false (.bl (o != decide (a = b)))) := rf rfl
theorem q_in_0 {ns : List Int} {n : Int} {o : Bool}{k : Bool → T → Prop} : (inT o (.int n) (.lst (ns.map T.int)) k) = (k false (.bl (o != decide (n ∈ ns)))) := by unfold inT; simp only [eo_int, eo_ints, any_int]; simp
theorem q_in_1 {ns : List Int} {n : Int} {o : Bool}{k : Bool → T → Prop} : (inT o (.int n) (.tup (ns.map T.int)) k) = (k false (.bl (o != decide (n ∈ ns)))) := by unfold inT; simp only [eo_int, eo_intsT, any_int]; simp
theorem q_in_2 {ks : List Key} {ts : List T} {n : Int} {o : Bool}{k : Bool → T → Prop} : (inT o (.int n) (.dct ks ts) k) = (k false (.bl (o != kMem (Sum.inl n) ks))) := rf rfl
theorem q_ix_0 {ts : List T}{i : Int}{k : T → Prop} : (ixT (.lst ts) (.int i) k) = (∃ t, atI ts i = some t ∧ k t) := rf rfl
theorem q_ix_1 {ts : List T}{i : Int}{k : T → Prop} : (ixT (.tup ts) (.int i) k) = (∃ t, atI ts i = some t ∧ k t) := rf rfl
theorem q_ix_2 {ns : List Int}{i : Int}{k : T → Prop} : (ixT (.scr ns) (.int i) k) = (∃ n, atI ns i = some n ∧ k (.int n)) := rf rfl
theorem q_ix_3 {z : Str}{i : Int}{k : T → Prop} : (ixT (.str z) (.int i) k) = (z.length ≤ sizeLine ∧ ∃ c, atI z.cps.toList i = some c ∧ k (.str ⟨#[c]⟩)) := rf rfl
theorem q_sl_0 {ts : List T}{lo hi : Option Int}{k : Bool → T → Prop} : (slT' (.lst ts) lo hi k) = (k true (.lst (cutT ts lo hi))) := rf rfl
theorem q_sl_1 {ts : List T}{lo hi : Option Int}{k : Bool → T → Prop} : (slT' (.tup ts) lo hi k) = (k false (.tup (cutT ts lo hi))) := rf rfl
theorem q_sl_2 {ns : List Int}{lo hi : Option Int}{k : Bool → T → Prop} : (slT' (.scr ns) lo hi k) = (k true (.lst (cutT (ns.map T.int) lo hi))) := rf rfl
theorem q_sl_3 {z : Str}{lo hi : Option Int}{k : Bool → T → Prop} : (slT' (.str z) lo hi k) = (z.length ≤ sizeLine ∧ k false (.str (cutS z lo hi))) := rf rfl
theorem q_len_0 {ts : List T}{k : Bool → T → Prop} : (lenT (.lst ts) k) = (k false (.int ts.length)) := rf rfl
theorem q_len_1 {ts : List T}{k : Bool → T → Prop} : (lenT (.tup ts) k) = (k false (.int ts.length)) := rf rfl
theorem q_len_2 {ns : List Int}{k : Bool → T → Prop} : (lenT (.scr ns) k) = (k false (.int ns.length)) := rf rfl
theorem q_len_3 {z : Str}{k : Bool → T → Prop} : (lenT (.str z) k) = (z.length ≤ sizeLine ∧ k false (.int z.length)) := rf rfl
theorem q_list_0 {ts : List T}{k : Bool → T → Prop} : (listT (.lst ts) k) = (k true (.lst ts)) := rf rfl
theorem q_list_1 {ts : List T}{k : Bool → T → Prop} : (listT (.tup ts) k) = (k true (.lst ts)) := rf rfl
theorem q_list_2 {ns : List Int}{k : Bool → T → Prop} : (listT (.scr ns) k) = (k true (.lst (ns.map T.int))) := rf rfl
theorem q_tuple_0 {ts : List T}{k : Bool → T → Prop} : (tupleT (.lst ts) k) = (k false (.tup ts)) := rf rfl
theorem q_tuple_1 {ts : List T}{k : Bool → T → Prop} : (tupleT (.tup ts) k) = (k false (.tup ts)) := rf rfl
theorem q_tuple_2 {ns : List Int}{k : Bool → T → Prop} : (tupleT (.scr ns) k) = (k false (.tup (ns.map T.int))) := rf rfl
theorem q_int_0 {i : Int}{k : Bool → T → Prop} : (intC (.int i) k) = (k false (.int i)) := rf rfl
theorem q_int_1 {b : Bool}{k : Bool → T → Prop} : (intC (.bl b) k) = (k false (.int (TL.b2i b))) := rf rfl
theorem q_sum_0 {ts : List T}{k : Bool → T → Prop} : (sumT (.lst ts) k) = (intsT ts fun ns => k false (.int ns.sum)) := rf rfl
theorem q_all_0 {ts : List T}{k : Bool → T → Prop} : (allT (.lst ts) k) = (blsT ts fun bs => k false (.bl (bs.all _root_.id))) := rf rfl
theorem q_any_0 {ts : List T}{k : Bool → T → Prop} : (anyT (.lst ts) k) = (blsT ts fun bs => k false (.bl (bs.any _root_.id))) := rf rfl
theorem q_sorted_0 {ts : List T}{k : Bool → T → Prop} : (sortedT (.lst ts) k) = (intsT ts fun ns => k true (.lst ((srt ns).map T.int))) := rf rfl
theorem q_max2_0 {i j : Int}{k : Bool → T → Prop} : (max2T [.int i, .int j] k) = (k false (.int (if j > i then j else i))) := rf rfl
theorem q_min2_0 {i j : Int}{k : Bool → T → Prop} : (min2T [.int i, .int j] k) = (k false (.int (if j < i then j else i))) := rf rfl
theorem q_neg_0 {i : Int}{k : Bool → T → Prop} : (negT (.int i) k) = (k false (.int (-i))) := rf rfl
theorem q_append_0 {us : List T}{x : T}{k : T → T → Prop} : (appendG (.lst us) [x] k) = (us.length < sizeLine ∧ k (.lst (us ++ [x])) .non) := rf rfl
theorem q_extend_0 {us xs : List T}{k : T → T → Prop} : (extendG (.lst us) [.lst xs] k) = (us.length + xs.length ≤ sizeLine ∧ k (.lst (us ++ xs)) .non) := rf rfl
theorem q_insert_0 {us : List T}{x : T}{i : Int}{k : T → T → Prop} : (insertG (.lst us) [.int i, x] k) = ((us.length < sizeLine ∧ 0 ≤ i ∧ i < 2 ^ 63) ∧ k (.lst (us.take i.toNat ++ [x] ++ us.drop i.toNat)) .non) := rf rfl
theorem q_seq_0 {ts : List T}{k : List T → Prop} : (seqI (.lst ts) k) = (k ts) := rf rfl
theorem q_seq_1 {ts : List T}{k : List T → Prop} : (seqI (.tup ts) k) = (k ts) := rf rfl
theorem q_seq_2 {ns : List Int}{k : List T → Prop} : (seqI (.scr ns) k) = (k (ns.map T.int)) := rf rfl
theorem q_rev_0 {ts : List T}{k : List T → Prop} : (revI (.lst ts) k) = (k ts.reverse) := rf rfl
theorem q_rev_1 {ts : List T}{k : List T → Prop} : (revI (.tup ts) k) = (k ts.reverse) := rf rfl
theorem q_zip_0 {xs ys : List T}{k : List T → Prop} : (zipI (.lst xs) (.lst ys) k) = (k (List.zipWith (fun x y => T.tup [x, y]) xs ys)) := rf rfl
theorem q_zip_1 {xs ys : List T}{k : List T → Prop} : (zipI (.tup xs) (.tup ys) k) = (k (List.zipWith (fun x y => T.tup [x, y]) xs ys)) := rf rfl
theorem q_setG_0 {ts : List T}{i : Int}{v : T}{k : T → Prop} : (setG (.lst ts) (.int i) v k) = (∃ j, ixN ts.length i = some j ∧ k (.lst (ts.set j v))) := rf rfl
theorem q_setG_1 {ks : List Key}{ts : List T}{i : Int}{v : T}{k : T → Prop} : (setG (.dct ks ts) (.int i) v k) = (ks.length < sizeLine ∧ k (.dct (dPutK ks (Sum.inl i)) (dPutV ks ts (Sum.inl i) v))) := by simp [setG, keyT]
end TL

namespace TL
open PySem L2
theorem _root_.L2.Room.units65 {k : Nat} {A : Around} (r : Room k A) : A.units + 65 < cLine := by have := r.un; omega
def cls0 : String → Addr := fun _ => 0
/-- the law's own call -/
theorem law_sp {K : PySem.W.Frag} {cls : String → Addr} {S : TSp} {E : XK} (H : Hp) (a : Addr) (ns : List Int) (hl : ns.length ≤ 63) (ho : Only H) (hS : SqL K H a (ns.map V.int))
    (h : S [⟨.frz, false, .scr ns⟩] (fun r _ => r = .val false (.bl true)) fun _ _ => False) : liftSp K cls S [.ref a] H (fun v _ => v = .bl true) E := by
  have rp : Rep K H (.scr ns) (.ref a) := ⟨a, rfl, hS, Nat.le_trans hl (by decide)⟩
  have one : ∀ {j : Nat} {s : Sl}, ([⟨.frz, false, .scr ns⟩] : List Sl)[j]? = some s → j = 0 ∧ s = ⟨.frz, false, .scr ns⟩ := fun {j s} e => by
    cases j with
    | zero => cases e; exact ⟨rfl, rfl⟩
    | succ j => simp at e
  refine ⟨H, _, _, _, ⟨fun _ _ e => e, rfl, fun j s e => ?_, fun j s v e1 e2 hk => ?_, fun j s v e1 e2 hk => ?_, fun i j b e1 e2 => ?_⟩, h, fun r ts F' H' v hr _ rc => ?_, fun _ _ _ _ h _ => h.elim⟩
  · obtain ⟨rfl, rfl⟩ := one e
    rfl
  · obtain ⟨rfl, rfl⟩ := one e1
    cases e2
    exact rp
  · obtain ⟨rfl, rfl⟩ := one e1
    exact absurd rfl hk
  · cases i with
    | zero => cases e1
    | succ i => simp [argA] at e1
  · subst hr
    exact rc
/-- a comprehension whose turns change what stands, by a family of states -/
theorem lcT_f {α : Type} {ts : List T} {u : Lk} {τ1 : TSt} {g : TTG} {tt : TTT} {te : TTE} {vs : List Nat} {P : R → TSt → Prop} (st : α → TSt) (I : Nat → List T → α → Prop) (a0 : α) (hf : ∀ v ∈ vs, frzAt (lck u τ1) v) (e0 : wipeT (lck u τ1) vs = st a0) (h0 : I 0 [] a0)
    (h : ∀ i t acc a, ts[i]? = some t → I i acc a → g t (st a) (@box _ ⟨fun τ3 => tt τ3 (@box _ ⟨fun b τ4 => cnd b (@box _ ⟨fun _ => te τ4 (@box _ ⟨fun r τ5 => frzR r τ5 (@box _ ⟨fun y τ6 => acc.length < sizeLine ∧ ∃ a', wipeT τ6 vs = st a' ∧ I (i + 1) (acc ++ [y]) a'⟩)⟩)⟩) (@box _ ⟨fun _ => ∃ a', wipeT τ4 vs = st a' ∧ I (i + 1) acc a'⟩)⟩)⟩))
    (hd : ∀ acc a, I ts.length acc a → P (.val true (.lst acc)) (unl u τ1 (backT (lck u τ1) (st a) vs))) : lcT g tt te vs P ts u τ1 :=
  ⟨hf, fun i acc τ => ∃ a, τ = st a ∧ I i acc a, ⟨a0, e0, h0⟩, fun i t acc τ2 ht ⟨a, e, ha⟩ => by subst e; exact h i t acc a ht ha, fun acc τ2 ⟨a, e, ha⟩ => by subst e; exact hd acc a ha⟩
def intF (p : Int → Bool) (g : Int → Int) (t : T) : Option T := match t with
  | .int i => if p i = true then some (.int (g i)) else none
  | _ => none
theorem intF_y {p : Int → Bool} {g : Int → Int} {i : Int} (h : p i = true) : intF p g (.int i) = some (.int (g i)) := by simp [intF, h]
theorem intF_n {p : Int → Bool} {g : Int → Int} {i : Int} (h : p i = false) : intF p g (.int i) = none := by simp [intF, h]
theorem fm_ints {p : Int → Bool} {g : Int → Int} : ∀ {xs : List Int}, (xs.map T.int).filterMap (intF p g) = ((xs.filter p).map g).map T.int
  | [] => rfl
  | x :: xs => by
    rw [List.map_cons, List.filterMap_cons, List.filter_cons]
    cases h : p x with
    | true => rw [intF_y h, if_pos rfl]; simp only [fm_ints, List.map_cons]
    | false => rw [intF_n h, if_neg (by simp)]; simp only [fm_ints]
def rngI (lo : Int) (n : Nat) : List Int := (List.range n).map fun k : Nat => lo + k
theorem rngT_ints {lo : Int} {n : Nat} : rngT lo n = (rngI lo n).map T.int := by
  unfold rngT rngI
  rw [List.map_map]
  rfl
theorem rngI_len {lo : Int} {n : Nat} : (rngI lo n).length = n := by simp [rngI]
theorem atI_bl {bs : List Bool} {j : Int} (h0 : 0 ≤ j) (h1 : j < bs.length) : atI (bs.map T.bl) j = some (.bl (bs.getD j.toNat false)) := by
  rw [atI_map, atI_some h0 h1]
  simp only [Option.map_some]
  rw [List.getD_eq_getElem?_getD, List.getElem?_eq_getElem (by omega)]
  rfl
end TL

namespace TL
open PySem L2
section
variable {X : Cx}
def absT : C1 := fun t k => match t with
  | .int i => k false (.int (if i < 0 then -i else i))
  | _ => False
theorem q_abs_0 {i : Int} {k : Bool → T → Prop} : absT (.int i) k = k false (.int (if i < 0 then -i else i)) := rf rfl
end
def blF (p : Int → Bool) (t : T) : T := match t with
  | .int i => .bl (p i)
  | t => t
theorem map_blF {p : Int → Bool} {xs : List Int} : (xs.map T.int).map (blF p) = (xs.map p).map T.bl := by
  rw [List.map_map, List.map_map]
  rfl
theorem find_yes {α : Type} {p : α → Bool} {xs : List α} {i : Nat} {x : α} (h : (xs.take i).find? p = none) (hx : xs[i]? = some x) (hp : p x = true) : xs.find? p = some x := by
  have e : xs = xs.take i ++ xs.drop i := (List.take_append_drop i xs).symm
  have hi : i < xs.length := (List.getElem?_eq_some_iff.mp hx).1
  have e2 : xs.drop i = x :: xs.drop (i + 1) := by
    rw [List.drop_eq_getElem_cons hi]
    rw [List.getElem?_eq_getElem hi] at hx
    cases hx
    rfl
  rw [e, List.find?_append, h, e2, List.find?_cons_of_pos hp]
  rfl
theorem sorted_drop {xs : List Int} {k : Nat} {x y : Int} (hs : xs.Pairwise (· < ·)) (hx : xs[k]? = some x) : y ∈ xs.drop (k + 1) ↔ (y ∈ xs ∧ x < y) := by
  have hi : k < xs.length := (List.getElem?_eq_some_iff.mp hx).1
  have ex : xs[k] = x := by rw [List.getElem?_eq_getElem hi] at hx; exact Option.some.inj hx
  rw [List.pairwise_iff_getElem] at hs
  constructor
  · intro h
    obtain ⟨j, hj, e⟩ := List.mem_iff_getElem.mp h
    rw [List.getElem_drop] at e
    rw [List.length_drop] at hj
    refine ⟨List.mem_of_mem_drop h, ?_⟩
    have := hs k (k + 1 + j) hi (by omega) (by omega)
    rw [← e, ← ex]
    exact this
  · rintro ⟨h, hlt⟩
    obtain ⟨j, hj, e⟩ := List.mem_iff_getElem.mp h
    have hk : k < j := by
      rcases Nat.lt_trichotomy j k with q | q | q
      · have := hs j k hj hi q
        omega
      · subst q
        omega
      · exact q
    rw [List.mem_iff_getElem]
    refine ⟨j - (k + 1), by rw [List.length_drop]; omega, ?_⟩
    rw [List.getElem_drop]
    rw [← e]
    congr 1
    omega
theorem sorted_drop0 {xs : List Int} {k : Nat} {x y : Int} (hs : xs.Pairwise (· < ·)) (hx : xs[k]? = some x) : y ∈ xs.drop k ↔ (y ∈ xs ∧ x ≤ y) := by
  have hi : k < xs.length := (List.getElem?_eq_some_iff.mp hx).1
  have ex : xs[k] = x := by rw [List.getElem?_eq_getElem hi] at hx; exact Option.some.inj hx
  rw [List.drop_eq_getElem_cons hi, List.mem_cons, sorted_drop hs hx, ex]
  constructor
  · rintro (rfl | ⟨h1, h2⟩)
    · exact ⟨List.mem_of_getElem? hx, Int.le_refl _⟩
    · exact ⟨h1, by omega⟩
  · rintro ⟨h1, h2⟩
    by_cases e : y = x
    · exact .inl e
    · exact .inr ⟨h1, by omega⟩
theorem pw_snoc {xs : List Int} {x : Int} (hs : xs.Pairwise (· < ·)) (h : ∀ y ∈ xs, y < x) : (xs ++ [x]).Pairwise (· < ·) := by
  rw [List.pairwise_append]
  exact ⟨hs, List.pairwise_singleton _ _, fun a ha b hb => by rw [List.mem_singleton.mp hb]; exact h a ha⟩
end TL

namespace TL
open PySem PySem.W L2
section
variable {X : Cx}
theorem Ds_ints : ∀ ns : List Int, T.Ds (ns.map T.int) = ns.map PyData.int
  | [] => rfl
  | n :: ns => by rw [List.map_cons, List.map_cons, T.Ds, Ds_ints ns]; rfl
theorem dAll_ints : ∀ ns : List Int, PyData.depthAll (ns.map PyData.int) = 0
  | [] => by simp [PyData.depthAll]
  | n :: ns => by simp [PyData.depthAll, PyData.depth, dAll_ints ns]
end
end TL

namespace TL
open PySem PySem.W PySem.Spec PyProof.Rows L2
open AutoSeq1 (wpAny_loadPart')
/-- enumerate of a tuple, as it is made -/
theorem meets_enum_tup (l : Addr) (items : Array Value) (n : Nat) (dct : Option Addr) (sl : Array (Option Value)) :
    Meets (Builtin.«enumerate.__new__» ⟨[.type "enumerate", .ref l], []⟩) (fun _ R s => s.heap.get? l = some { cls := .type "tuple", dict := dct, data := .seq items n, slots := sl } ∧
      R (.ok (.ret (.ref (s.heap.push { cls := .type "tuple_iterator", data := .fields #[.ref l, .int 0 0] }).objs.size)))
        { s with heap := (s.heap.push { cls := .type "tuple_iterator", data := .fields #[.ref l, .int 0 0] }).push { cls := .type "enumerate", data := .fields #[.none, .bool false, .ref s.heap.objs.size, rawInt 0, .none, .none] } }) :=
  .of_wp fun prog w A R s h => by
    obtain ⟨hp, g, d, tk, os⟩ := s; obtain ⟨hl, h⟩ := h
    have hsub := sub_enumerate
    have hL : Heap.IsTuple (Shared.heap ⟨hp, g, d, tk, os⟩) l items := ⟨_, hl, rfl, n, rfl⟩
    wp_walk using wpAny_loadPart' hl
    refine wpAny_stack_any fun st => wpAny_pure ?_
    split
    · rename_i c _ _ _ _ _
      cases (c == Value.type "enumerate")
      · wp_walk using wpAny_loadPart' hl, wpAny_pyIter_tuple hL
        exact ⟨_, rfl, h⟩
      · wp_walk using wpAny_loadPart' hl, wpAny_pyIter_tuple hL
        exact ⟨_, rfl, h⟩
    · wp_walk using wpAny_loadPart' hl, wpAny_pyIter_tuple hL
      exact ⟨_, rfl, h⟩
theorem call_enum_tup {prog : Program} {w : World} {A : Around} {E : Value → Shared → Prop} {s : Shared} {l : Addr} {items : Array Value} {Q : Value → Shared → Prop} (hL : s.heap.IsTuple l items)
    (h : ∀ h', IsEnum h' (s.heap.objs.size + 1) s.heap.objs.size 0 .none → h'.IsTupleIter s.heap.objs.size l 0 → h'.objs.size = s.heap.objs.size + 2 →
      (∀ b o, s.heap.get? b = some o → h'.get? b = some o) → Q (.ref (s.heap.objs.size + 1)) { s with heap := h' }) :
    wpAny (model prog w) A (call (.type "enumerate") [.ref l]) Q E s := by
  obtain ⟨⟨c, dct, dt, sl⟩, hl, hc, n, hd⟩ := hL
  replace hc : c = .type "tuple" := hc
  replace hd : dt = .seq items n := hd
  subst hc hd
  refine callType_new F.called_enumerate (by decide) (F.typeCall_enumerate_1 _) (F.newCall_enumerate_1 _) (fun obj => F.args_object_init_2 obj _) F.entry_enumerate_new
    (meets_enum_tup l items n dct sl) ⟨hl, ?_⟩
  have hz : (s.heap.push { cls := .type "tuple_iterator", data := .fields #[.ref l, .int 0 0] }).objs.size = s.heap.objs.size + 1 := Heap.size_push ..
  show _ ∧ _
  rw [hz]
  have he : IsEnum ((s.heap.push { cls := .type "tuple_iterator", data := .fields #[.ref l, .int 0 0] }).push
      { cls := .type "enumerate", data := .fields #[.none, .bool false, .ref s.heap.objs.size, rawInt 0, .none, .none] }) (s.heap.objs.size + 1) s.heap.objs.size 0 .none := by
    have := Heap.get?_push_size (s.heap.push { cls := .type "tuple_iterator", data := .fields #[.ref l, .int 0 0] })
      (o := { cls := .type "enumerate", data := .fields #[.none, .bool false, .ref s.heap.objs.size, rawInt 0, .none, .none] }) rfl
    rw [hz] at this; exact this
  refine ⟨⟨_, he, rfl⟩, h _ he ⟨_, Heap.get?_push_of_some _ (Heap.get?_push_size _ rfl), rfl, rfl⟩ (by rw [Heap.size_push, hz]) fun b o x => Heap.get?_push_of_some _ (Heap.get?_push_of_some _ x)⟩
/-- at turn i a new tuple of such values, while A stands; n turns -/
def Itw (n : Nat) (A : Hp → Prop) (Pv : Nat → Hp → List V → Prop) : It :=
  ⟨fun i H => i < n ∧ A H, fun i H v H' => ∃ T vs, v = .ref T ∧ H T = none ∧ vs.length ≤ sizeLine ∧ H' = upd H T (.tup vs) ∧ Pv i H vs, fun i H => i = n ∧ A H⟩
theorem turn_gn {P : Program} {w : World} {K : PySem.W.Frag} {tg : Expr} {n : Nat} {A : Hp → Prop} {Pv : Nat → Hp → List V → Prop} {I : Addr} {ft wr : List Addr} {tn : Nat → Heap → Prop}
    (mem : I ∈ ft) (sub : ∀ b ∈ wr, b ∈ ft) (obj : ∀ i h, tn i h → ∀ b ∈ ft, ∃ o, h.get? b = some o ∧ ∀ v, o.data ≠ .cell v) (keep : ∀ i h h', tn i h → (∀ b ∈ ft, ∀ o, h.get? b = some o → h'.get? b = some o) → tn i h')
    (wk : ∀ (X : Cx), X.prog = P → X.w = w → X.K = K → X.calm = true → ∀ (i : Nat) (pins : List (Addr × Obj)) (s : Shared) (σ : L2.St) (H : Hp), Inv X pins σ H s → tn i s.heap → A H →
      ∃ (Y : Nat → Heap → Value → Heap → Prop) (St : Nat → Heap → Prop) (fp : List Addr), GoesN P w X.A tg I fp wr n Y St ∧ St i s.heap ∧ (∀ h', St (i + 1) h' → tn (i + 1) h') ∧
        ∀ v h', Y i s.heap v h' → ∃ T us vs, v = .ref T ∧ s.heap.objs.size ≤ T ∧ h'.IsTuple T (List.toArray us) ∧ Vals vs us ∧ vs.length ≤ sizeLine ∧ Pv i H vs)
    (self : ∀ (A : Around) (i : Nat) (s : Shared) (Q : Value → Shared → Prop) (E : Value → Shared → Prop), tn i s.heap → Q (.ref I) s → wpAny (model P w) A (pyIter (.ref I)) Q E s) :
    Turn P w K tg (Itw n A Pv) ft I tn where
  mem := mem
  obj := obj
  keep := keep
  self := self
  item := by
    intro X hP hw hK hc i pins s σ H E J hf st hg
    subst hP hw hK
    obtain ⟨hi, hA⟩ := hg
    obtain ⟨Y, St, fp, G, hs, nx, yl⟩ := wk X rfl rfl rfl hc i pins s σ H J st hA
    have lt : ∀ b ∈ ft, b < s.heap.objs.size := fun b hb => by
      obtain ⟨o, e, _⟩ := obj i _ st b hb
      exact Heap.lt_size e
    refine wpAny_mono (G.goes i s (fun v s2 => ∃ x H', Inv X pins σ H' s2 ∧ RelV x v ∧ (Itw n A Pv).yld i H x H' ∧ tn (i + 1) s2.heap ∧ ∀ b ∈ ft, H' b = none) E hi hs fun v h' tk hY hS hk _ => ?_) (fun r s1 ⟨v, e, q⟩ => ⟨v, e, q⟩) fun _ _ e => e
    obtain ⟨T, us, vs, rfl, hT, tup, rv, hl, pv⟩ := yl v h' hY
    have nT : H T = none := J.hok.fresh hT
    have ok : ObjOk X.prog X.w (upd H T (.tup vs)) h' T (.tup vs) := ⟨hl, us, rv, tup⟩
    have J2 : Inv X pins σ (upd H T (.tup vs)) { s with heap := h', toks := tk } := J.turnedNew (ch := wr) (t' := tk) hk (fun b hb => hf b (sub b hb)) hT ok
    refine ⟨.ref T, _, J2, rfl, ⟨T, vs, rfl, nT, hl, rfl, pv⟩, nx h' hS, fun b hb => ?_⟩
    rw [upd_ne (Nat.ne_of_lt (Nat.lt_of_lt_of_le (lt b hb) hT))]
    exact (hf b hb).1
  done := by
    intro X hP hw hK hc i pins s σ H E J hf st hg
    subst hP hw hK
    obtain ⟨rfl, hA⟩ := hg
    obtain ⟨Y, St, fp, G, hs, _, _⟩ := wk X rfl rfl rfl hc i pins s σ H J st hA
    refine G.stops s (fun s1 => Inv X pins σ H s1) E hs fun h' tk hk _ => ?_
    have out : ∀ b u, H b = some u → b ∉ wr := fun b u e z => by
      rw [(hf b (sub b z)).1] at e
      cases e
    refine J.step (g' := s.gens) (d' := s.drawn) (ch := wr) ?_ (fun b o _ _ hc e _ => hk b o hc e) (fun b o _ _ hc e _ => ⟨_, hk b o hc e⟩) (fun _ _ _ _ n => n) (fun b o hc e => ⟨o, hk b o hc e⟩) (fun _ _ e => e) (fun _ _ _ e => e) (fun b ps e => ⟨#[], by simpa using e⟩) ?_ ?_ J.bare
    · intro b hb
      obtain ⟨_, f1, _, f3, f4, f5⟩ := hf b (sub b hb)
      exact ⟨f3, f1, f4, f5⟩
    · rintro m ⟨o, es, ep, ho, r⟩
      exact ⟨o, es, ep, hk _ o (fun z => (hf _ (sub _ z)).2.1 rfl) ho, r⟩
    · intro b u e
      refine (J.hok b u e).stay (fun c v hc q => hk c v ?_ q) (fun _ q => q) fun _ _ q => q
      cases hc with
      | inl z => rw [z]; exact out b u e
      | inr z => exact out c _ z
def SrcK (K : PySem.W.Frag) (b : Bool) (H : Hp) (a : Addr) (xs : List V) : Prop := if b = true then SqL K H a xs else SqT K H a xs
def itr (b : Bool) (h : Heap) (it a : Addr) (i : Nat) : Prop := if b = true then h.IsListIter it a i else h.IsTupleIter it a i
def sqn (b : Bool) (h : Heap) (a : Addr) (items : Array Value) : Prop := if b = true then h.IsList a items else h.IsTuple a items
theorem itr_obj {b : Bool} {h : Heap} {it a : Addr} {i : Nat} (x : itr b h it a i) : ∃ o, h.get? it = some o ∧ ∀ v, o.data ≠ .cell v := by
  unfold itr at x
  split at x
  · obtain ⟨o, e, _, d⟩ := x
    exact ⟨o, e, fun v z => by rw [d] at z; cases z⟩
  · obtain ⟨o, e, _, d⟩ := x
    exact ⟨o, e, fun v z => by rw [d] at z; cases z⟩
theorem itr_keep {b : Bool} {h h' : Heap} {it a : Addr} {i : Nat} (x : itr b h it a i) (k : ∀ o, h.get? it = some o → h'.get? it = some o) : itr b h' it a i := by
  unfold itr at x ⊢
  split
  · rename_i e
    rw [if_pos e] at x
    exact x.at k
  · rename_i e
    rw [if_neg e] at x
    exact x.at k
theorem itr_ne {b : Bool} {h : Heap} {it a : Addr} {i : Nat} {items : Array Value} (x : itr b h it a i) (y : sqn b h a items) : a ≠ it := fun z => by
  subst z
  unfold itr at x
  unfold sqn at y
  split at x
  · rename_i e
    rw [if_pos e] at y
    obtain ⟨o1, h1, c1, _⟩ := x
    obtain ⟨o2, h2, c2, _⟩ := y
    rw [h1] at h2
    cases h2
    rw [c1] at c2
    injection c2 with c2
    exact absurd c2 (by decide)
  · rename_i e
    rw [if_neg e] at y
    obtain ⟨o1, h1, c1, _⟩ := x
    obtain ⟨o2, h2, c2, _⟩ := y
    rw [h1] at h2
    cases h2
    rw [c1] at c2
    injection c2 with c2
    exact absurd c2 (by decide)
theorem draws_b {P : Program} {w : World} {A : Around} (b : Bool) (hh : A.handled = none) (it a : Addr) (hne : a ≠ it) (items : Array Value) :
    Draws P w A it [it, a] items.size (fun i v => items[i]? = some v) (fun i h => itr b h it a i ∧ sqn b h a items) := by
  cases b with
  | true => exact Draws.list hh it a hne items
  | false => exact Draws.tuple hh it a hne items
section
variable {X : Cx} {pins : List (Addr × Obj)} {σ : L2.St} {H : Hp} {s : Shared}
theorem src_get {b : Bool} {a : Addr} {xs : List V} (I : Inv X pins σ H s) (h : SrcK X.K b H a xs) : ∃ its, Vals xs its ∧ sqn b s.heap a its.toArray := by
  cases b with
  | true =>
    obtain ⟨its, rv, p, _⟩ := I.list h
    exact ⟨its, rv, p.isList⟩
  | false =>
    obtain ⟨its, rv, p, _⟩ := I.tuple h
    exact ⟨its, rv, p⟩
theorem src_inj {b : Bool} {a : Addr} {xs ys : List V} (I : Inv X pins σ H s) (h : SrcK X.K b H a xs) (h' : SrcK X.K b H a ys) : xs = ys := by
  cases b with
  | true => exact I.list_inj h h'
  | false => exact I.tuple_inj h h'
theorem src_at {xs : List V} {its : List Value} {i : Nat} {v : Value} (r : Vals xs its) (h : its.toArray[i]? = some v) : ∃ x, xs[i]? = some x ∧ RelV x v := by
  rw [List.getElem?_toArray] at h
  have hl := r.length
  have hi : i < xs.length := by
    have := (List.getElem?_eq_some_iff.mp h).1
    omega
  obtain ⟨u, hu, ru⟩ := r.get (List.getElem?_eq_getElem hi)
  rw [h] at hu
  cases hu
  exact ⟨_, List.getElem?_eq_getElem hi, ru⟩
end
theorem turn_en {P : Program} {w : World} {K : PySem.W.Frag} {elts : List Expr} {kk : Nat} {tpos : Pos} (b : Bool) (a e it : Addr) (n : Nat) :
    Turn P w K (.Tuple elts kk tpos) (Itw n (fun H => ∃ xs, SrcK K b H a xs ∧ xs.length = n) fun i H vs => ∃ x, vs = [.int (i : Nat), x] ∧ ∀ xs, SrcK K b H a xs → xs[i]? = some x) [e, it] e
      (fun i h => (∃ old, IsEnum h e it ((0 : Int) + (i : Nat)) old) ∧ itr b h it a i ∧ e ≠ it) := by
  refine turn_gn (wr := [e, it]) (by simp) (fun _ z => z) (fun i h st c hc => ?_) (fun i h h' st k => ?_) (fun X hP hw hK hc i pins s σ H J st hA => ?_) fun A i s Q E st h => ?_
  · obtain ⟨⟨old, he⟩, hi, _⟩ := st
    rcases (show c = e ∨ c = it by simpa using hc) with z | z
    · rw [z]; exact ⟨_, he, fun v q => nomatch q⟩
    · rw [z]; exact itr_obj hi
  · obtain ⟨⟨old, he⟩, hi, ne⟩ := st
    exact ⟨⟨old, k e (by simp) _ he⟩, itr_keep hi fun o q => k it (by simp) o q, ne⟩
  · subst hP hw hK
    obtain ⟨⟨old, he⟩, hi, ne⟩ := st
    obtain ⟨xs, hx, hn⟩ := hA
    obtain ⟨its, rv, p⟩ := src_get J hx
    have hai := itr_ne hi p
    have hae : e ≠ a := fun z => by
      subst z
      unfold sqn at p
      split at p
      all_goals
        obtain ⟨o2, h2, c2, _⟩ := p
        rw [show s.heap.get? e = some _ from he] at h2
        cases h2
        injection c2 with c2
        exact absurd c2 (by decide)
    have en : its.toArray.size = n := by rw [List.size_toArray, ← rv.length, hn]
    have G := GoesN.enumFrom (prog := X.prog) (w := X.w) (elts := elts) (x1 := kk) (pos := tpos) 0 (draws_b b (show X.A.in1.handled = none from by simp [J.ok.hd hc]) it a hai its.toArray) e ne (by simp [ne, hae]) (by simp)
    rw [en] at G
    refine ⟨_, _, _, G, ?_, ?_, ?_⟩
    · exact ⟨⟨old, he⟩, hi, p⟩
    · intro h' hs'
      exact ⟨hs'.1, hs'.2.1, ne⟩
    rintro v h' ⟨T, t, x, rfl, hT, hx', tup⟩
    obtain ⟨y, hy, ry⟩ := src_at rv hx'
    rw [Int.zero_add] at tup
    exact ⟨T, _, [.int (i : Nat), y], rfl, hT, tup, .cons ⟨t, rfl⟩ (.cons ry .nil), by show 2 ≤ sizeLine; decide, y, rfl, fun ys hys => by rw [src_inj J hys hx]; exact hy⟩
  · obtain ⟨⟨old, he⟩, _⟩ := st
    exact wpAny_pyIter_enum he h
def iEnB (K : PySem.W.Frag) (te : TE) : TI := fun σ H R => te σ H fun v H1 => ∃ (b : Bool) (a : Addr) (xs : List V), v = .ref a ∧ SrcK K b H1 a xs ∧
  R (Itw xs.length (fun H => ∃ ys, SrcK K b H a ys ∧ ys.length = xs.length) fun i H vs => ∃ x, vs = [.int (i : Nat), x] ∧ ∀ ys, SrcK K b H a ys → ys[i]? = some x) H1
section
variable {X : Cx} {B : Bs}
theorem pi_en {e : Expr} {te : TE} {p pos tpos : Pos} {elts : List Expr} {kk : Nat} (hg : Gl X "enumerate") (hm : X.mg "enumerate" = none) (he : PE X e te) (hs : starEach [e] X.env = (false, eval e X.env) :: starEach [] X.env := by rfl) :
    PI X (.Tuple elts kk tpos) (.Call (.Name "enumerate" p) [e] [] pos) (iEnB X.K te) := by
  refine ⟨fun pins s σ H R I h => ?_⟩
  refine Call_ (ld_blt I hg hm boot_enumerate (PyProof.Rows.callWith_type1 (args_cons (thn (he.run pins s σ H _ I h) fun u s1 ⟨v, H1, I1, r1, q1⟩ => args_nil ?_) hs) hs rfl))
  obtain ⟨b, a, xs, ev, hq, q⟩ := q1
  subst ev
  obtain rfl : u = Value.ref a := r1
  have fin : ∀ c ∈ [s1.heap.objs.size + 1, s1.heap.objs.size], s1.heap.objs.size ≤ c := fun c z => by
    rcases (show c = s1.heap.objs.size + 1 ∨ c = s1.heap.objs.size by simpa using z) with z | z
    · rw [z]; exact Nat.le_add_right _ _
    · rw [z]; exact Nat.le_refl _
  have go : ∀ h', IsEnum h' (s1.heap.objs.size + 1) s1.heap.objs.size 0 .none → itr b h' s1.heap.objs.size a 0 → (∀ c o, s1.heap.get? c = some o → h'.get? c = some o) →
      wpAny (model X.prog X.w) X.A (pyIter (.ref (s1.heap.objs.size + 1))) (PIE X pins σ (.Tuple elts kk tpos) R) X.xe { s1 with heap := h' } := fun h' he hi hk => by
    have I2 : Inv X pins σ H1 { s1 with heap := h' } := I1.kept (t' := s1.toks) hk
    refine wpAny_pyIter_enum he ⟨_, _, _, _, H1, rfl, I2, turn_en b a (s1.heap.objs.size + 1) s1.heap.objs.size xs.length, ⟨⟨.none, he⟩, hi, Nat.succ_ne_self _⟩, fun c hc => ?_, q⟩
    exact I1.fpOk (fin c hc) (I1.hok.fresh (fin c hc))
  obtain ⟨its, rv, p'⟩ := src_get I1 hq
  cases b with
  | true => exact call_enumerate_list p' fun h' he hi _ hk => go h' he hi hk
  | false => exact call_enum_tup p' fun h' he hi _ hk => go h' he hi hk
def numd (ts : List T) : List T := ts.mapIdx fun i t => .tup [.int i, t]
def enumI (t : T) (P : List T → Prop) : Prop := match t with
  | .lst ts => P (numd ts)
  | .tup ts => P (numd ts)
  | _ => False
theorem numd_get {ts : List T} {i : Nat} {t : T} (h : (numd ts)[i]? = some t) : ∃ x, ts[i]? = some x ∧ t = .tup [.int i, x] := by
  unfold numd at h
  rw [List.getElem?_mapIdx] at h
  cases e : ts[i]? with
  | none => rw [e] at h; cases h
  | some x => rw [e] at h; cases h; exact ⟨x, rfl, rfl⟩
theorem numd_len {ts : List T} : (numd ts).length = ts.length := by simp [numd]
theorem pair_grow {K : PySem.W.Frag} {F H : Hp} {t : T} {v : V} {i : Nat} {p : Addr} (s : Same F H) (n : H p = none) (r : Rep K F t v) : ∃ F', Grow F H F' (upd H p (.tup [.int (i : Nat), v])) ∧ Rep K F' (.tup [.int i, t]) (.ref p) := by
  have nF : F p = none := s.free n
  exact ⟨_, Grow.frz s n, p, _, rfl, .inl (.inl upd_same), (by show 2 ≤ sizeLine; decide), _, _, rfl, rfl, _, _, rfl, Rep.mono (same_upd nF) _ _ r, rfl⟩
def tiEnum (tx : TTX) : TTI := fun τ P => tx τ fun t u τ1 => enumI t fun ts => P ts u τ1
/-- the sources of a value that stands -/
theorem SrcV.srcK {K : PySem.W.Frag} {v : V} {t : T} {S : Hp → L2.St → TSt → Prop} {F H : Hp} {σ : L2.St} {τ : TSt} (s : SrcV K v t S) (h : S F σ τ) (w : WF K F H σ τ) {ts : List T} (e : t = .lst ts ∨ t = .tup ts) :
    ∃ b a, v = .ref a ∧ ∀ F H σ τ, S F σ τ → WF K F H σ τ → ∃ vs, SrcK K b H a vs ∧ Reps K F ts vs := by
  obtain ⟨aL, aT⟩ := s.seqAt h w
  rcases e with rfl | rfl
  · obtain ⟨a, rfl, go⟩ := aL ts rfl
    exact ⟨true, a, rfl, go⟩
  · obtain ⟨a, rfl, go⟩ := aT ts rfl
    exact ⟨false, a, rfl, go⟩
theorem tpi_enum {e : Expr} {tx : TTX} {p pos tpos : Pos} {elts : List Expr} {kk : Nat} (hg : Gl X "enumerate") (hm : X.mg "enumerate" = none) (h : TPX X B e tx) (hs : starEach [e] X.env = (false, eval e X.env) :: starEach [] X.env := by rfl) :
    TPI X B (.Tuple elts kk tpos) (.Call (.Name "enumerate" p) [e] [] pos) (tiEnum tx) := ⟨PI.imp (pi_en hg hm h.pe hs) fun σ H R q => by
  obtain ⟨F, τ, P, I, ht, hq⟩ := q
  refine ⟨F, τ, _, I, ht, fun t u τ1 F1 H1 v S h1 I1 s1 sv s0 => ?_⟩
  have w := (lck_inn (u := u) I1).wf
  have two : ∃ ts, (t = .lst ts ∨ t = .tup ts) ∧ P (numd ts) u τ1 := by
    cases t with
    | lst ts => exact ⟨ts, .inl rfl, h1⟩
    | tup ts => exact ⟨ts, .inr rfl, h1⟩
    | _ => exact h1.elim
  obtain ⟨ts, ets, h1⟩ := two
  obtain ⟨b, a, rfl, go⟩ := sv.srcK s0 w ets
  obtain ⟨vs, hl, rp⟩ := go _ _ _ _ s0 w
  have el : ∀ {F ws}, Reps X.K F ts ws → ws.length = vs.length := fun r => by rw [← r.len, rp.len]
  refine ⟨b, a, vs, rfl, hl, hq _ u τ1 F1 H1 _ S h1 I1 s1 ⟨sv.keep, fun i F H σ τ q w hi => ?_, fun F H σ τ q w => ?_, fun i t F H σ τ x H' q w ht y => ?_⟩ s0⟩
  · obtain ⟨ws, hl', rp'⟩ := go _ _ _ _ q w
    exact ⟨by rw [numd_len, rp.len] at hi; exact hi, ws, hl', el rp'⟩
  · obtain ⟨ws, hl', rp'⟩ := go _ _ _ _ q w
    exact ⟨by rw [numd_len, rp.len], ws, hl', el rp'⟩
  · obtain ⟨ws, hl', rp'⟩ := go _ _ _ _ q w
    obtain ⟨T, us, rfl, nT, _, rfl, x', rfl, hx⟩ := y
    obtain ⟨t', ht', rfl⟩ := numd_get ht
    obtain ⟨v, e, r⟩ := rp'.get ht'
    rw [hx ws hl'] at e
    cases e
    exact pair_grow w.sub nT r⟩
/-- zip of two frozen ones -/
def zipP (xs ys : List T) : List T := List.zipWith (fun x y => T.tup [x, y]) xs ys
def sqOf (t : T) (P : List T → Prop) : Prop := match t with
  | .lst ts => P ts
  | .tup ts => P ts
  | _ => False
def zpL (ts : List T) (P : List T → Prop) : Prop := match ts with
  | [a, b] => sqOf a fun xs => sqOf b fun ys => P (zipP xs ys)
  | _ => False
def tiZp (tl : TTL) : TTI := fun τ P => tl τ fun ts τ1 => zpL ts fun us => P us none τ1
theorem sqOf.inv {K : PySem.W.Frag} {F : Hp} {t : T} {v : V} {P : List T → Prop} (h : sqOf t P) (r : Rep K F t v) : ∃ ts b a vs, P ts ∧ v = .ref a ∧ Reps K F ts vs ∧ ∀ F' H, Same F F' → Same F' H → SrcK K b H a vs := by
  cases t with
  | lst ts =>
    obtain ⟨a, vs, rfl, q, _, r⟩ := r
    exact ⟨ts, true, a, vs, h, rfl, r, fun F' H s s' => SqL.of (s' _ _ (s _ _ q))⟩
  | tup ts =>
    obtain ⟨a, vs, rfl, q, _, r⟩ := r
    exact ⟨ts, false, a, vs, h, rfl, r, fun F' H s s' => SqT.mono s' (SqT.mono s q)⟩
  | _ => exact h.elim
end
section
variable {τ : TSt} {Pi : List T → Lk → TSt → Prop} {tx : TTX} {tl : TTL}
theorem z_enum : tiEnum tx τ Pi = tx τ (@box _ ⟨fun t u τ1 => enumI t (@box _ ⟨fun ts => Pi ts u τ1⟩)⟩) := rf rfl
theorem q_enum_0 {ts : List T} {k : List T → Prop} : enumI (.lst ts) k = k (numd ts) := rf rfl
theorem q_enum_1 {ts : List T} {k : List T → Prop} : enumI (.tup ts) k = k (numd ts) := rf rfl
theorem z_zp : tiZp tl τ Pi = tl τ (@box _ ⟨fun ts τ1 => zpL ts (@box _ ⟨fun us => Pi us none τ1⟩)⟩) := rf rfl
theorem q_zpL {a b : T} {k : List T → Prop} : zpL [a, b] k = sqOf a (@box _ ⟨fun xs => sqOf b (@box _ ⟨fun ys => k (zipP xs ys)⟩)⟩) := rf rfl
theorem q_sqOf_0 {ts : List T} {k : List T → Prop} : sqOf (.lst ts) k = k ts := rf rfl
theorem q_sqOf_1 {ts : List T} {k : List T → Prop} : sqOf (.tup ts) k = k ts := rf rfl
end
end TL

namespace TL
open PySem PySem.W PySem.Spec PyProof.Rows L2
def tupI (ns : List Int) : T := .tup (ns.map T.int)
def rleB (a b : List Int) : Bool := decide (a ≤ b)
def srtR (rs : List (List Int)) : List (List Int) := rs.mergeSort rleB
def encR (b : V × List Int) : PyData := .tuple (b.2.map .int)
theorem dataLe_tups : dataLe false encR = fun p q => rleB p.2 q.2 := by
  funext p q
  have e := congrFun (congrFun (dataLe_rows (β := V × List Int) (·.2)) p) q
  unfold rleB
  rw [← e]
  show (!dataLt (.tuple _) (.tuple _)) = (!dataLt (.list _) (.list _))
  rw [dataLt_tuple, dataLt_list]
theorem vals_fst : ∀ {bs : List (V × List Int)} {us : List Value}, Vals (bs.map (·.1)) us → EachIs (fun v b => RelV b.1 v) us bs
  | [], _, r => by cases r; exact .nil
  | b :: bs, _, r => by
    cases r with
    | cons r1 r2 => exact .cons r1 (vals_fst r2)
theorem fst_vals : ∀ {us : List Value} {bs : List (V × List Int)}, EachIs (fun v b => RelV b.1 v) us bs → Vals (bs.map (·.1)) us
  | _, _, .nil => .nil
  | _, _, .cons r1 r2 => .cons r1 (fst_vals r2)
def rSortedR (K : PySem.W.Frag) : List V → Hp → VK → Prop := fun vs H Q => ∃ (a : Addr) (bs : List (V × List Int)), vs = [V.ref a] ∧ SqL K H a (bs.map (·.1)) ∧ DpAll K H (bs.map (·.1)) (bs.map encR) ∧ (∀ b ∈ bs, b.2 ≠ []) ∧
  ∀ p, H p = none → Q (.ref p) (upd H p (.lst ((bs.mergeSort fun p q => rleB p.2 q.2).map (·.1))))
theorem encR_depth (b : V × List Int) : (encR b).depth ≤ 1 := by
  unfold encR
  have := dAll_ints b.2
  simp only [PyData.depth]
  omega
section
variable {X : Cx} {B : Bs}
theorem cr_sortedR (hu : X.A.units + 64 < cLine) : CallR X (.builtin "sorted") (rSortedR X.K) := by
  intro pins s σ H vs us Q I r h
  obtain ⟨a, bs, rfl, hl, dp, ne, q⟩ := h
  obtain ⟨its, rv, p, hz⟩ := I.list hl
  rw [Vals.ref1 r]
  obtain ⟨as, hr⟩ := Dp.readsAll I _ _ its dp rv
  have hz : bs.length ≤ sizeLine := by simpa using hz
  refine sorted_data p.isList (vals_fst rv) (readsAll_each encR hr) (AllAlike.of fun b b' => ?_) (.inl fun d hd => ?_) hz (fun b _ => ?_) fun out ho eo => ?_
  · exact alike_ints _ _
  · obtain ⟨b, hb, rfl⟩ := List.mem_map.mp hd
    obtain ⟨v, ns⟩ := b
    cases ns with
    | nil => exact absurd rfl (ne _ hb)
    | cons n ns => exact ⟨_, _, rfl⟩
  · have := encR_depth b
    omega
  · rw [dataLe_tups] at eo
    obtain ⟨ep, he⟩ := PyProof.Rows.sortedAll_at s.heap its (List.toArray out)
    have hn : H (s.heap.objs.size + 1) = none := I.hok.fresh (Nat.le_succ _)
    have hlen : ((bs.mergeSort fun p q => rleB p.2 q.2).map (·.1)).length ≤ sizeLine := by
      rw [List.length_map, List.length_mergeSort]
      exact hz
    exact ⟨.ref _, upd H (s.heap.objs.size + 1) (.lst ((bs.mergeSort fun p q => rleB p.2 q.2).map (·.1))), I.laid (t' := s.toks) (fun _ _ => PyProof.Rows.sortedAll_old) (Nat.le_succ _) ⟨hlen, out, ep, fst_vals eo, he⟩, rfl, q _ hn⟩
def sortedRT : C1 := fun t k => match t with
  | .lst ts => ∃ rs : List (List Int), ts = rs.map tupI ∧ (∀ r ∈ rs, r ≠ []) ∧ k true (.lst ((srtR rs).map tupI))
  | _ => False
theorem Ds_tupI : ∀ rs : List (List Int), T.Ds (rs.map tupI) = rs.map fun r => .tuple (r.map .int)
  | [] => rfl
  | r :: rs => by
    rw [List.map_cons, List.map_cons, T.Ds, Ds_tupI rs]
    unfold tupI
    rw [T.D, Ds_ints]
theorem plains_ints : ∀ ns : List Int, T.plains (ns.map T.int) = true
  | [] => rfl
  | n :: ns => by rw [List.map_cons, T.plains, plains_ints ns]; rfl
theorem plains_tupI : ∀ rs : List (List Int), T.plains (rs.map tupI) = true
  | [] => rfl
  | r :: rs => by
    rw [List.map_cons, T.plains, plains_tupI rs, Bool.and_true]
    unfold tupI
    rw [T.plain]
    exact plains_ints r
theorem reps_of {K : PySem.W.Frag} {F : Hp} {α : Type} (f : α → T) (g : α → V) : ∀ {l : List α}, (∀ b ∈ l, Rep K F (f b) (g b)) → Reps K F (l.map f) (l.map g)
  | [], _ => rfl
  | b :: l, h => ⟨_, _, rfl, h b List.mem_cons_self, reps_of f g fun b hb => h b (List.mem_cons_of_mem _ hb)⟩
theorem reps_zip {K : PySem.W.Frag} {F : Hp} : ∀ {rs : List (List Int)} {vs : List V}, Reps K F (rs.map tupI) vs → ∀ b ∈ vs.zip rs, Rep K F (tupI b.2) b.1
  | [], _, _, b, hb => by simp at hb
  | r :: rs, _, ⟨v, vr, e, h1, h2⟩, b, hb => by
    subst e
    rw [List.zip_cons_cons] at hb
    rcases List.mem_cons.mp hb with rfl | hb
    · exact h1
    · exact reps_zip h2 b hb
theorem c_sortedR (hu : X.A.units + 64 < cLine) : CalT1 X (.builtin "sorted") sortedRT := by
  refine ⟨_, cr_sortedR hu, fun F H x t G Q s r hg k => ?_⟩
  cases t with
  | lst ts =>
    obtain ⟨rs, rfl, ne, hg⟩ := hg
    obtain ⟨a, vs, rfl, hl, z, rp⟩ := r.lst s
    have el : vs.length = rs.length := by rw [← rp.len, List.length_map]
    have e1 : (vs.zip rs).map (·.1) = vs := List.map_fst_zip (by omega)
    have e2 : (vs.zip rs).map (·.2) = rs := List.map_snd_zip (by omega)
    have e3 : (vs.zip rs).map encR = T.Ds (rs.map tupI) :=
      calc (vs.zip rs).map encR = ((vs.zip rs).map (·.2)).map (fun r => PyData.tuple (r.map .int)) := by rw [List.map_map]; rfl
        _ = T.Ds (rs.map tupI) := by rw [e2, Ds_tupI]
    have e4 : ((vs.zip rs).mergeSort fun p q => rleB p.2 q.2).map (·.2) = srtR rs :=
      calc ((vs.zip rs).mergeSort fun p q => rleB p.2 q.2).map (·.2) = ((vs.zip rs).map (·.2)).mergeSort rleB := List.map_mergeSort fun _ _ _ _ => rfl
        _ = srtR rs := by rw [e2]; rfl
    refine ⟨a, vs.zip rs, rfl, by rw [e1]; exact SqL.of hl, by rw [e1, e3]; exact Reps.dp s _ _ (plains_tupI rs) rp, fun b hb => ne _ (List.of_mem_zip hb).2, fun p np => ?_⟩
    refine k true _ _ _ _ hg (Grow.own s np) ⟨p, rfl, np, s.free np, _, upd_same, ?_, ?_⟩
    · rw [List.length_map, List.length_mergeSort, List.length_zip]
      omega
    · rw [← e4, List.map_map]
      refine reps_of (fun b : V × List Int => tupI b.2) (·.1) fun b hb => ?_
      exact reps_zip rp b ((List.mergeSort_perm _ _).mem_iff.mp hb)
  | _ => exact hg.elim
def sortedDT : C1 := fun t k => match t with
  | .dct ks ts => ∃ ns : List Int, ks = ns.map Sum.inl ∧ k true (.lst ((srt ns).map T.int))
  | _ => False
theorem q_sortedR {ts : List T} {k : Bool → T → Prop} : sortedRT (.lst ts) k = ∃ rs : List (List Int), ts = rs.map tupI ∧ (∀ r ∈ rs, r ≠ []) ∧ k true (.lst ((srtR rs).map tupI)) := rf rfl
theorem q_sortedD {ks : List Key} {ts : List T} {k : Bool → T → Prop} : sortedDT (.dct ks ts) k = ∃ ns : List Int, ks = ns.map Sum.inl ∧ k true (.lst ((srt ns).map T.int)) := rf rfl
end
theorem srtR_perm (rs : List (List Int)) : (srtR rs).Perm rs := List.mergeSort_perm ..
end TL

namespace TL
open PySem L2
section
variable {u : Lk} {τ1 : TSt} {g : TTG} {tt : TTT} {te : TTE} {vs : List Nat} {P : R → TSt → Prop} {xs : List Int}
theorem lcT_mb (f : Int → Bool) (hf : ∀ v ∈ vs, frzAt (lck u τ1) v) (hl : xs.length ≤ sizeLine)
    (h : ∀ x ∈ xs, g (.int x) (wipeT (lck u τ1) vs) (@box _ ⟨fun τ3 => te τ3 (@box _ ⟨fun r τ5 => frzR r τ5 (@box _ ⟨fun y τ6 => T.bl (f x) = y ∧ wipeT τ6 vs = wipeT (lck u τ1) vs⟩)⟩)⟩))
    (hd : P (.val true (.lst ((xs.map f).map T.bl))) (unl u τ1 (backT (lck u τ1) (wipeT (lck u τ1) vs) vs))) : lcT g ttYes te vs P (xs.map T.int) u τ1 := by
  refine lcT_m (blF f) hf (by rw [List.length_map]; exact hl) (fun t ht => ?_) (by rw [map_blF]; exact hd)
  obtain ⟨x, hx, rfl⟩ := List.mem_map.mp ht
  exact h x hx
theorem lcT_fi (p : Int → Bool) (f : Int → Int) (hf : ∀ v ∈ vs, frzAt (lck u τ1) v) (hl : xs.length ≤ sizeLine)
    (h : ∀ x ∈ xs, g (.int x) (wipeT (lck u τ1) vs) (@box _ ⟨fun τ3 => tt τ3 (@box _ ⟨fun b τ4 => cnd b (@box _ ⟨fun _ => te τ4 (@box _ ⟨fun r τ5 => frzR r τ5 (@box _ ⟨fun y τ6 => intF p f (.int x) = some y ∧ wipeT τ6 vs = wipeT (lck u τ1) vs⟩)⟩)⟩) (@box _ ⟨fun _ => intF p f (.int x) = none ∧ wipeT τ4 vs = wipeT (lck u τ1) vs⟩)⟩)⟩))
    (hd : P (.val true (.lst (((xs.filter p).map f).map T.int))) (unl u τ1 (backT (lck u τ1) (wipeT (lck u τ1) vs) vs))) : lcT g tt te vs P (xs.map T.int) u τ1 := by
  refine lcT_p (intF p f) hf (by rw [List.length_map]; exact hl) (fun t ht => ?_) (by rw [fm_ints]; exact hd)
  obtain ⟨x, hx, rfl⟩ := List.mem_map.mp ht
  exact h x hx
end
theorem rngI_mem {lo : Int} {n : Nat} {x : Int} : x ∈ rngI lo n ↔ lo ≤ x ∧ x < lo + n := by
  unfold rngI
  rw [List.mem_map]
  constructor
  · rintro ⟨k, hk, rfl⟩
    have := List.mem_range.mp hk
    omega
  · rintro ⟨h1, h2⟩
    exact ⟨(x - lo).toNat, List.mem_range.mpr (by omega), by omega⟩
theorem rngT_eq {lo : Int} {n : Nat} : rngT lo n = (rngI lo n).map T.int := rngT_ints
theorem map_take {α β : Type} (f : α → β) (xs : List α) (n : Nat) : (xs.map f).take n = (xs.take n).map f := by rw [List.map_take]
theorem cut_takeI {xs : List Int} {n : Nat} : cutT (xs.map T.int) none (some (n : Int)) = (xs.take n).map T.int := by
  unfold cutT
  rw [HT.sIx_nat, HT.sIx_none, List.drop_zero, Nat.sub_zero, ← List.map_take]
  by_cases h : n ≤ (xs.map T.int).length
  · rw [Nat.min_eq_left h]
  · rw [Nat.min_eq_right (by omega), List.take_of_length_le (i := n) (by simp at h ⊢; omega), List.take_of_length_le (by simp)]
theorem numd_ints_get {xs : List Int} {i : Nat} {t : T} (h : (numd (xs.map T.int))[i]? = some t) : ∃ x, xs[i]? = some x ∧ t = .tup [.int i, .int x] := by
  obtain ⟨x, hx, rfl⟩ := numd_get h
  obtain ⟨n, hn, rfl⟩ := ints_get hx
  exact ⟨n, hn, rfl⟩
theorem q_ix_d {ks : List Key} {ts : List T} {i : Int} {k : T → Prop} : ixT (.dct ks ts) (.int i) k = ∃ t, dGetT ks ts (Sum.inl i) = some t ∧ k t := by simp [ixT, keyT]
def intFT (p : Int → Bool) (g : Int → T) (t : T) : Option T := match t with
  | .int i => if p i = true then some (g i) else none
  | _ => none
theorem intFT_y {p : Int → Bool} {g : Int → T} {i : Int} (h : p i = true) : intFT p g (.int i) = some (g i) := by simp [intFT, h]
theorem intFT_n {p : Int → Bool} {g : Int → T} {i : Int} (h : p i = false) : intFT p g (.int i) = none := by simp [intFT, h]
theorem fm_intsT {p : Int → Bool} {g : Int → T} : ∀ {xs : List Int}, (xs.map T.int).filterMap (intFT p g) = (xs.filter p).map g
  | [] => rfl
  | x :: xs => by
    rw [List.map_cons, List.filterMap_cons, List.filter_cons]
    cases h : p x with
    | true => rw [intFT_y h, if_pos rfl]; simp only [fm_intsT, List.map_cons]
    | false => rw [intFT_n h, if_neg (by simp)]; simp only [fm_intsT]
section
variable {u : Lk} {τ1 : TSt} {g : TTG} {tt : TTT} {te : TTE} {vs : List Nat} {P : R → TSt → Prop} {xs : List Int}
theorem lcT_ft (p : Int → Bool) (f : Int → T) (hf : ∀ v ∈ vs, frzAt (lck u τ1) v) (hl : xs.length ≤ sizeLine)
    (h : ∀ x ∈ xs, g (.int x) (wipeT (lck u τ1) vs) (@box _ ⟨fun τ3 => tt τ3 (@box _ ⟨fun b τ4 => cnd b (@box _ ⟨fun _ => te τ4 (@box _ ⟨fun r τ5 => frzR r τ5 (@box _ ⟨fun y τ6 => intFT p f (.int x) = some y ∧ wipeT τ6 vs = wipeT (lck u τ1) vs⟩)⟩)⟩) (@box _ ⟨fun _ => intFT p f (.int x) = none ∧ wipeT τ4 vs = wipeT (lck u τ1) vs⟩)⟩)⟩))
    (hd : P (.val true (.lst ((xs.filter p).map f))) (unl u τ1 (backT (lck u τ1) (wipeT (lck u τ1) vs) vs))) : lcT g tt te vs P (xs.map T.int) u τ1 := by
  refine lcT_p (intFT p f) hf (by rw [List.length_map]; exact hl) (fun t ht => ?_) (by rw [fm_intsT]; exact hd)
  obtain ⟨x, hx, rfl⟩ := List.mem_map.mp ht
  exact h x hx
end
end TL

namespace TL
open PySem L2
theorem eo_evens : eqOk (.str "evens") = true := eo_str (by decide +kernel)
theorem eo_sums : eqOk (.str "sums") = true := eo_str (by decide +kernel)
theorem eo_pairs : eqOk (.str "pairs") = true := eo_str (by decide +kernel)
theorem eo_gaps : eqOk (.str "gaps") = true := eo_str (by decide +kernel)
theorem q_es_evens_evens {k : Bool → T → Prop} : eqT (.str "evens") (.str "evens") k = k false (.bl true) := by unfold eqT; simp only [eo_evens, eo_sums, eo_pairs, eo_gaps, ev_str, Bool.and_self, true_and]; rfl
theorem q_ns_evens_evens {k : Bool → T → Prop} : neT (.str "evens") (.str "evens") k = k false (.bl false) := by unfold neT; simp only [eo_evens, eo_sums, eo_pairs, eo_gaps, ev_str, Bool.and_self, true_and]; rfl
theorem q_es_evens_sums {k : Bool → T → Prop} : eqT (.str "evens") (.str "sums") k = k false (.bl false) := by unfold eqT; simp only [eo_evens, eo_sums, eo_pairs, eo_gaps, ev_str, Bool.and_self, true_and]; rw [show decide (("evens" : Str) = "sums") = false by decide +kernel]
theorem q_ns_evens_sums {k : Bool → T → Prop} : neT (.str "evens") (.str "sums") k = k false (.bl true) := by unfold neT; simp only [eo_evens, eo_sums, eo_pairs, eo_gaps, ev_str, Bool.and_self, true_and]; rw [show decide (("evens" : Str) = "sums") = false by decide +kernel]; rfl
theorem q_es_evens_pairs {k : Bool → T → Prop} : eqT (.str "evens") (.str "pairs") k = k false (.bl false) := by unfold eqT; simp only [eo_evens, eo_sums, eo_pairs, eo_gaps, ev_str, Bool.and_self, true_and]; rw [show decide (("evens" : Str) = "pairs") = false by decide +kernel]
theorem q_ns_evens_pairs {k : Bool → T → Prop} : neT (.str "evens") (.str "pairs") k = k false (.bl true) := by unfold neT; simp only [eo_evens, eo_sums, eo_pairs, eo_gaps, ev_str, Bool.and_self, true_and]; rw [show decide (("evens" : Str) = "pairs") = false by decide +kernel]; rfl
theorem q_es_evens_gaps {k : Bool → T → Prop} : eqT (.str "evens") (.str "gaps") k = k false (.bl false) := by unfold eqT; simp only [eo_evens, eo_sums, eo_pairs, eo_gaps, ev_str, Bool.and_self, true_and]; rw [show decide (("evens" : Str) = "gaps") = false by decide +kernel]
theorem q_ns_evens_gaps {k : Bool → T → Prop} : neT (.str "evens") (.str "gaps") k = k false (.bl true) := by unfold neT; simp only [eo_evens, eo_sums, eo_pairs, eo_gaps, ev_str, Bool.and_self, true_and]; rw [show decide (("evens" : Str) = "gaps") = false by decide +kernel]; rfl
theorem q_es_sums_evens {k : Bool → T → Prop} : eqT (.str "sums") (.str "evens") k = k false (.bl false) := by unfold eqT; simp only [eo_evens, eo_sums, eo_pairs, eo_gaps, ev_str, Bool.and_self, true_and]; rw [show decide (("sums" : Str) = "evens") = false by decide +kernel]
theorem q_ns_sums_evens {k : Bool → T → Prop} : neT (.str "sums") (.str "evens") k = k false (.bl true) := by unfold neT; simp only [eo_evens, eo_sums, eo_pairs, eo_gaps, ev_str, Bool.and_self, true_and]; rw [show decide (("sums" : Str) = "evens") = false by decide +kernel]; rfl
theorem q_es_sums_sums {k : Bool → T → Prop} : eqT (.str "sums") (.str "sums") k = k false (.bl true) := by unfold eqT; simp only [eo_evens, eo_sums, eo_pairs, eo_gaps, ev_str, Bool.and_self, true_and]; rfl
theorem q_ns_sums_sums {k : Bool → T → Prop} : neT (.str "sums") (.str "sums") k = k false (.bl false) := by unfold neT; simp only [eo_evens, eo_sums, eo_pairs, eo_gaps, ev_str, Bool.and_self, true_and]; rfl
theorem q_es_sums_pairs {k : Bool → T → Prop} : eqT (.str "sums") (.str "pairs") k = k false (.bl false) := by unfold eqT; simp only [eo_evens, eo_sums, eo_pairs, eo_gaps, ev_str, Bool.and_self, true_and]; rw [show decide (("sums" : Str) = "pairs") = false by decide +kernel]
theorem q_ns_sums_pairs {k : Bool → T → Prop} : neT (.str "sums") (.str "pairs") k = k false (.bl true) := by unfold neT; simp only [eo_evens, eo_sums, eo_pairs, eo_gaps, ev_str, Bool.and_self, true_and]; rw [show decide (("sums" : Str) = "pairs") = false by decide +kernel]; rfl
theorem q_es_sums_gaps {k : Bool → T → Prop} : eqT (.str "sums") (.str "gaps") k = k false (.bl false) := by unfold eqT; simp only [eo_evens, eo_sums, eo_pairs, eo_gaps, ev_str, Bool.and_self, true_and]; rw [show decide (("sums" : Str) = "gaps") = false by decide +kernel]
theorem q_ns_sums_gaps {k : Bool → T → Prop} : neT (.str "sums") (.str "gaps") k = k false (.bl true) := by unfold neT; simp only [eo_evens, eo_sums, eo_pairs, eo_gaps, ev_str, Bool.and_self, true_and]; rw [show decide (("sums" : Str) = "gaps") = false by decide +kernel]; rfl
theorem q_es_pairs_evens {k : Bool → T → Prop} : eqT (.str "pairs") (.str "evens") k = k false (.bl false) := by unfold eqT; simp only [eo_evens, eo_sums, eo_pairs, eo_gaps, ev_str, Bool.and_self, true_and]; rw [show decide (("pairs" : Str) = "evens") = false by decide +kernel]
theorem q_ns_pairs_evens {k : Bool → T → Prop} : neT (.str "pairs") (.str "evens") k = k false (.bl true) := by unfold neT; simp only [eo_evens, eo_sums, eo_pairs, eo_gaps, ev_str, Bool.and_self, true_and]; rw [show decide (("pairs" : Str) = "evens") = false by decide +kernel]; rfl
theorem q_es_pairs_sums {k : Bool → T → Prop} : eqT (.str "pairs") (.str "sums") k = k false (.bl false) := by unfold eqT; simp only [eo_evens, eo_sums, eo_pairs, eo_gaps, ev_str, Bool.and_self, true_and]; rw [show decide (("pairs" : Str) = "sums") = false by decide +kernel]
theorem q_ns_pairs_sums {k : Bool → T → Prop} : neT (.str "pairs") (.str "sums") k = k false (.bl true) := by unfold neT; simp only [eo_evens, eo_sums, eo_pairs, eo_gaps, ev_str, Bool.and_self, true_and]; rw [show decide (("pairs" : Str) = "sums") = false by decide +kernel]; rfl
theorem q_es_pairs_pairs {k : Bool → T → Prop} : eqT (.str "pairs") (.str "pairs") k = k false (.bl true) := by unfold eqT; simp only [eo_evens, eo_sums, eo_pairs, eo_gaps, ev_str, Bool.and_self, true_and]; rfl
theorem q_ns_pairs_pairs {k : Bool → T → Prop} : neT (.str "pairs") (.str "pairs") k = k false (.bl false) := by unfold neT; simp only [eo_evens, eo_sums, eo_pairs, eo_gaps, ev_str, Bool.and_self, true_and]; rfl
theorem q_es_pairs_gaps {k : Bool → T → Prop} : eqT (.str "pairs") (.str "gaps") k = k false (.bl false) := by unfold eqT; simp only [eo_evens, eo_sums, eo_pairs, eo_gaps, ev_str, Bool.and_self, true_and]; rw [show decide (("pairs" : Str) = "gaps") = false by decide +kernel]
theorem q_ns_pairs_gaps {k : Bool → T → Prop} : neT (.str "pairs") (.str "gaps") k = k false (.bl true) := by unfold neT; simp only [eo_evens, eo_sums, eo_pairs, eo_gaps, ev_str, Bool.and_self, true_and]; rw [show decide (("pairs" : Str) = "gaps") = false by decide +kernel]; rfl
theorem q_es_gaps_evens {k : Bool → T → Prop} : eqT (.str "gaps") (.str "evens") k = k false (.bl false) := by unfold eqT; simp only [eo_evens, eo_sums, eo_pairs, eo_gaps, ev_str, Bool.and_self, true_and]; rw [show decide (("gaps" : Str) = "evens") = false by decide +kernel]
theorem q_ns_gaps_evens {k : Bool → T → Prop} : neT (.str "gaps") (.str "evens") k = k false (.bl true) := by unfold neT; simp only [eo_evens, eo_sums, eo_pairs, eo_gaps, ev_str, Bool.and_self, true_and]; rw [show decide (("gaps" : Str) = "evens") = false by decide +kernel]; rfl
theorem q_es_gaps_sums {k : Bool → T → Prop} : eqT (.str "gaps") (.str "sums") k = k false (.bl false) := by unfold eqT; simp only [eo_evens, eo_sums, eo_pairs, eo_gaps, ev_str, Bool.and_self, true_and]; rw [show decide (("gaps" : Str) = "sums") = false by decide +kernel]
theorem q_ns_gaps_sums {k : Bool → T → Prop} : neT (.str "gaps") (.str "sums") k = k false (.bl true) := by unfold neT; simp only [eo_evens, eo_sums, eo_pairs, eo_gaps, ev_str, Bool.and_self, true_and]; rw [show decide (("gaps" : Str) = "sums") = false by decide +kernel]; rfl
theorem q_es_gaps_pairs {k : Bool → T → Prop} : eqT (.str "gaps") (.str "pairs") k = k false (.bl false) := by unfold eqT; simp only [eo_evens, eo_sums, eo_pairs, eo_gaps, ev_str, Bool.and_self, true_and]; rw [show decide (("gaps" : Str) = "pairs") = false by decide +kernel]
theorem q_ns_gaps_pairs {k : Bool → T → Prop} : neT (.str "gaps") (.str "pairs") k = k false (.bl true) := by unfold neT; simp only [eo_evens, eo_sums, eo_pairs, eo_gaps, ev_str, Bool.and_self, true_and]; rw [show decide (("gaps" : Str) = "pairs") = false by decide +kernel]; rfl
theorem q_es_gaps_gaps {k : Bool → T → Prop} : eqT (.str "gaps") (.str "gaps") k = k false (.bl true) := by unfold eqT; simp only [eo_evens, eo_sums, eo_pairs, eo_gaps, ev_str, Bool.and_self, true_and]; rfl
theorem q_ns_gaps_gaps {k : Bool → T → Prop} : neT (.str "gaps") (.str "gaps") k = k false (.bl false) := by unfold neT; simp only [eo_evens, eo_sums, eo_pairs, eo_gaps, ev_str, Bool.and_self, true_and]; rfl
theorem ok1_tupI {r : List Int} : Ok1 1 (tupI r) := ok1_tup ok1_ints
theorem ok1_rows {rs : List (List Int)} : ∀ t ∈ rs.map tupI, Ok1 1 t := fun t ht => by
  obtain ⟨r, _, rfl⟩ := List.mem_map.mp ht
  exact ok1_tupI
theorem eo_rows {rs : List (List Int)} : eqOk (.lst (rs.map tupI)) = true := (ok1_lst ok1_rows).eqOk (by decide)
theorem ev_tupI {a b : List Int} : T.eqv (tupI a) (tupI b) = decide (a = b) := ev_intsT
theorem tupI_inj {a b : List Int} : tupI a = tupI b ↔ a = b := by
  unfold tupI
  constructor
  · intro h
    injection h with h
    exact map_int_inj.mp h
  · intro h; rw [h]
theorem map_tupI_inj : ∀ {a b : List (List Int)}, a.map tupI = b.map tupI ↔ a = b
  | [], [] => by simp
  | [], _ :: _ => by simp
  | _ :: _, [] => by simp
  | x :: a, y :: b => by
    rw [List.map_cons, List.map_cons, List.cons.injEq, List.cons.injEq, tupI_inj, map_tupI_inj]
theorem ev_rows {a b : List (List Int)} : T.eqv (.lst (a.map tupI)) (.lst (b.map tupI)) = decide (a = b) := by
  rw [ev_lst, Bool.eq_iff_iff, eqvAll_iff, map_tupI_inj, decide_eq_true_eq]
  intro x hx y hy
  obtain ⟨i, _, rfl⟩ := List.mem_map.mp hx
  obtain ⟨j, _, rfl⟩ := List.mem_map.mp hy
  rw [ev_tupI, decide_eq_true_eq, tupI_inj]
theorem q_eq_rows {a b : List (List Int)} {k : Bool → T → Prop} : eqT (.lst (a.map tupI)) (.lst (b.map tupI)) k = k false (.bl (decide (a = b))) := by unfold eqT; rw [eo_rows, eo_rows, ev_rows]; simp
theorem q_ne_rows {a b : List (List Int)} {k : Bool → T → Prop} : neT (.lst (a.map tupI)) (.lst (b.map tupI)) k = k false (.bl (!decide (a = b))) := by unfold neT; rw [eo_rows, eo_rows, ev_rows]; simp
theorem q_eq_rows0 {a : List (List Int)} {k : Bool → T → Prop} : eqT (.lst (a.map tupI)) (.lst []) k = k false (.bl (decide (a = []))) := q_eq_rows (b := [])
theorem q_ne_rows0 {a : List (List Int)} {k : Bool → T → Prop} : neT (.lst (a.map tupI)) (.lst []) k = k false (.bl (!decide (a = []))) := q_ne_rows (b := [])
theorem q_eq_t0 {a : List Int} {k : Bool → T → Prop} : eqT (.tup (a.map T.int)) (.tup []) k = k false (.bl (decide (a = []))) := q_eq_3 (ms := [])
theorem q_ne_t0 {a : List Int} {k : Bool → T → Prop} : neT (.tup (a.map T.int)) (.tup []) k = k false (.bl (!decide (a = []))) := q_ne_3 (ms := [])
theorem q_eq_l0 {a : List Int} {k : Bool → T → Prop} : eqT (.lst (a.map T.int)) (.lst []) k = k false (.bl (decide (a = []))) := q_eq_2 (ms := [])
theorem map_row {α : Type} (f : α → List Int) (xs : List α) : xs.map (fun x => tupI (f x)) = (xs.map f).map tupI := by rw [List.map_map]; rfl
theorem q_is_r {w : List Int} {o : Bool} {k : Bool → T → Prop} : isT o (tupI w) .non k = k false (.bl o) := q_is_4
theorem isi_tuple_r {w : List Int} : isiT "tuple" (tupI w) = some true := isi_tuple_tup
theorem isi_list_r {w : List Int} : isiT "list" (tupI w) = some false := isi_list_tup
/-- a list or a tuple of ints -/
def sqT (b : Bool) (xs : List Int) : T := if b = true then .lst (xs.map T.int) else .tup (xs.map T.int)
theorem sqT_t {xs : List Int} : sqT true xs = .lst (xs.map T.int) := rfl
theorem sqT_f {xs : List Int} : sqT false xs = .tup (xs.map T.int) := rfl
inductive Rl where
  | evens | sums | pairs | gaps (ss : List Int)
def ruleT : Rl → T
  | .evens => .tup [.str "evens"]
  | .sums => .tup [.str "sums"]
  | .pairs => .tup [.str "pairs"]
  | .gaps ss => .tup [.str "gaps", .tup (ss.map T.int)]
theorem q_r0_e {k : T → Prop} : ixT (ruleT .evens) (.int 0) k = k (.str "evens") := by unfold ruleT; rw [q_ix_1, atI_0, ex_some]
theorem q_r0_s {k : T → Prop} : ixT (ruleT .sums) (.int 0) k = k (.str "sums") := by unfold ruleT; rw [q_ix_1, atI_0, ex_some]
theorem q_r0_p {k : T → Prop} : ixT (ruleT .pairs) (.int 0) k = k (.str "pairs") := by unfold ruleT; rw [q_ix_1, atI_0, ex_some]
theorem q_r0_g {ss : List Int} {k : T → Prop} : ixT (ruleT (.gaps ss)) (.int 0) k = k (.str "gaps") := by unfold ruleT; rw [q_ix_1, atI_0, ex_some]
theorem q_r1_g {ss : List Int} {k : T → Prop} : ixT (ruleT (.gaps ss)) (.int 1) k = k (.tup (ss.map T.int)) := by unfold ruleT; rw [q_ix_1, atI_1, ex_some]
theorem b2i_t : TL.b2i true = 1 := rf rfl
theorem b2i_f : TL.b2i false = 0 := rf rfl
def rnm : Rl → Str
  | .evens => "evens"
  | .sums => "sums"
  | .pairs => "pairs"
  | .gaps _ => "gaps"
def isS : Rl → Bool
  | .sums => true
  | _ => false
def isP : Rl → Bool
  | .pairs => true
  | _ => false
theorem q_rg0 {r : Rl} {k : T → Prop} : ixT (ruleT r) (.int 0) k = k (.str (rnm r)) := by
  cases r
  · exact q_r0_e
  · exact q_r0_s
  · exact q_r0_p
  · exact q_r0_g
theorem q_rgs {r : Rl} {k : Bool → T → Prop} : eqT (.str (rnm r)) (.str "sums") k = k false (.bl (isS r)) := by
  cases r
  · exact q_es_evens_sums
  · exact q_es_sums_sums
  · exact q_es_pairs_sums
  · exact q_es_gaps_sums
theorem q_rgsn {r : Rl} {k : Bool → T → Prop} : neT (.str (rnm r)) (.str "sums") k = k false (.bl (!isS r)) := by
  cases r
  · exact q_ns_evens_sums
  · exact q_ns_sums_sums
  · exact q_ns_pairs_sums
  · exact q_ns_gaps_sums
theorem q_rgp {r : Rl} {k : Bool → T → Prop} : eqT (.str (rnm r)) (.str "pairs") k = k false (.bl (isP r)) := by
  cases r
  · exact q_es_evens_pairs
  · exact q_es_sums_pairs
  · exact q_es_pairs_pairs
  · exact q_es_gaps_pairs
theorem q_rgpn {r : Rl} {k : Bool → T → Prop} : neT (.str (rnm r)) (.str "pairs") k = k false (.bl (!isP r)) := by
  cases r
  · exact q_ns_evens_pairs
  · exact q_ns_sums_pairs
  · exact q_ns_pairs_pairs
  · exact q_ns_gaps_pairs
end TL

namespace TL
open PySem L2
section
variable {X : Cx} {B : Bs} {pos : Pos}
def tgLst (n : Nat) (gs : TTGs) : TTG := fun t τ P => match t with
  | .lst ts => ts.length = n ∧ gs ts τ P
  | _ => False
theorem z_tgL {n : Nat} {xs : List T} {tgs : TTGs} {τ : TSt} {Pg : TSt → Prop} : tgLst n tgs (.lst xs) τ Pg = (xs.length = n ∧ tgs xs τ Pg) := rf rfl
def parK (ts : List T) (τ : TSt) (i j : Nat) (P : TSt → Prop) : Prop := match ts with
  | [a, b] => setS τ i ⟨.frz, false, a⟩ fun τ1 => setS τ1 j ⟨.frz, false, b⟩ P
  | _ => False
def ttPar (i j : Nat) (tl : TTL) : TTS := fun D τ => tl τ fun ts τ1 => parK ts τ1 i j D.nx
theorem parK_2 {a b : T} {τ : TSt} {i j : Nat} {P : TSt → Prop} : parK [a, b] τ i j P = setS τ i ⟨.frz, false, a⟩ (@box _ ⟨fun τ1 => setS τ1 j ⟨.frz, false, b⟩ P⟩) := rf rfl
theorem z_par {i j : Nat} {tl : TTL} {D : TEnds} {τ : TSt} : ttPar i j tl D τ = tl τ (@box _ ⟨fun ts τ1 => parK ts τ1 i j D.nx⟩) := rf rfl
end
theorem eqv_self {t : T} (h : eqOk t = true) : T.eqv t t = true := PySem.SeqAt.eqv_refl _ (PySem.SeqAt.canLay_of_shaped (Bool.and_eq_true_iff.mp h).2)
theorem q_ne_self {t : T} {k : Bool → T → Prop} (h : eqOk t = true) : neT t t k = k false (.bl false) := by
  unfold neT
  rw [h, eqv_self h]
  simp
end TL

namespace TL
open PySem PySem.Spec PyProof.Rows L2
theorem nodup_len : ∀ {l m : List Int}, l.Nodup → (∀ x ∈ l, x ∈ m) → l.length ≤ m.length
  | [], _, _, _ => Nat.zero_le _
  | x :: l, m, hn, h => by
    have hx := h x List.mem_cons_self
    have h2 : l.length ≤ (m.erase x).length := nodup_len (List.nodup_cons.mp hn).2 fun y hy => (List.mem_erase_of_ne (fun e => (List.nodup_cons.mp hn).1 (by subst e; exact hy))).mpr (h y (List.mem_cons_of_mem _ hy))
    rw [List.length_erase_of_mem hx] at h2
    have := List.length_pos_of_mem hx
    rw [List.length_cons]
    omega
def metI (ns : List Int) : List Int := firstMet (fun i => ns.getD i 0) ns.length
section
variable {X : Cx} {a : Expr} {ta : TE} {p p2 q pos : Pos}
end
section
variable {X : Cx} {B : Bs} {e : Expr} {te : TTE} {p p2 q pos : Pos}
def lenSetT : C1 := fun t k => match t with
  | .lst ts => intsT ts fun ns => ns.length ≤ 4000 ∧ k false (.int (metI ns).length)
  | _ => False
def sortSetT : C1 := fun t k => match t with
  | .tup ts => intsT ts fun ns => ns.length < 64 ∧ ∀ ms : List Int, ms.Pairwise (· < ·) → (∀ x, x ∈ ms ↔ x ∈ ns) → k true (.lst (ms.map T.int))
  | _ => False
theorem q_lenSet {ns : List Int} {k : Bool → T → Prop} : lenSetT (.lst (ns.map T.int)) k = (ns.length ≤ 4000 ∧ k false (.int (metI ns).length)) := by
  show intsT _ _ = _
  rw [intsT_map]
theorem q_sortSet {ns : List Int} {k : Bool → T → Prop} : sortSetT (.tup (ns.map T.int)) k = (ns.length < 64 ∧ ∀ ms : List Int, ms.Pairwise (· < ·) → (∀ x, x ∈ ms ↔ x ∈ ns) → k true (.lst (ms.map T.int))) := by
  show intsT _ _ = _
  rw [intsT_map]
end
end TL

namespace TL
open PySem PySem.Spec PyProof.Rows L2
abbrev newSetO (w : World) : Obj := { cls := .type "set", dict := none, data := .set #[] 0 (.fresh 0 0 (!w.params.followText "set-order")) }
section
variable {P : Program} {w : World} {A : Around} {E : Value → Shared → Prop} {z : Shared}
theorem set_of_lst {p : Addr} {vs : Array Value} (js : List Int) {Q : Value → Shared → Prop} (hn : A.handled = none) (L : z.heap.IsList p vs) (ij : IntsAre vs.toList js) (room : js.length + 1 < scanBound)
    (fin : ∀ (g : Heap) (tt m : Nat), SetR w g z.heap.objs.size (fun j => decide (j ∈ js)) m → m ≤ js.length → (∀ b o, z.heap.get? b = some o → g.get? b = some o) → Q (.ref z.heap.objs.size) { z with heap := g, toks := tt }) :
    wpAny (model P w) A (call (.type "set") [.ref p]) Q E z := by
  have size : vs.size = js.length := by have := ij.length; rw [Array.length_toList] at this; exact this
  obtain ⟨mc, mt, mro⟩ := F.called_set.mro
  have x1 := F.called_set.made; have x2 := F.called_set.sub
  refine wpAny_call (codeAny_of_tree ?_)
  show wpAny _ _ (callAny (Value.type "set") _) _ _ _
  refine wpAny_pure ⟨Code.quiet_builtin _ (by decide +kernel), ?_⟩
  refine codeAny_builtin F.entry_type_call ?_
  rw [Around.under_plain (weight_type_call_type _ [.ref p] []) rfl]
  have x3 := F.called_set.notType; have x4 := F.called_set.canCreate; have x5 := F.typeCall_set_1 (.ref p)
  repeat (any_goals (first | assumption | wp_step))
  refine codeAny_mono (code_set_led1 (.ref p) (E := E) (Q₁ := fun ob z1 => ob = .ref z.heap.objs.size ∧ z1 = { z with heap := z.heap.push (newSetO w) }) ⟨rfl, rfl⟩) fun r1 z1 e1 => ?_
  cases r1 with
  | error x => exact e1
  | ok fl1 =>
   cases fl1 with
   | ret ob =>
    obtain ⟨rfl, rfl⟩ := e1
    have y1 : (z.heap.push (newSetO w)).get? z.heap.objs.size = some (newSetO w) := Heap.get?_push_size _ rfl
    have y2 : Shared.TypeIs { z with heap := z.heap.push (newSetO w) } (.ref z.heap.objs.size) "set" := ⟨_, y1, rfl⟩
    have y3 := F.called_set.init.lookup; have y4 := F.called_set.init.bind (.ref z.heap.objs.size)
    repeat (any_goals (first | assumption | wp_step))
    refine codeAny_mono (codeAny_call_builtin (R := wants (fun r z2 => r = .none ∧ ∃ g tt m, z2 = { z with heap := g, toks := tt } ∧ SetR w g z.heap.objs.size (fun j => decide (j ∈ js)) m ∧ m ≤ js.length ∧ (∀ b o, z.heap.get? b = some o → g.get? b = some o)) E)
        F.called_set.init.plain F.entry_set_init (check_set_init_1 y2 ?_)) fun r2 z2 e2 => ?_
    · obtain ⟨lo, lo1, lo2, ln, lo3⟩ := L
      cases lo with
      | mk c1 c2 c3 c4 =>
      simp only at lo2 lo3
      subst lo2; subst lo3
      have lo4 : (z.heap.push (newSetO w)).get? p = some { cls := .type "list", dict := c2, data := .seq vs ln, slots := c4 } := Heap.get?_push_of_some _ lo1
      have s1 := F.sub_list_set; have s2 := F.sub_list_frozenset
      have s3 : ((Value.type "list") == (Value.type "dict")) = false := by decide
      have L1 : (z.heap.push (newSetO w)).IsList p vs := ⟨_, lo4, rfl, ln, rfl⟩
      unfold Builtin.«set.__init__» noKeywords Builtin.Frozenset.updateFrom
      generalize hpi : pyIter = pi'
      wp_walk
      subst hpi
      refine wpAny_pyIter_list L1 ?_
      refine wpAny_bind (wpAny_runValue ?_)
      have pl : p < z.heap.objs.size := Heap.lt_size lo1
      have h3 : A.in1.in1.in1.handled = none := by simp [hn]
      have sz1 : (z.heap.push (newSetO w)).objs.size = z.heap.objs.size + 1 := Heap.size_push _ _
      have ne1 : p ≠ (z.heap.push (newSetO w)).objs.size := by rw [sz1]; exact Nat.ne_of_lt (Nat.lt_succ_of_lt pl)
      have ne2 : z.heap.objs.size ∉ [(z.heap.push (newSetO w)).objs.size, p] := by
        rw [sz1]
        intro hm
        rcases List.mem_cons.mp hm with q | q
        · exact absurd q (Nat.ne_of_lt (Nat.lt_succ_self _))
        · exact absurd (List.mem_singleton.mp q) (Nat.ne_of_gt pl)
      have each : ∀ (i : Nat) (v : Value), vs[i]? = some v → ∃ k t, js[i]? = some k ∧ v = .int k t := fun i v hv => by
        have hi : i < js.length := by rw [← size]; exact (Array.getElem?_eq_some_iff.mp hv).1
        obtain ⟨t, e⟩ := ij.int_at i v (by rw [Array.getElem?_toList]; exact hv)
        refine ⟨js[i], t, List.getElem?_eq_getElem hi, ?_⟩
        rw [e, List.getD_eq_getElem?_getD, List.getElem?_eq_getElem hi]
        rfl
      refine set_update_ints ((Walks.list h3 _ p ne1 vs).toS) z.heap.objs.size ne2 js size room each (vs.size - 0) 0 _ (by omega) (Nat.zero_le _) ⟨⟨_, Heap.get?_push_size _ rfl, rfl, rfl⟩, (L1.push _)⟩ ?c1 ?c2
      case c1 => exact ⟨0, Nat.le_refl 0, setR_new_at (Heap.get?_push_of_some _ y1)⟩
      case c2 =>
        rintro ⟨g, gg, gd, gt, go⟩ m mv hm R
        have e1 : gg = z.gens := mv.gens
        have e2 : gd = z.drawn := mv.drawn
        have e3 : go = z.os := mv.os
        subst e1 e2 e3
        show wpAny _ _ _ _ _ _
        refine wpAny_pure ?_
        show wpAny _ _ (ret _) _ _ _
        refine wpAny_pure ⟨rfl, g, gt, m, rfl, R, size ▸ hm, fun b o e => ?_⟩
        have hb := Heap.lt_size e
        refine mv.heap b o (fun hmem => ?_) (Heap.get?_push_of_some _ (Heap.get?_push_of_some _ e))
        rw [sz1] at hmem
        rcases List.mem_cons.mp hmem with q | q
        · exact absurd q (Nat.ne_of_lt hb)
        · exact absurd (List.mem_singleton.mp q) (Nat.ne_of_lt (Nat.lt_succ_of_lt hb))
    · cases r2 with
      | error x => exact e2
      | ok fl2 =>
        cases fl2 with
        | ret rr =>
          obtain ⟨rfl, g, tt, m, rfl, R, hm, hk⟩ := e2
          repeat (any_goals (first | assumption | wp_step))
          exact fin _ _ _ R hm hk
        | _ => exact e2.elim
   | _ => exact e1.elim
end
section
variable {X : Cx} {a : Expr} {ta : TE} {p p2 q pos : Pos}
end
section
variable {X : Cx} {B : Bs} {e : Expr} {te : TTE} {p p2 q pos : Pos}
def sortSetLT : C1 := fun t k => match t with
  | .lst ts => intsT ts fun ns => ns.length < 64 ∧ ∀ ms : List Int, ms.Pairwise (· < ·) → (∀ x, x ∈ ms ↔ x ∈ ns) → k true (.lst (ms.map T.int))
  | _ => False
theorem q_sortSetL {ns : List Int} {k : Bool → T → Prop} : sortSetLT (.lst (ns.map T.int)) k = (ns.length < 64 ∧ ∀ ms : List Int, ms.Pairwise (· < ·) → (∀ x, x ∈ ms ↔ x ∈ ns) → k true (.lst (ms.map T.int))) := by
  show intsT _ _ = _
  rw [intsT_map]
end
end TL

namespace TL
open PySem PySem.Spec PyProof.Rows L2
section
variable {X : Cx} {B : Bs} {e a b : Expr} {te ta tb : TTE} {p p2 q pos : Pos}
theorem tpe_const {x : Str} {t : T} (hg : Gl X x) (h : ∃ v u, X.mg x = some u ∧ RelV v u ∧ ∀ F, Rep X.K F t v) (hd : (x == ("__debug__" : Str)) = false := by decide) : TPE X B (.Name x pos) (tk t) := by
  obtain ⟨v, u, hm, r, rp⟩ := h
  refine ⟨PE.imp (pe_glob hg hm r hd) fun σ H Q h => ?_⟩
  obtain ⟨F, τ, P, I, ht, hq⟩ := h
  exact hq (.val false t) τ F H v ht I Stp.refl (rp F) trivial
def ttLRg1 (te : TTE) : TTE := fun τ P => te τ fun r τ1 => inK (r.t τ1) fun n => RgOk 0 n ∧ P (.val true (.lst (rngT 0 n.toNat))) τ1
def ttLRg2 (ta tb : TTE) : TTE := fun τ P => ta τ fun ra τ1 => tb τ1 fun rb τ2 => inK (ra.t τ2) fun i => inK (rb.t τ2) fun j => RgOk i j ∧ P (.val true (.lst (rngT i (j - i).toNat))) τ2
def dgK (d k z : T) (P : T → Prop) : Prop := match d with
  | .dct ks ts => match keyT k with
    | some key => P ((dGetT ks ts key).getD z)
    | none => False
  | _ => False
def isDT : T → Prop
  | .dct _ _ => True
  | _ => False
def ttGet2 (td tk' tx : TTE) : TTE := fun τ P => td τ fun rd τ1 => isDT (rd.t τ1) ∧ tk' τ1 fun rk τ2 => tx τ2 fun rx τ3 => frzR rx τ3 fun z τ4 => dgK (rd.t τ4) (rk.t τ4) z fun t => P (.val false t) τ4
def minLT : C1 := fun t k => match t with
  | .lst ts => intsT ts fun ns => 0 < ns.length ∧ ∀ m : Int, m ∈ ns → (∀ y ∈ ns, m ≤ y) → k false (.int m)
  | _ => False
def maxLT : C1 := fun t k => match t with
  | .lst ts => intsT ts fun ns => 0 < ns.length ∧ ∀ m : Int, m ∈ ns → (∀ y ∈ ns, y ≤ m) → k false (.int m)
  | _ => False
theorem c_minL (hc : X.calm = true) : CalT1 X (.builtin "min") minLT := by
  refine ⟨_, cr_min hc, fun F H x t G Q s r hg k => ?_⟩
  cases t with
  | lst ts =>
    obtain ⟨ns, rfl, hl, hg⟩ := hg
    obtain ⟨a, vs, rfl, hd, z, rp⟩ := r.lst s
    rw [Reps.ints.mp rp] at hd
    exact ⟨a, ns, rfl, SqL.of hd, hl, fun m h1 h2 => k false _ _ F H (hg m h1 h2) (Grow.refl s) rfl⟩
  | _ => exact hg.elim
theorem q_minL {ns : List Int} {k : Bool → T → Prop} : minLT (.lst (ns.map T.int)) k = (0 < ns.length ∧ ∀ m : Int, m ∈ ns → (∀ y ∈ ns, m ≤ y) → k false (.int m)) := by
  show intsT _ _ = _
  rw [intsT_map]
theorem q_maxL {ns : List Int} {k : Bool → T → Prop} : maxLT (.lst (ns.map T.int)) k = (0 < ns.length ∧ ∀ m : Int, m ∈ ns → (∀ y ∈ ns, y ≤ m) → k false (.int m)) := by
  show intsT _ _ = _
  rw [intsT_map]
def divmodT : CN := fun ts k => match ts with
  | [.int i, .int j] => (0 < j ∧ j.natAbs.log2 < 9000) ∧ k false (.tup [.int (i / j), .int (i % j)])
  | _ => False
theorem q_divmod {i j : Int} {k : Bool → T → Prop} : divmodT [.int i, .int j] k = ((0 < j ∧ j.natAbs.log2 < 9000) ∧ k false (.tup [.int (i / j), .int (i % j)])) := rf rfl
variable {τ : TSt} {P : R → TSt → Prop} {td tk' tx : TTE}
theorem z_lrg1 : ttLRg1 te τ P = te τ (@box _ ⟨fun r τ1 => inK (r.t τ1) (@box _ ⟨fun n => RgOk 0 n ∧ P (.val true (.lst (rngT 0 n.toNat))) τ1⟩)⟩) := rf rfl
theorem z_lrg2 : ttLRg2 ta tb τ P = ta τ (@box _ ⟨fun ra τ1 => tb τ1 (@box _ ⟨fun rb τ2 => inK (ra.t τ2) (@box _ ⟨fun i => inK (rb.t τ2) (@box _ ⟨fun j => RgOk i j ∧ P (.val true (.lst (rngT i (j - i).toNat))) τ2⟩)⟩)⟩)⟩) := rf rfl
theorem isD_d {ks : List Key} {ts : List T} : isDT (.dct ks ts) = True := rf rfl
theorem z_get2 : ttGet2 td tk' tx τ P = td τ (@box _ ⟨fun rd τ1 => isDT (rd.t τ1) ∧ tk' τ1 (@box _ ⟨fun rk τ2 => tx τ2 (@box _ ⟨fun rx τ3 => frzR rx τ3 (@box _ ⟨fun z τ4 => dgK (rd.t τ4) (rk.t τ4) z (@box _ ⟨fun t => P (.val false t) τ4⟩)⟩)⟩)⟩)⟩) := rf rfl
theorem dgK_i {ks : List Key} {ts : List T} {i : Int} {z : T} {P : T → Prop} : dgK (.dct ks ts) (.int i) z P = P ((dGetT ks ts (Sum.inl i)).getD z) := rf rfl
end
end TL

namespace TL
open PySem L2
end TL

namespace TL
open PySem L2
def fldG : List Str → List T → Str → Option T
  | n :: ns, t :: ts, f => if f = n then some t else fldG ns ts f
  | _, _, _ => none
def fldK (t : T) (f : Str) (k : T → Prop) : Prop := match t with
  | .ins ns ts => ∃ u, fldG ns ts f = some u ∧ k u
  | _ => False
def ttFld (f : Str) (te : TTE) : TTE := fun τ P => te τ fun r τ1 => fldK (r.t τ1) f fun t => P (.val false t) τ1
section
variable {X : Cx} {B : Bs} {e : Expr} {te : TTE} {pos : Pos} {f : Str}
variable {τ : TSt} {P : R → TSt → Prop}
theorem z_fld : ttFld f te τ P = te τ (@box _ ⟨fun r τ1 => fldK (r.t τ1) f (@box _ ⟨fun t => P (.val false t) τ1⟩)⟩) := rf rfl
theorem fldK_i {ns : List Str} {ts : List T} {k : T → Prop} : fldK (.ins ns ts) f k = (∃ u, fldG ns ts f = some u ∧ k u) := rf rfl
end
/-- the fields of a growth -/
abbrev gNs : List Str := ["rule", "numbers", "barred"]
theorem gn1 : ¬("numbers" : Str) = "rule" := by decide +kernel
theorem gn2 : ¬("barred" : Str) = "rule" := by decide +kernel
theorem gn3 : ¬("barred" : Str) = "numbers" := by decide +kernel
theorem fg_r {a b c : T} : fldG gNs [a, b, c] "rule" = some a := by unfold fldG; rw [if_pos rfl]
theorem fg_n {a b c : T} : fldG gNs [a, b, c] "numbers" = some b := by unfold fldG; rw [if_neg gn1]; unfold fldG; rw [if_pos rfl]
theorem fg_b {a b c : T} : fldG gNs [a, b, c] "barred" = some c := by unfold fldG; rw [if_neg gn2]; unfold fldG; rw [if_neg gn3]; unfold fldG; rw [if_pos rfl]
end TL

namespace TL
open PySem L2
section
variable {u : Lk} {τ1 : TSt} {g : TTG} {tt : TTT} {te : TTE} {vs : List Nat} {P : R → TSt → Prop} {xs ys : List Int}
end
end TL

namespace TL
open PySem L2
section
variable {X : Cx} {B : Bs} {ta tb tc : TTE} {a b c : Expr} {pos : Pos}
end
end TL

namespace TL
open PySem L2
end TL

namespace TL
open PySem L2
section
variable {u : Lk} {τ1 : TSt} {g : TTG} {tt : TTT} {te : TTE} {vs : List Nat} {P : R → TSt → Prop} {α : Type}
end
end TL

namespace TL
open PySem PySem.W L2
section
variable {X : Cx}
end
end TL

namespace TL
open PySem PySem.Spec PyProof.Rows L2
def Thr (X : Cx) (B : Bs) (cls : String → Addr) (XT : String → TSt → Prop) : Prop := ∃ W : WX, Takes X W ∧ ∀ c F H σ τ, Inn X.K B F H σ τ → XT c τ → W (.ref (cls c)) none σ H
def ttRaise (c : String) (XT : String → TSt → Prop) : TTS := fun _ τ => XT c τ
/-- a class of the text whose instances are raised, and asked -/
structure ExF (K : PySem.W.Frag) (mg : Str → Option Value) (cls : String → Addr) (c : String) (y : Str) : Prop where
  g : mg y = some (.ref (cls c))
  x : PySem.W.excIn K (cls c) [.type "ValueError", .type "Exception", .type "BaseException", .type "object"] "ValueError.__new__" = true
  k : PySem.W.keepIn K (.ref (cls c)) = true
  b : PySem.W.subIn K (.ref (cls c)) (.type "BaseException") = some true
  t : PySem.W.typeIn K (.ref (cls c)) = some (.type "type")
/-- a class that is asked alone -/
structure ExG (K : PySem.W.Frag) (mg : Str → Option Value) (cls : String → Addr) (c : String) (y : Str) : Prop where
  g : mg y = some (.ref (cls c))
section
variable {X : Cx} {B : Bs} {cls : String → Addr} {XT : String → TSt → Prop} {c : String} {e : Expr} {pos p p2 : Pos} {y m : Str} {j : Nat}
theorem tps_raise {p3 : Pos} (hc : X.calm = true) (T : Thr X B cls XT) (E : ExF X.K X.mg cls c y) (hg : Gl X y) (hdb : (y == ("__debug__" : Str)) = false := by decide) : TPS X B (.Raise (some (.Call (.Name y p) [.Constant (.str m) j p2] [] p3)) none pos) (ttRaise c XT) := by
  obtain ⟨W, tk, hW⟩ := T
  exact ⟨PS.imp (ps_raise hc tk (pmk_own PySem.F.excBase_ValueError E.x E.g E.k (raises_own E.b E.t) hg hdb)) fun D σ H h => by
    obtain ⟨F, τ, TD, I, h, ok⟩ := h
    exact hW c F H σ τ I h⟩
end
section
variable {X : Cx} {B : Bs} {k : Nat} {ps : List Str} {cls : String → Addr} {S : TSp} {XT : String → TSt → Prop} {ta : TTA} {E : XK} {x : Str} {p pos : Pos} {e : Expr} {es : List Expr}
theorem call_impS {W : WX} (hE : ∀ c F H σ τ, Inn X.K B F H σ τ → XT c τ → W (.ref (cls c)) none σ H) (σ : L2.St) (H : Hp) (Q : VK) (h : lift X.K B (ttCall S XT ta) σ H Q) : tCallS (liftSp X.K cls S) (WE W) (liftA X.K B ta) σ H Q := by
  obtain ⟨F, τ, P, I, h, hq⟩ := h
  refine ⟨F, τ, _, I, h, fun rs τ1 F1 H1 vs ⟨ok, h1⟩ I1 s1 r1 => ?_⟩
  obtain ⟨ao, key⟩ := call_args I1.wf r1 ok
  refine ⟨F1, mkA τ1 0 rs, _, _, ao, h1, fun r ts F' H' v ⟨hl, hp⟩ c rc => ?_, fun cn ts F' H' ⟨hl, hp⟩ c => ?_⟩
  · obtain ⟨τ2, hp2, po⟩ := putB_ok ok hp
    obtain ⟨w, st⟩ := call_back I1.wf r1 ok c po
    have I2 := I1.step w st
    cases r with
    | var i => exact rc.elim
    | val kk t =>
      refine hq _ _ F' H' v hp2 I2 (s1.trans st) ?_ ?_
      · cases kk with
        | false => exact rc
        | true =>
          obtain ⟨q, ev, n, nF, o⟩ := rc
          refine ⟨q, ev, nF, o, fun i k' z => ?_⟩
          obtain ⟨l, t', h1, h2, h3⟩ := st.own i k' q z
          obtain ⟨a, e4, _, o4⟩ := I1.wf.own i k' l t' h1 h2
          rw [h3] at e4
          cases e4
          obtain ⟨ob, ho⟩ := o4.ex
          rw [n] at ho
          cases ho
      · cases kk with
        | false => trivial
        | true =>
          obtain ⟨q, ev, n, nF, o⟩ := rc
          refine ⟨q, ev, ?_⟩
          cases z : H q with
          | none => rfl
          | some ob => exact absurd n (s1.dom q (by rw [z]; simp))
  · obtain ⟨τ2, hp2, po⟩ := putB_ok ok hp
    obtain ⟨w, st⟩ := call_back I1.wf r1 ok c po
    exact hE cn F' H' σ τ2 (I1.step w st) hp2
theorem tpe_callX (C : Cal X.prog X.w X.K X.mg X.base (L2.CX X.prog X.w) cls x ps k S) (hr : Room k X.A) (hg : Gl X x) (T : Thr X B cls XT) (ha : TPA X B (e :: es) ta) (hdb : (x == ("__debug__" : Str)) = false := by decide)
    (he : starEach (e :: es) X.env = (false, eval e X.env) :: starEach es X.env := by rfl) (hpl : (backTo pos (starEach es X.env)).any (·.1) = false := by rfl) : TPE X B (.Call (.Name x p) (e :: es) [] pos) (ttCall S XT ta) := by
  obtain ⟨f, fd, F, hm, hk, hb⟩ := C.ex
  obtain ⟨W, tk, hW⟩ := T
  exact ⟨PE.imp (pe_callS F hr hg hm hk hb (fun σ => passAt tk σ) ha.pa hdb he hpl) (call_impS hW)⟩
end
def noLk (τ : TSt) : Bool := τ.all fun o => match o with
  | some s => !s.l
  | none => true
def offD (i : Nat) (D : TEnds) : TEnds := ⟨fun τ => D.nx (τ.set i none), D.rt, fun τ => D.bk (τ.set i none), fun τ => D.ct (τ.set i none)⟩
def tryX (i : Nat) (cs : List String) (ts : String → V → TTS) (D : TEnds) : String → TSt → Prop := fun c τ1 => cs.contains c = true ∧ ∀ a : Addr, setS τ1 i ⟨.frz, false, .oth (.ref a)⟩ fun τ2 => ts c (.ref a) (offD i D) τ2
def ttTry (i : Nat) (cs : List String) (tb : (String → TSt → Prop) → TTS) (ts : String → V → TTS) : TTS := fun D τ => noLk τ = true ∧ tb (tryX i cs ts D) D τ
theorem noLk_get {τ : TSt} (h : noLk τ = true) {i : Nat} {k : Kd} {t : T} : τ[i]? ≠ some (some ⟨k, true, t⟩) := fun e => by
  have := List.all_eq_true.mp h _ (List.mem_of_getElem? e)
  cases this
section
variable {K : PySem.W.Frag} {B : Bs} {F F' H H' : Hp} {σ σ' : L2.St} {τ τ' : TSt} {TD : TEnds} {D : Ends}
theorem Inn.base (I : Inn K B F H σ τ) : Inn K ⟨F, B.H, B.args⟩ F H σ τ := ⟨I.wf, fun _ _ h => h, fun _ h => .inl h, I.fr, I.dom, I.ow, I.ar⟩
theorem Inn.unbase (I0 : Inn K B F H σ τ) (I : Inn K ⟨F, B.H, B.args⟩ F' H' σ' τ') : Inn K B F' H' σ' τ' := ⟨I.wf, I0.sub.trans I.sub, fun a h => (I.new a h).elim (fun q => I0.new a q) .inr, I.fr, I.dom, I.ow, I.ar⟩
theorem ends_base (I0 : Inn K B F H σ τ) (ok : EndsOk K B F σ τ TD D) : EndsOk K ⟨F, B.H, B.args⟩ F σ τ TD D :=
  ⟨fun _ _ _ _ I s h => ok.nx _ _ _ _ (I0.unbase I) s h, fun _ _ _ _ I s h => ok.bk _ _ _ _ (I0.unbase I) s h, fun _ _ _ _ I s h => ok.ct _ _ _ _ (I0.unbase I) s h, fun _ _ _ _ _ _ I r f h => ok.rt _ _ _ _ _ _ (I0.unbase I) r f h⟩
theorem off_inn {i : Nat} (I : Inn K B F H σ τ) : Inn K B F H (σ.set i none) (τ.set i none) :=
  wipe_inn (vs := [i]) I (List.length_set ..) fun j hj => by rw [List.getElem?_set_ne (fun e => hj (by rw [e]; exact List.mem_singleton.mpr rfl))]
end
section
variable {X : Cx} {B : Bs} {x n : Str} {C : Addr} {i : Nat} {body suite : List Stmt} {b₀ : Stmt} {np pos pos' : Pos} {cls : String → Addr} {cs : List String} {tb : (String → TSt → Prop) → TTS} {ts : String → V → TTS} {Wout : WX}
theorem tps_try (hs : X.stack = X.env :: X.outer) (hf : X.env.frame = some X.env.locals) (hN : X.N.Nodup) (hi : X.N[i]? = some n) (hln : X.env.kindOf n = some .local) (hc : Names X x (.ref C)) (tk : Takes X Wout)
    (hx : ∀ c, cs.contains c = true → PySem.W.exmOne X.K (.ref (cls c)) (.ref C) = some true)
    (hb : ∀ (B : Bs) (pn : List (Addr × Obj)) (xe : Value → Shared → Prop) (XT : String → TSt → Prop), Thr (X.tr pn xe) B cls XT → TPSs (X.tr pn xe) B body (tb XT))
    (hsu : ∀ (B : Bs) (a : Addr) (oe : Obj) (c : String) (pn : List (Addr × Obj)), cs.contains c = true → Zc (.ref (cls c)) none oe → (∃ vs, oe.data = .fields vs) → TPSs (X.suite a ((a, oe) :: pn)) B (b₀ :: suite) (ts c (.ref a))) :
    TPS X B (.Try body [.ExceptHandler (some (.Name x np)) (some n) (b₀ :: suite) pos'] [] [] pos) (ttTry i cs tb ts) := by
  refine ⟨PS.imp (ps_try_as (Wout := Wout) (tb := fun W D σ H => ∃ B F τ TD XT, Inn X.K B F H σ τ ∧ tb XT TD τ ∧ EndsOk X.K B F σ τ TD D ∧ ∀ c F' H' σ' τ', Inn X.K B F' H' σ' τ' → XT c τ' → W (.ref (cls c)) none σ' H')
    (ts := fun a cv d D σ H => ∃ c B, cs.contains c = true ∧ cv = .ref (cls c) ∧ d = none ∧ liftS X.K B (ts c (.ref a)) D σ H) hs hf hN hi hln hc tk (fun W pn xe tk' _ => ⟨fun pins s σ H D I h => ?_⟩) (fun a oe cv d pn hz hv => ⟨fun pins s σ H D I h => ?_⟩)) fun D σ H h => ?_⟩
  · obtain ⟨B', F, τ, TD, XT, I', ht, ok, hW⟩ := h
    exact (hb B' pn xe XT ⟨W, tk', hW⟩).pss.run pins s σ H D I ⟨F, τ, TD, I', ht, ok⟩
  · obtain ⟨c, B', h1, rfl, rfl, h⟩ := h
    exact (hsu B' a oe c pn h1 hz hv).pss.run pins s σ H D I h
  · obtain ⟨F, τ, TD, I, ⟨nl, ht⟩, ok⟩ := h
    have ok' := ends_base I ok
    refine ⟨⟨F, B.H, B.args⟩, F, τ, TD, _, I.base, ht, ok', fun c F' H' σ' τ' I1 hxt => ?_⟩
    obtain ⟨h1, h2⟩ := hxt
    refine ⟨true, hx c h1, fun _ a na => ?_, fun e => nomatch e⟩
    obtain ⟨h3, hlt, _⟩ := (h2 a).inv
    have ss : ∀ {F2 : Hp} {σ2 : L2.St} {τ2 : TSt}, Same F F2 → SS F σ τ F2 σ2 τ2 := fun s => ⟨s, fun j k t e => absurd e (noLk_get nl)⟩
    refine ⟨c, ⟨F, B.H, B.args⟩, h1, rfl, rfl, F', _, offD i TD, store_frz I1 hlt (show Rep X.K F' (.oth (.ref a)) (.ref a) from rfl), h3, ⟨fun F2 H2 σ2 τ2 I2 s2 q => ?_, fun F2 H2 σ2 τ2 I2 s2 q => ?_, fun F2 H2 σ2 τ2 I2 s2 q => ?_, fun F2 H2 σ2 τ2 r v I2 rr f q => ok'.rt _ _ _ _ _ _ I2 rr f q⟩⟩
    · exact ok'.nx F2 H2 _ _ (off_inn I2) (ss I2.sub) q
    · exact ok'.bk F2 H2 _ _ (off_inn I2) (ss I2.sub) q
    · exact ok'.ct F2 H2 _ _ (off_inn I2) (ss I2.sub) q
end
def isEK (o : Option (Option Sl)) (v : V) (p : Prop) : Prop := match o with
  | some (some ⟨.frz, _, .oth u⟩) => u = v ∧ p
  | _ => False
def ttIsE (i : Nat) (v : V) (b : Bool) : TTE := fun τ P => isEK τ[i]? v (P (.val false (.bl b)) τ)
theorem isEK.inv {o : Option (Option Sl)} {v : V} {p : Prop} (h : isEK o v p) : (∃ l, o = some (some ⟨.frz, l, .oth v⟩)) ∧ p := by
  unfold isEK at h
  split at h
  · rename_i l u
    obtain ⟨rfl, h⟩ := h
    exact ⟨⟨l, rfl⟩, h⟩
  · exact h.elim
theorem isEK_o {l : Bool} {v : V} {p : Prop} : isEK (some (some ⟨.frz, l, .oth v⟩)) v p = p := propext ⟨fun h => h.2, fun h => ⟨rfl, h⟩⟩
theorem z_isE {i : Nat} {v : V} {b : Bool} {τ : TSt} {P : R → TSt → Prop} : ttIsE i v b τ P = isEK τ[i]? v (P (.val false (.bl b)) τ) := rf rfl
/-- a class by its name -/
def ClN (X : Cx) (y : Str) (u : Value) : Prop := ∃ cv, ClsV cv u ∧ ∀ pos, PE X (.Name y pos) (tC cv)
section
variable {X : Cx} {y : Str} {C : Addr} {c : String}
theorem cln_own (hg : Gl X y) (hm : X.mg y = some (.ref C)) (hd : (y == ("__debug__" : Str)) = false := by decide) : ClN X y (.ref C) := ⟨.ref C, .own C, fun _ => pe_glob hg hm rfl hd⟩
theorem cln_ty (hg : Gl X y) (hm : X.mg y = none) (hv : bootBuiltins y = some (.type c)) (hn : y ≠ "__name__" := by decide) (hd : (y == ("__debug__" : Str)) = false := by decide) : ClN X y (.type c) := ⟨.ty c, .ty c, fun _ => pe_bltn hg hm hv rfl hn hd⟩
end
inductive ClNs (X : Cx) : List Expr → List Value → Prop where
  | nil : ClNs X [] []
  | cons {y : Str} {p : Pos} {u : Value} {es : List Expr} {us : List Value} (h : ClN X y u) (t : ClNs X es us) (hs : starEach (.Name y p :: es) X.env = (false, eval (.Name y p) X.env) :: starEach es X.env := by rfl) : ClNs X (.Name y p :: es) (u :: us)
theorem ClNs.pa {X : Cx} : ∀ {es : List Expr} {us : List Value}, ClNs X es us → ∃ cs, Paired ClsV cs us ∧ cs.length = es.length ∧ PA X es (fun _ H Q => Q cs H)
  | _, _, .nil => ⟨[], .nil, rfl, PA.imp pa_nil fun _ _ _ h => h⟩
  | _, _, .cons (es := es) h t hs => by
    obtain ⟨cs, h1, h2, h3⟩ := t.pa
    obtain ⟨cv, h4, h5⟩ := h
    exact ⟨cv :: cs, .cons h4 h1, by rw [List.length_cons, List.length_cons, h2], PA.imp (pa_cons (h5 _) h3 hs) fun _ _ _ h => h⟩
section
variable {X : Cx} {B : Bs} {a : Addr} {oe : Obj} {pn : List (Addr × Obj)} {cls : String → Addr} {c : String} {i : Nat} {n y : Str} {u : Value} {b : Bool} {p p1 p2 pos tpos : Pos} {es : List Expr} {us : List Value} {kk : Nat}
theorem tpe_isE (E : ExcC X.K (cls c)) (hz : Zc (.ref (cls c)) none oe) (hv : ∃ vs, oe.data = .fields vs) (hg : Gl (X.suite a ((a, oe) :: pn)) "isinstance") (hm : X.mg "isinstance" = none) (hN : X.N[i]? = some n) (hvis : Vis X.env.scope n) (cn : ClN (X.suite a ((a, oe) :: pn)) y u)
    (hk : PySem.W.kitOne X.K (.ref (cls c)) u = some b) (hd : (n == ("__debug__" : Str)) = false := by decide) (hcd : (n == ("__classdict__" : Str)) = false := by decide)
    (hs : starEach [.Name n p1, .Name y p2] X.env = (false, eval (.Name n p1) X.env) :: starEach [.Name y p2] X.env := by rfl) (hs2 : starEach [.Name y p2] X.env = (false, eval (.Name y p2) X.env) :: starEach [] X.env := by rfl) (hpl : (backTo pos (starEach [.Name y p2] X.env)).any (·.1) = false := by rfl) :
    TPE (X.suite a ((a, oe) :: pn)) B (.Call (.Name "isinstance" p) [.Name n p1, .Name y p2] [] pos) (ttIsE i (.ref a) b) := by
  obtain ⟨cv, h4, h5⟩ := cn
  refine ⟨PE.imp (pe_callB (call_isE E hz hv) hg hm (by decide +kernel) (pa_cons (pe_var hN hvis hd hcd) (pa_cons (h5 p2) pa_nil hs2) hs) (by decide) (by decide) hs hpl) fun σ H Q h => ?_⟩
  obtain ⟨F, τ, P, I, ht, hq⟩ := h
  obtain ⟨⟨l, e1⟩, ht⟩ := ht.inv
  obtain ⟨v, e2, rp⟩ := I.wf.frz i l _ e1
  cases (show v = V.ref a from rp)
  exact ⟨.ref a, e2, cv, u, b, rfl, fun w r => h4.eq r, hk, hq _ _ _ _ _ ht I Stp.refl rfl trivial⟩
end
theorem FnOk_cls {P : Program} {w : World} {K : PySem.W.Frag} {mg : Str → Option Value} {base : Heap} {CX : CXT} {k : Nat} {f : Addr} {fd : FuncData} {ps : List Str} {S : TSp} {cls cls' : String → Addr} (F : FnOk P w K mg base CX k f fd ps (liftSp K cls S)) (h : ∀ as PR PX, S as PR PX → S as PR fun _ _ => False) : FnOk P w K mg base CX k f fd ps (liftSp K cls' S) :=
  F.imp fun vs H Q E q => by
    obtain ⟨Fh, as, PR, PX, ao, hs, hq, _⟩ := q
    exact ⟨Fh, as, PR, _, ao, h as PR PX hs, hq, fun _ _ _ _ z _ => z.elim⟩
end TL
namespace TL
open PySem PySem.Spec PyProof.Rows L2
def isSub (c : String) : List String → Bool
  | [] => false
  | n :: ns => (n == c || n == "ValueError" || n == "ShunError") || isSub c ns
theorem cs_two {c : String} : ∀ {cs : List String}, cs.contains c = true → c ∈ cs
  | x :: xs, h => by simpa using h
section
variable {X : Cx}
def mulST : G2 := fun a b k => match a, b with
  | .str z, .int n => (n = 0 ∧ k false (.str Str.empty)) ∨ (n = 1 ∧ k false (.str z))
  | _, _ => False
theorem q_mulS {z : Str} {b : Bool} {k : Bool → T → Prop} : mulST (.str z) (.int (b2i b)) k = k false (.str (if b = true then z else Str.empty)) := by
  apply propext
  cases b with
  | true => exact ⟨fun h => h.elim (fun q => by cases q.1) (fun q => q.2), fun h => .inr ⟨rfl, h⟩⟩
  | false => exact ⟨fun h => h.elim (fun q => q.2) (fun q => by cases q.1), fun h => .inl ⟨rfl, h⟩⟩
end
section
variable {i : Nat} {cs : List String} {tb : (String → TSt → Prop) → TTS} {ts : String → V → TTS} {D : TEnds} {τ : TSt} {c : String} {XT : String → TSt → Prop}
theorem z_try : ttTry i cs tb ts D τ = (noLk τ = true ∧ tb (tryX i cs ts D) D τ) := rf rfl
theorem noLk_c {k : Kd} {t : T} : noLk (some ⟨k, false, t⟩ :: τ) = noLk τ := by
  show (true && noLk τ) = noLk τ
  rw [Bool.true_and]
theorem noLk_n : noLk (none :: τ) = noLk τ := by
  show (true && noLk τ) = noLk τ
  rw [Bool.true_and]
theorem noLk_0 : noLk [] = true := rfl
theorem z_raise : ttRaise c XT D τ = XT c τ := rf rfl
theorem xt_e {as : List Sl} {PX : String → List T → Prop} : xtT as PX c τ = (keptA as τ ∧ PX c (outA as τ)) := rf rfl
theorem oD_rt : (offD i D).rt = D.rt := rf rfl
theorem oD_nx : (offD i D).nx = @box _ ⟨fun τ => D.nx (τ.set i none)⟩ := rf rfl
theorem tryX_i (h : cs.contains c = true) (k : ∀ a : Addr, setS τ i ⟨.frz, false, .oth (.ref a)⟩ (@box _ ⟨fun τ2 => ts c (.ref a) (offD i D) τ2⟩)) : tryX i cs ts D c τ := ⟨h, k⟩
theorem cndB_t {b : Bool} {f g : Unit → Prop} (h : b = true) (hf : f ()) : cnd b f g := by rw [h]; exact hf
end
theorem thr0 {X : Cx} {B : Bs} {cls : String → Addr} : Thr X B cls nox := ⟨fun _ _ _ _ => False, takes0, fun _ _ _ _ _ _ h => False.elim h⟩
end TL

namespace TL
open PySem PySem.Spec PyProof.Rows L2
section
variable {X : Cx} {B : Bs} {tg : Expr}
def r2L (ts : List T) (τ : TSt) (P : List T → Lk → TSt → Prop) : Prop := match ts with
  | [.int i, .int j] => P (rngT i (j - i).toNat) none τ
  | _ => False
def tiRng2L (tl : TTL) : TTI := fun τ P => tl τ fun ts τ1 => r2L ts τ1 P
theorem r2L_i {i j : Int} {τ : TSt} {P : List T → Lk → TSt → Prop} : r2L [.int i, .int j] τ P = P (rngT i (j - i).toNat) none τ := rf rfl
theorem z_rng2L {tl : TTL} {τ : TSt} {Pi : List T → Lk → TSt → Prop} : tiRng2L tl τ Pi = tl τ (@box _ ⟨fun ts τ1 => r2L ts τ1 Pi⟩) := rf rfl
end
end TL

namespace TL
open PySem PySem.Spec PyProof.Rows L2
section
variable {X : Cx} {B : Bs} {k : Nat} {cls : String → Addr} {x x0 x1 : Str} {t : TA} {p p0 p1 pos pos2 : Pos} {d i e : Expr} {es : List Expr}
/-- what the two names may hold, the one at j is called -/
def two (isL : Bool) (f0 f1 : Addr) : HO := if isL then .lst [.ref f0, .ref f1] else .tup [.ref f0, .ref f1]
structure CalF (P : Program) (w : World) (K : PySem.W.Frag) (mg : Str → Option Value) (base : Heap) (CX : CXT) (k : Nat) (x : Str) (f : Addr) (sp : Sp) : Prop where
  ex : ∃ fd ps, FnOk P w K mg base CX k f fd ps sp ∧ mg x = some (.ref f) ∧ PySem.W.keepIn K (.ref f) = true ∧ Binds K fd ps []
variable {CX0' CX1' : CXT} {f0 f1 : Addr} {sp0 sp1 : Sp} {E : L2.St → XK} {ti : TE} {isL : Bool}
def pick2 (i : Int) (f g : Unit → Prop) : Prop := (i = 0 ∧ f ()) ∨ (i = 1 ∧ g ())
def ttCall2 (S0 S1 : TSp) (XT : String → TSt → Prop) (tti : TTE) (ta : TTA) : TTE := fun τ P => tti τ fun r τ1 => inK (r.t τ1) fun i => pick2 i (fun _ => ttCall S0 XT ta τ1 P) (fun _ => ttCall S1 XT ta τ1 P)
theorem z_call2 {S0 S1 : TSp} {XT : String → TSt → Prop} {tti : TTE} {ta : TTA} {τ : TSt} {P : R → TSt → Prop} : ttCall2 S0 S1 XT tti ta τ P = tti τ (@box _ ⟨fun r τ1 => inK (r.t τ1) (@box _ ⟨fun i => pick2 i (@box _ ⟨fun _ => ttCall S0 XT ta τ1 P⟩) (@box _ ⟨fun _ => ttCall S1 XT ta τ1 P⟩)⟩)⟩) := rf rfl
variable {S0 S1 : TSp} {XT : String → TSt → Prop} {tti : TTE} {ta : TTA} {W : WX}
/-- what a def of either kind keeps -/
structure CalP (P : Program) (w : World) (K : PySem.W.Frag) (mg : Str → Option Value) (base : Heap) (cls : String → Addr) (X : Cx) (W : WX) (k : Nat) (x : Str) (S : TSp) : Prop where
  ex : ∃ (CX : CXT) (f : Addr), CalF P w K mg base CX k x f (liftSp K cls S) ∧ ∀ σ, PassesAt CX X σ (WE W σ)
end
end TL

namespace TL
open PySem PySem.W PySem.Calls PyProof.Rows PyProof.V PySem.Spec L2
section
variable {P : Program} {w : World} {A : Around} {E : Value → Shared → Prop} {s : Shared} {a : Addr}
theorem sorted_setAny {S : Int → Bool} {n : Nat} {Q : Value → Shared → Prop} (R : SetR w s.heap a S n) (hh : A.handled = none) (hz : n ≤ 4095)
    (hQ : ∀ s' p (out : Array Value) (c : Nat) (ns : List Int), (∀ b o, s.heap.get? b = some o → s'.heap.get? b = some o) → s'.gens = s.gens → s'.os = s.os → s.heap.objs.size ≤ p →
      s'.heap.get? p = some (seqObj "list" out c) → IntsAre out.toList ns → ns.Pairwise (· < ·) → (∀ k, k ∈ ns ↔ S k = true) → ns.length = n → Q (.ref p) s') :
    wpAny (model P w) A (call (.builtin "sorted") [.ref a]) Q E s := by
  obtain ⟨o, es, ep, t, ho, hex, hd, g, nd, hm, hb, hf, hn, hr, hl⟩ := R
  refine Calls.call_function_entry kind_sorted plain_sorted entry_sorted (args_sorted1 _) ?_
  unfold Builtin.«sorted»
  refine wpAny_bind (m := checkCount "sorted" 1 1 _) (wpAny_pure ?_)
  refine wpAny_bind (collect_set (A := A.in1) hh ⟨o, ho, hex.1, hd⟩ hf hb hr hl fun s1 vs k1 hz1 g1 o1 pm => ?_)
  have hvl : vs.length = n := by rw [pm.length_eq, List.length_map, Array.length_toList]; exact hn
  have hI : IntsAre vs (vs.map Builtin.Re.reRawOf) := ints_of vs fun v hv => by
    obtain ⟨e, he, q⟩ := List.mem_map.mp (pm.mem_iff.mp hv)
    obtain ⟨k, tk, h1, _⟩ := g e he
    exact ⟨k, tk, by rw [← q]; exact h1⟩
  have pk : (vs.map Builtin.Re.reRawOf).Perm (es.toList.map keyOf) := by
    have q := pm.map Builtin.Re.reRawOf
    rw [List.map_map] at q
    exact q
  refine wpAny_bind (wpAny_newList ?_ (by rw [hvl, sizeLine_eq]; omega))
  have hoL : (s1.heap.push (seqObj "list" vs.toArray 0)).get? s1.heap.objs.size = some (seqObj "list" vs.toArray 0) := Heap.get?_push_size _ rfl
  refine wpAny_bind (wpAny_holding (wpAny_call_entry slot_list_sort ⟨_, hoL, rfl⟩ entry_list_sort (list_sort_treeAny hoL hI (by rw [hvl, sizeLine_eq]; omega) fun out ns' a1 a2 a3 => ⟨_, rfl, ?_⟩) (args_list_sort _)))
  obtain ⟨c, hc⟩ := sortedHeap_at (vs := vs) (out := out) hoL
  have pn : ns'.Perm (es.toList.map keyOf) := a2.trans pk
  refine wpAny_pure ⟨_, rfl, hQ _ s1.heap.objs.size out c ns' (fun b u e => ?_) g1 o1 hz1 hc a1 (lt_of_le_nodup ns' a3 (pn.nodup_iff.mpr nd)) (fun k => by rw [pn.mem_iff, ← hm k]) ?_⟩
  · have q := k1 b u e
    have hlt := Heap.lt_size q
    show (sortedHeap (s1.heap.push (seqObj "list" vs.toArray 0)) s1.heap.objs.size vs out).get? b = some u
    rw [sortedHeap_old (Nat.ne_of_lt hlt) (by rw [size_push']; exact Nat.lt_succ_of_lt hlt)]
    exact Heap.get?_push_of_some _ q
  · rw [pn.length_eq, List.length_map, Array.length_toList]; exact hn
end
section
variable {X : Cx} {a : Expr} {ta : TE} {p p2 q pos : Pos}
theorem sorted_set_okA {pins : List (Addr × Obj)} {σ : L2.St} {H : Hp} {s : Shared} {b : Addr} {S : Int → Bool} {n : Nat} {Q : VK} (hc : X.calm = true) (I : Inv X pins σ H s) (R : SetR X.w s.heap b S n) (h64 : n ≤ 4095)
    (q : ∀ (ms : List Int) (p : Addr), ms.Pairwise (· < ·) → (∀ k, k ∈ ms ↔ S k = true) → H p = none → Q (.ref p) (upd H p (.lst (ms.map V.int)))) :
    wpAny (model X.prog X.w) X.A (call (.builtin "sorted") [.ref b]) (EP X pins σ Q) X.xe s := by
  refine sorted_setAny R (I.ok.hd hc) h64 fun s' p out c ns k g o hp hg hi hs hm hl => ?_
  have hlen : (ns.map V.int).length ≤ sizeLine := by rw [List.length_map, hl, sizeLine_eq]; omega
  have hn : H p = none := I.hok.fresh hp
  have J : Inv X pins σ (upd H p (.lst (ns.map V.int))) { s with heap := s'.heap, gens := s'.gens, drawn := s'.drawn, toks := s'.toks } :=
    I.call (ch := []) (Un.laid k hp hn) (I.hok.laid k hp ⟨hlen, out.toList, c, vals_of_ints hi, hg⟩) (by rw [g]; exact I.bare) (fun _ z => nomatch z)
  have e : s' = { s with heap := s'.heap, gens := s'.gens, drawn := s'.drawn, toks := s'.toks } := by
    cases s'
    cases s
    cases o
    rfl
  rw [e]
  exact ⟨.ref p, _, J, rfl, q ns p hs hm hn⟩
def rSortSetA (K : PySem.W.Frag) : List V → Hp → VK → Prop := fun xs H Q => ∃ (l : Addr) (ns : List Int), xs = [V.ref l] ∧ (SqT K H l (ns.map V.int) ∨ SqL K H l (ns.map V.int)) ∧ ns.length ≤ 4000 ∧
  ∀ (ms : List Int) (p : Addr), ms.Pairwise (· < ·) → (∀ k, k ∈ ms ↔ k ∈ ns) → H p = none → Q (.ref p) (upd H p (.lst (ms.map V.int)))
theorem pe_sortSetA (hc : X.calm = true) (hg : Gl X "sorted") (hm : X.mg "sorted" = none) (hg2 : Gl X "set") (hm2 : X.mg "set" = none) (ha : PE X a ta)
    (na : starEach [a] X.env = (false, eval a X.env) :: starEach [] X.env := by rfl) : PE X (.Call (.Name "sorted" p) [.Call (.Name "set" p2) [a] [] q] [] pos) (fun σ H Q => ta σ H fun x H1 => rSortSetA X.K [x] H1 Q) := by
  refine ⟨fun pins s σ H Q I h => ?_⟩
  refine Call_ (ld_blt I hg hm PyProof.Rows.boot_sorted ?_)
  refine callWith_builtin1 (args_cons ?_ rfl) rfl rfl
  refine Call_ (ld_blt I hg2 hm2 PyProof.Rows.boot_set ?_)
  refine callWith_type1 (args_cons (thn (ha.run pins s σ H _ I h) fun v s1 ⟨x, H1, I1, r1, q1⟩ => args_nil ?_) na) na rfl
  obtain ⟨l, ns, ex, hq, h1, q1⟩ := q1
  cases ex
  cases r1
  rcases hq with hq | hq
  · obtain ⟨its, r, pl, hz⟩ := I1.tuple hq
    refine call_set_tupI ns (I1.ok.hd hc) pl (by simpa using r.ints) (by unfold scanBound; omega) fun h' tk c R hcn hk => ?_
    refine args_nil ?_
    have I2 : Inv X pins σ H1 { s1 with heap := h', toks := tk } := I1.kept hk
    exact sorted_set_okA hc I2 R (by omega) fun ms p hp hm np => q1 ms p hp (fun k => by rw [hm k, decide_eq_true_eq]) np
  · obtain ⟨its, r, pl, hz⟩ := I1.list hq
    refine set_of_lst ns (I1.ok.hd hc) pl.isList (by simpa using r.ints) (by unfold scanBound; omega) fun h' tk c R hcn hk => ?_
    refine args_nil ?_
    have I2 : Inv X pins σ H1 { s1 with heap := h', toks := tk } := I1.kept hk
    exact sorted_set_okA hc I2 R (by omega) fun ms p hp hm np => q1 ms p hp (fun k => by rw [hm k, decide_eq_true_eq]) np
end
section
variable {X : Cx} {B : Bs} {e : Expr} {te : TTE} {p p2 q pos : Pos}
def sortSetA : C1 := fun t k => match t with
  | .tup ts => intsT ts fun ns => ns.length ≤ 4000 ∧ ∀ ms : List Int, ms.Pairwise (· < ·) → (∀ x, x ∈ ms ↔ x ∈ ns) → k true (.lst (ms.map T.int))
  | .lst ts => intsT ts fun ns => ns.length ≤ 4000 ∧ ∀ ms : List Int, ms.Pairwise (· < ·) → (∀ x, x ∈ ms ↔ x ∈ ns) → k true (.lst (ms.map T.int))
  | _ => False
theorem tpe_sortSetA (hc : X.calm = true) (hg : Gl X "sorted") (hm : X.mg "sorted" = none) (hg2 : Gl X "set") (hm2 : X.mg "set" = none) (he : TPE X B e te)
    (na : starEach [e] X.env = (false, eval e X.env) :: starEach [] X.env := by rfl) : TPE X B (.Call (.Name "sorted" p) [.Call (.Name "set" p2) [e] [] q] [] pos) (ttC1 sortSetA te) :=
  ⟨PE.imp (pe_sortSetA hc hg hm hg2 hm2 he.pe na) fun σ H Q h => by
    refine c1_imp (r := rSortSetA X.K) (fun F H x t G Q s r hg k => ?_) σ H Q h
    cases t with
    | tup ts =>
      obtain ⟨ns, rfl, hl, hg⟩ := hg
      obtain ⟨a, vs, rfl, hd, z, rp⟩ := r.tup
      rw [Reps.ints.mp rp] at hd
      refine ⟨a, ns, rfl, .inl (SqT.mono s hd), hl, fun ms p hp hm np => ?_⟩
      refine k true _ _ _ _ (hg ms hp hm) (Grow.own s np) ⟨p, rfl, np, s.free np, _, upd_same, ?_, Reps.ints.mpr rfl⟩
      rw [List.length_map]
      have := nodup_len (l := ms) (m := ns) (hp.imp fun h => by omega) fun x hx => (hm x).mp hx
      have := sizeLine_val
      omega
    | lst ts =>
      obtain ⟨ns, rfl, hl, hg⟩ := hg
      obtain ⟨a, vs, rfl, hd, z, rp⟩ := r.lst s
      rw [Reps.ints.mp rp] at hd
      refine ⟨a, ns, rfl, .inr (SqL.of hd), hl, fun ms p hp hm np => ?_⟩
      refine k true _ _ _ _ (hg ms hp hm) (Grow.own s np) ⟨p, rfl, np, s.free np, _, upd_same, ?_, Reps.ints.mpr rfl⟩
      rw [List.length_map]
      have := nodup_len (l := ms) (m := ns) (hp.imp fun h => by omega) fun x hx => (hm x).mp hx
      have := sizeLine_val
      omega
    | _ => exact hg.elim⟩
theorem q_sortSetA0 {ns : List Int} {k : Bool → T → Prop} : sortSetA (.tup (ns.map T.int)) k = (ns.length ≤ 4000 ∧ ∀ ms : List Int, ms.Pairwise (· < ·) → (∀ x, x ∈ ms ↔ x ∈ ns) → k true (.lst (ms.map T.int))) := by
  show intsT _ _ = _
  rw [intsT_map]
theorem q_sortSetA1 {ns : List Int} {k : Bool → T → Prop} : sortSetA (.lst (ns.map T.int)) k = (ns.length ≤ 4000 ∧ ∀ ms : List Int, ms.Pairwise (· < ·) → (∀ x, x ∈ ms ↔ x ∈ ns) → k true (.lst (ms.map T.int))) := by
  show intsT _ _ = _
  rw [intsT_map]
end
end TL

namespace TL
open PySem PySem.Spec PyProof.Rows L2
section
variable {X : Cx} {B : Bs} {e a b : Expr} {te ta tb : TTE} {p p2 q pos : Pos}
def ttTRg2 (ta tb : TTE) : TTE := fun τ P => ta τ fun ra τ1 => tb τ1 fun rb τ2 => inK (ra.t τ2) fun i => inK (rb.t τ2) fun j => RgOk i j ∧ P (.val false (.tup (rngT i (j - i).toNat))) τ2
theorem z_trg2 {τ : TSt} {P : R → TSt → Prop} : ttTRg2 ta tb τ P = ta τ (@box _ ⟨fun ra τ1 => tb τ1 (@box _ ⟨fun rb τ2 => inK (ra.t τ2) (@box _ ⟨fun i => inK (rb.t τ2) (@box _ ⟨fun j => RgOk i j ∧ P (.val false (.tup (rngT i (j - i).toNat))) τ2⟩)⟩)⟩)⟩) := rf rfl
end
end TL

namespace TL
open PySem PySem.W PySem.Calls PyProof.Rows PyProof.V PySem.Spec L2
/-- from the last one down to the one behind hi -/
def dnN : Option Int → Nat
  | none => 0
  | some h => (h + 1).toNat
section
variable {prog : Program} {w : World} {A : Around} {E : Value → Shared → Prop} {s : Shared}
end
section
variable {X : Cx}
end
section
variable {X : Cx} {B : Bs} {e : Expr} {te : TTE}
def dnT (hi : Option Int) : C1 := fun t k => match t with
  | .tup ts => dnN hi ≤ ts.length ∧ k false (.tup (ts.drop (dnN hi)).reverse)
  | .lst ts => hi = none ∧ k true (.lst ts.reverse)
  | _ => False
theorem q_dn0 {ts : List T} {k : Bool → T → Prop} : dnT none (.tup ts) k = k false (.tup ts.reverse) := by
  show (0 ≤ ts.length ∧ k false (.tup (ts.drop 0).reverse)) = _
  simp
theorem q_dn1 {ts : List T} {k : Bool → T → Prop} : dnT none (.lst ts) k = k true (.lst ts.reverse) := by
  show (_ ∧ _) = _
  simp
theorem q_dn2 {ts : List T} {k : Bool → T → Prop} : dnT (some 1) (.tup ts) k = (2 ≤ ts.length ∧ k false (.tup (ts.drop 2).reverse)) := rf rfl
end
end TL

namespace TL
open PySem PySem.Spec PyProof.Rows L2
def d4 (x : Str) : Option Int := if x = "evens" then some 2 else if x = "sums" then some 2 else if x = "pairs" then some 3 else if x = "gaps" then some 1 else none
section
variable {X : Cx} {B : Bs} {e : Expr} {te : TTE} {p1 p2 p3 p4 q1 q2 q3 q4 dp pos : Pos} {j1 j2 j3 j4 i1 i2 i3 i4 : Nat}
def d4T : C1 := fun t k => match t with
  | .str x => ∃ v, d4 x = some v ∧ k false (.int v)
  | _ => False
theorem q_d4e {k : Bool → T → Prop} : d4T (.str "evens") k = k false (.int 2) := by
  show (∃ v, d4 "evens" = some v ∧ k false (.int v)) = _
  rw [show d4 "evens" = some 2 by decide +kernel]; simp
theorem q_d4s {k : Bool → T → Prop} : d4T (.str "sums") k = k false (.int 2) := by
  show (∃ v, d4 "sums" = some v ∧ k false (.int v)) = _
  rw [show d4 "sums" = some 2 by decide +kernel]; simp
theorem q_d4p {k : Bool → T → Prop} : d4T (.str "pairs") k = k false (.int 3) := by
  show (∃ v, d4 "pairs" = some v ∧ k false (.int v)) = _
  rw [show d4 "pairs" = some 3 by decide +kernel]; simp
theorem q_d4g {k : Bool → T → Prop} : d4T (.str "gaps") k = k false (.int 1) := by
  show (∃ v, d4 "gaps" = some v ∧ k false (.int v)) = _
  rw [show d4 "gaps" = some 1 by decide +kernel]; simp
end
end TL

namespace TL
open PySem PySem.Spec PyProof.Rows L2
def LenSetN (ns : List Int) (k : Int → Prop) : Prop := ns.length ≤ 4000 ∧ ∀ ms : List Int, ms.Nodup → (∀ x, x ∈ ms ↔ x ∈ ns) → k ms.length
section
variable {X : Cx} {a : Expr} {ta : TE} {p p2 q pos : Pos}
end
section
variable {X : Cx} {B : Bs} {e : Expr} {te : TTE} {p p2 q pos : Pos}
def lenSetU : C1 := fun t k => match t with
  | .tup ts => intsT ts fun ns => LenSetN ns fun i => k false (.int i)
  | _ => False
theorem q_lenSetU {ns : List Int} {k : Bool → T → Prop} : lenSetU (.tup (ns.map T.int)) k = LenSetN ns fun i => k false (.int i) := by
  show intsT _ _ = _
  rw [intsT_map]
end
end TL

namespace SrtO
open PySem PyProof.Rows Srt
section
variable {prog : Program} {w : World} {A : Around} {E : Value → Shared → Prop} {s : Shared}
end
end SrtO
namespace TL
open PySem PySem.Spec PyProof.Rows L2
section
variable {X : Cx}
def sortTupT : C1 := fun t k => match t with
  | .tup ts => intsT ts fun ns => k true (.lst ((srt ns).map T.int))
  | _ => False
theorem q_sortTup {ts : List T} {k : Bool → T → Prop} : sortTupT (.tup ts) k = intsT ts fun ns => k true (.lst ((srt ns).map T.int)) := rf rfl
end
end TL

namespace TL
open PySem PySem.Spec PyProof.Rows L2
def sumUp (a : Int) (n : Nat) : Int := preSum (fun i => a + (i : Nat) * 1) n
section
variable {X : Cx} {B : Bs} {e : Expr} {te : TTE} {p p2 q pos : Pos}
def ttSumRg1 (te : TTE) : TTE := fun τ P => te τ fun r τ1 => inK (r.t τ1) fun n => RgOk 0 n ∧ P (.val false (.int (sumUp 0 n.toNat))) τ1
theorem z_sumRg1 {τ : TSt} {P : R → TSt → Prop} : ttSumRg1 te τ P = te τ (@box _ ⟨fun r τ1 => inK (r.t τ1) (@box _ ⟨fun n => RgOk 0 n ∧ P (.val false (.int (sumUp 0 n.toNat))) τ1⟩)⟩) := rf rfl
end
end TL

namespace TL
open PySem PySem.Spec PyProof.Rows L2
abbrev BRel : (List Bool × Addr × V) → (List Bool × Addr × Value) → Prop := fun p q => p.1 = q.1 ∧ p.2.1 = q.2.1 ∧ RelV p.2.2 q.2.2
theorem bd_stable {P : Program} {w : World} {H : Hp} {h : Heap} {a : Addr} {xs : List (List Bool × Addr × V)} {zs : List (List Bool × Addr × Value)} (hd : (a == sysModules) = false) (pr : Paired BRel xs zs)
    (x : ∃ o es ep, h.get? a = some o ∧ o.ExactDict ∧ o.data = .dict es ep ∧ es.toList = zs.map bEnt ∧ (zs.map (·.1)).Nodup) : ObjOk P w H h a (BD a xs) := by
  obtain ⟨o, es, ep, h1, h2, h3, h4, h5⟩ := x
  refine ⟨⟨hd, zs, pr, o, es, ep, h1, h2, h3, h4, h5⟩, ⟨o, h1⟩, ?_⟩
  rintro g1 g2 ⟨hd, zs, pr, o, es, ep, h1, h2⟩ k
  exact ⟨hd, zs, pr, o, es, ep, k _ h1, h2⟩
theorem items_bl {P : Program} {w : World} : ∀ {ks : List Bool} {its : List Value}, Vals (ks.map V.bl) its → ItemsAre (PpSet.boolK P w) ks its
  | [], _, h => by cases h; exact .nil
  | k :: ks, _, h => by
    cases h with
    | cons r rr =>
      rw [show _ = Value.bool k from r]
      exact .cons (PpSet.boolK_is P w k) (items_bl rr)
theorem paired_mem {α β : Type} {F : α → β → Prop} : ∀ {l : List α} {m : List β}, Paired F l m → ∀ y ∈ m, ∃ x ∈ l, F x y
  | _, _, .nil, y, h => by cases h
  | _, _, .cons r t, y, h => by
    rcases List.mem_cons.mp h with e | h
    · subst e; exact ⟨_, List.mem_cons_self, r⟩
    · obtain ⟨x, hx, f⟩ := paired_mem t y h
      exact ⟨x, List.mem_cons_of_mem _ hx, f⟩
section
variable {X : Cx} {pins : List (Addr × Obj)} {σ : L2.St} {H : Hp} {s : Shared}
theorem bkey_of {a : Addr} {ks : List Bool} (I : Inv X pins σ H s) (e : SqT X.K H a (ks.map V.bl)) : (tupleKind (PpSet.boolK X.prog X.w)).is s.heap ks a := by
  obtain ⟨its, r, ⟨o, h1, h2, n, h3⟩, _⟩ := I.tuple e
  exact ⟨o, its.toArray, n, h1, h2, h3, by simpa using items_bl r⟩
theorem bd_rd {a : Addr} {xs : List (List Bool × Addr × V)} (I : Inv X pins σ H s) (e : H a = some (BD a xs)) (hk : ∀ p ∈ xs, SqT X.K H p.2.1 (p.1.map V.bl)) :
    (a == sysModules) = false ∧ ∃ zs, Paired BRel xs zs ∧ s.heap.DictOfH (tupleKind (PpSet.boolK X.prog X.w)) a zs := by
  obtain ⟨⟨hd, zs, pr, o, es, ep, h1, h2, h3, h4, h5⟩, _, _⟩ := (show ObjOk X.prog X.w H s.heap a (BD a xs) from I.hok a _ e)
  refine ⟨hd, zs, pr, o, es, ep, h1, h2, h3, h4, fun z hz => ?_, h5⟩
  obtain ⟨x, hx, e1, e2, _⟩ := paired_mem pr z hz
  rw [← e1, ← e2]
  exact bkey_of I (hk x hx)
end
theorem at_rel : ∀ {xs : List (List Bool × Addr × V)} {zs : List (List Bool × Addr × Value)} (k : List Bool), Paired BRel xs zs → (atKey zs k).isSome = decide (k ∈ xs.map (·.1))
  | _, _, k, .nil => rfl
  | _, _, k, .cons (a := x) (b := z) ⟨e1, e2, e3⟩ t => by
    have ih := at_rel k t
    unfold atKey at ih ⊢
    rw [List.find?_cons]
    by_cases h : z.1 = k
    · rw [decide_eq_true h]
      simp [e1, h]
    · rw [decide_eq_false h]
      simp only [List.map_cons, List.mem_cons, e1]
      rw [ih]
      have h2 : ¬ k = z.1 := fun q => h q.symm
      simp [h2]
def inB (neg : Bool) : G2 := fun a b k => match b with
  | .bdt ks _ => ∃ bs : List Bool, a = .tup (bs.map T.bl) ∧ k false (.bl (neg != decide (bs ∈ ks)))
  | _ => False
def rInB (K : PySem.W.Frag) (neg : Bool) : R2 := fun x y H Q => ∃ a b xs ks, y = .ref a ∧ H a = some (BD a xs) ∧ x = .ref b ∧ SqT K H b (ks.map V.bl) ∧ (∀ p ∈ xs, SqT K H p.2.1 (p.1.map V.bl)) ∧ Q (.bl (neg != decide (ks ∈ xs.map (·.1)))) H
theorem reps_bls {K : PySem.W.Frag} {F : Hp} : ∀ {bs : List Bool} {vs : List V}, Reps K F (bs.map T.bl) vs → vs = bs.map V.bl
  | [], _, h => h
  | b :: bs, _, ⟨v, r, e, h1, h2⟩ => by
    rw [e, show v = V.bl b from h1, reps_bls h2]
    rfl
section
variable {X : Cx}
theorem op_notInB (hu : X.A.units + 1 < cLine) : OpR X (compareOp .NotIn) (rInB X.K true) := by
  intro pins s σ H x y v u Q I rx ry h
  obtain ⟨a, b, xs, ks, rfl, hd, rfl, hb, hk, q⟩ := h
  obtain rfl : u = Value.ref a := ry
  obtain rfl : v = Value.ref b := rx
  obtain ⟨h0, zs, pr, dd⟩ := bd_rd I hd hk
  refine wpAny_notIn_heap (tupleKind_room_in1 hu) (bkey_of I hb) h0 dd ?_
  rw [at_rel ks pr]
  rw [Bool.true_bne] at q
  exact ⟨.bl _, H, I.tok _, rfl, q⟩
theorem inB_gen {f : Value → Value → Sem Value} (neg : Bool) (hR : OpR X f (rInB X.K neg)) : OpT X f (inB neg) := by
  refine ⟨_, hR, fun F H x y tx ty G Q s rx ry hg k => ?_⟩
  cases ty with
  | bdt ks ts =>
    obtain ⟨bs, rfl, hg⟩ := hg
    obtain ⟨a, xs, rfl, hd, z, hk, ht, rp⟩ := ry.bdt s
    obtain ⟨b, vs, rfl, hb, z2, rp2⟩ := rx.tup
    rw [reps_bls rp2] at hb
    refine ⟨a, b, xs, bs, rfl, hd, rfl, SqT.mono s hb, fun p hp => SqT.mono s (ht p hp), ?_⟩
    rw [hk]
    exact k false _ _ F H hg (Grow.refl s) rfl
  | _ => exact hg.elim
theorem o_notinB (hu : X.A.units + 1 < cLine) : OpT X (compareOp .NotIn) (inB true) := inB_gen true (op_notInB hu)
end
def bGet (ks : List (List Bool)) (ts : List T) (k : List Bool) : Option T := ((ks.zip ts).find? fun kv => decide (kv.1 = k)).map (·.2)
theorem bGet_rep {K : PySem.W.Frag} {F : Hp} : ∀ {xs : List (List Bool × Addr × V)} {zs : List (List Bool × Addr × Value)} {ks : List (List Bool)} {ts : List T} {k : List Bool} {t : T}, Paired BRel xs zs → xs.map (·.1) = ks → Reps K F ts (xs.map (·.2.2)) → bGet ks ts k = some t → ∃ p v, atKey zs k = some p ∧ RelV v p.2 ∧ Rep K F t v
  | _, _, _, _, k, t, .nil, rfl, h, e => by cases e
  | _, _, _, [], k, t, .cons _ _, rfl, h, e => by cases h
  | x :: xs, z :: zs, _, t' :: ts, k, t, .cons ⟨e1, e2, e3⟩ pr, rfl, ⟨v', r', ev, h1, h2⟩, e => by
    cases ev
    unfold bGet at e
    rw [List.map_cons, List.zip_cons_cons, List.find?_cons] at e
    unfold atKey
    rw [List.find?_cons, ← e1]
    by_cases hk : x.1 = k
    · simp only [hk, decide_true] at e ⊢
      cases e
      exact ⟨z.2, x.2.2, rfl, e3, h1⟩
    · simp only [hk, decide_false] at e ⊢
      obtain ⟨p, v, a1, a2, a3⟩ := bGet_rep (k := k) (t := t) pr rfl h2 e
      exact ⟨p, v, a1, a2, a3⟩
section
variable {X : Cx} {B : Bs} {a b : Expr} {ta tb : TTE} {pos : Pos}
def rIxB (K : PySem.W.Frag) : R2 := fun x y H Q => ∃ p b xs ks, x = .ref p ∧ H p = some (BD p xs) ∧ y = .ref b ∧ SqT K H b (ks.map V.bl) ∧ (∀ p ∈ xs, SqT K H p.2.1 (p.1.map V.bl)) ∧
  ∀ zs, Paired BRel xs zs → ∃ q v, atKey zs ks = some q ∧ RelV v q.2 ∧ Q v H
theorem ix_bdt (hu : X.A.units + 1 < cLine) : IxR X (rIxB X.K) := by
  intro value slice pins s σ H x y v u Q I rx ry h hs
  obtain ⟨p, b, xs, ks, rfl, hd, rfl, hb, hk, q⟩ := h
  cases rx
  cases ry
  obtain ⟨h0, zs, pr, dd⟩ := bd_rd I hd hk
  obtain ⟨z, v, a1, a2, q⟩ := q zs pr
  exact PyProof.Rows.tail_any dd.typeIs PySem.F.slot_dict_getitem.lookup (wpAny_getItem_heap (tupleKind_room_in1 hu) (bkey_of I hb) dd a1 ⟨v, H, I.tok _, a2, q⟩) hs
def ttIxB (ta tb : TTE) : TTE := fun τ P => ta τ fun ra τ1 => tb τ1 fun rb τ2 => ixB (ra.t τ2) (rb.t τ2) fun t => P (.val false t) τ2
where ixB : T → T → (T → Prop) → Prop := fun a b k => match a with
  | .bdt ks ts => ∃ (bs : List Bool) (t : T), b = .tup (bs.map T.bl) ∧ bGet ks ts bs = some t ∧ k t
  | _ => False
theorem tpe_ixB (hu : X.A.units + 64 < cLine) (ha : TPE X B a ta) (hb : TPE X B b tb) (hs : PlainIx b) : TPE X B (.Subscript a b pos) (ttIxB ta tb) := by
  refine ⟨PE.imp (pe_ix (ix_bdt (by omega)) ha.pe hb.pe hs) fun σ H Q h => ?_⟩
  obtain ⟨F, τ, P, I, ht, hq⟩ := h
  refine lift.go I ht fun ra τ1 F1 H1 x h1 I1 s1 r1 f1 => ?_
  refine lift.go I1 h1 fun rb τ2 F2 H2 y h2 I2 s2 r2 f2 => ?_
  have rx := (r1.step s2).rd I2.wf
  have ry := r2.rd I2.wf
  generalize ra.t τ2 = tx at h2 rx
  generalize rb.t τ2 = ty at h2 ry
  cases tx with
  | bdt ks ts =>
    obtain ⟨bs, t, rfl, eg, p⟩ := h2
    obtain ⟨a, xs, rfl, hd, z, hk, ht, rp⟩ := rx.bdt I2.wf.sub
    obtain ⟨b, vs, rfl, hb, z2, rp2⟩ := ry.tup
    rw [reps_bls rp2] at hb
    refine ⟨a, b, xs, bs, rfl, hd, rfl, SqT.mono I2.wf.sub hb, fun p hp => SqT.mono I2.wf.sub (ht p hp), fun zs pr => ?_⟩
    obtain ⟨q, v, a1, a2, a3⟩ := bGet_rep pr hk rp eg
    exact ⟨q, v, a1, a2, hq _ _ _ _ _ p I2 (s1.trans s2) a3 trivial⟩
  | _ => exact h2.elim
def ttDictB : TTE := fun τ P => P (.val true (.bdt [] [])) τ
theorem pe_dnewB : PE X (.Dict [] [] pos) (fun _ H Q => ∀ p, H p = none → Q (.ref p) (upd H p (BD p []))) := ⟨fun pins s σ H Q I h =>
  wpAny_Dict_empty ⟨.ref s.heap.objs.size, _, I.laid (a := s.heap.objs.size) (o := BD s.heap.objs.size []) (t' := s.toks) (fun _ _ q => Heap.get?_push_of_some _ q) (Nat.le_refl _)
    (bd_stable (beq_eq_false_iff_ne.mpr (Ne.symm (Nat.ne_of_lt I.big))) .nil ⟨_, #[], 0, Heap.get?_push_size _ rfl, ⟨rfl, rfl, rfl⟩, rfl, rfl, List.nodup_nil⟩), rfl, h _ (I.hok.fresh (Nat.le_refl _))⟩⟩
theorem tpe_dictB {pos : Pos} : TPE X B (.Dict [] [] pos) ttDictB := by
  refine ⟨PE.imp pe_dnewB fun σ H Q h => ?_⟩
  obtain ⟨F, τ, P, I, h, q⟩ := h
  intro d hd
  have g : Grow F H F (upd H d (BD d [])) := Grow.own I.wf.sub hd
  obtain ⟨rr, fr⟩ := RG.rr (v := .ref d) (k := true) (t := .bdt [] []) I.wf g ⟨d, rfl, hd, I.wf.sub.free hd, [], upd_same, Nat.zero_le _, rfl, (fun _ h => by cases h), rfl⟩
  exact q _ _ _ _ _ h (I.step (g.wf I.wf) g.step) g.step rr fr
end
section
variable {X : Cx} {B : Bs}
def rSetB (K : PySem.W.Frag) : TSet := fun o i v H Q => ∃ a b xs ks, o = .ref a ∧ H a = some (BD a xs) ∧ i = .ref b ∧ SqT K H b (ks.map V.bl) ∧ (∀ p ∈ xs, SqT K H p.2.1 (p.1.map V.bl)) ∧ ks ∉ xs.map (·.1) ∧ xs.length < sizeLine ∧
  Q (upd H a (BD a (xs ++ [(ks, b, v)])))
theorem set_bdt (hu : X.A.units + 1 < cLine) : PSet X (rSetB X.K) := by
  intro pins s σ H o i v ov iv u Q I ro ri rv h
  obtain ⟨a, b, xs, ks, rfl, hd, rfl, hb, hk, hn, hl, q⟩ := h
  cases (show ov = Value.ref a from ro)
  cases (show iv = Value.ref b from ri)
  obtain ⟨h0, zs, pr, dd⟩ := bd_rd I hd hk
  have hz : zs.length ≤ sizeLine := by rw [← Paired.length pr]; exact Nat.le_of_lt hl
  have hat : atKey zs ks = none := by
    have := at_rel ks pr
    rw [decide_eq_false hn] at this
    cases e : atKey zs ks with
    | none => rfl
    | some p => rw [e] at this; cases this
  refine wpAny_setItem_heap (hsz := hz) (tupleKind_room_in1 hu) (bkey_of I hb) dd fun h' dd' hs => ⟨_, ?_, q⟩
  rw [storedH_new hat] at dd'
  obtain ⟨ob, es, ep, e1, e2, e3, e4, _, e5⟩ := dd'
  exact d_write I (by rw [hd]; exact True.intro) hs ⟨ob, e1⟩ (bd_stable h0 (Paired.snoc pr ⟨rfl, rfl, rv⟩) ⟨ob, es, ep, e1, e2, e3, e4, e5⟩)
def stIxB (τ : TSt) (i : Nat) (k v : T) (P : TSt → Prop) : Prop := match τ[i]? with
  | some (some ⟨.own, false, .bdt ks ts⟩) => ∃ bs : List Bool, k = .tup (bs.map T.bl) ∧ bs ∉ ks ∧ ks.length < sizeLine ∧ P (τ.set i (some ⟨.own, false, .bdt (ks ++ [bs]) (ts ++ [v])⟩))
  | _ => False
def ttSetIxB (i : Nat) (te ti : TTE) : TTS := fun D τ => te τ fun r τ1 => frzR r τ1 fun t τ2 => (∃ s, τ2[i]? = some (some s)) ∧ ti τ2 fun ri τ3 => stIxB τ3 i (ri.t τ3) t D.nx
theorem tps_setIxB {i : Nat} {x : Str} {e k : Expr} {te ti : TTE} {p0 p1 pos : Pos} (hu : X.A.units + 64 < cLine) (hN : X.N[i]? = some x) (hv : Vis X.env.scope x) (he : TPE X B e te) (hi : TPE X B k ti)
    (hd : (x == ("__debug__" : Str)) = false := by decide) (hcd : (x == ("__classdict__" : Str)) = false := by decide)
    (ha : ∀ v, assign (.Subscript (.Name x p0) k p1) X.env v = (do
      let ov ← holding [v] (eval (.Name x p0) X.env)
      let iv ← holding [v, ov] (eval k X.env)
      standAt p1
      holding [v, ov, iv] (setItem ov iv v)
      release [v, ov, iv] []) := by intro _; rfl)
    (hs : swapsWithSole [.Subscript (.Name x p0) k p1] e pos.line X.env = pure false := by rfl) (hw : swappedStores [.Subscript (.Name x p0) k p1] e X.env = pure none := by rfl)
    (h1 : (assignEach [.Subscript (.Name x p0) k p1] X.env).map (·.2) = [assign (.Subscript (.Name x p0) k p1) X.env] := by rfl) : TPS X B (.Assign [.Subscript (.Name x p0) k p1] e pos) (ttSetIxB i te ti) := by
  refine ⟨PS.imp (ps_asg he.pe (pg_sub (tpe_v (B := B) i (pos := p0) hN hv hd hcd).pe hi.pe (set_bdt (by omega)) ha) hs hw h1) fun D σ H h => ?_⟩
  obtain ⟨F, τ, TD, I, h, ok⟩ := h
  refine lift.go I h fun r τ1 F1 H1 v h1 I1 s1 r1 f1 => ?_
  obtain ⟨t, τ2, F2, ⟨⟨s, hs⟩, h2⟩, I2, s2, rep, _⟩ := freeze I I1 s1 r1 f1 h1
  refine lift.go I2 (P := fun r τ3 => r = .var i ∧ τ3 = τ2) ⟨⟨s, hs⟩, rfl, rfl⟩ fun r τ3 F3 H3 o ⟨er, et⟩ I3 s3 r3 f3 => ?_
  subst er et
  refine lift.go I3 h2 fun ri τ4 F4 H4 k h4 I4 s4 r4 f4 => ?_
  have rk := r4.rd I4.wf
  generalize ri.t τ4 = ti' at h4 rk
  unfold stIxB at h4
  split at h4
  · rename_i ks ts hc
    obtain ⟨bs, rfl, hn, hl, q⟩ := h4
    obtain ⟨a, ea, n, xs, hd, z, hk, ht, rp⟩ := I4.wf.own i .own false _ hc (by simp)
    have eo : o = .ref a := by
      have := r3.1
      rw [ea] at this
      cases this
      rfl
    subst eo
    have rv : Rep X.K F4 t v := Rep.mono (s3.sub.trans s4.sub) _ _ rep
    obtain ⟨b, vs, rfl, hb, z2, rp2⟩ := rk.tup
    rw [reps_bls rp2] at hb
    have hl' : xs.length < sizeLine := by rw [← hk, List.length_map] at hl; exact hl
    refine ⟨a, b, xs, bs, rfl, hd, rfl, SqT.mono I4.wf.sub hb, fun p hp => SqT.mono I4.wf.sub (ht p hp), by rw [hk]; exact hn, hl', ?_⟩
    obtain ⟨I5, s5⟩ := mut_ok (o := BD a (xs ++ [(bs, b, v)])) (t' := .bdt (ks ++ [bs]) (ts ++ [t])) I4 hc (by simp) ea ⟨_, upd_same, by rw [List.length_append, List.length_singleton]; exact hl', by rw [List.map_append, hk]; rfl, fun p hp => by
      rcases List.mem_append.mp hp with q | q
      · exact ht p q
      · rw [List.mem_singleton.mp q]; exact hb, by rw [List.map_append]; exact Reps.append rp ⟨v, [], rfl, rv, rfl⟩⟩
    exact ok.nx _ _ _ _ I5 (((s2.trans s3).trans s4).trans s5).ss q
  · exact h4.elim
end
def sxBK (o : Option (Option Sl)) (τ : TSt) (i : Nat) (k v : T) (P : TSt → Prop) : Prop := match o with
  | some (some ⟨.own, false, .bdt ks ts⟩) => ∃ bs : List Bool, k = .tup (bs.map T.bl) ∧ bs ∉ ks ∧ ks.length < sizeLine ∧ P (τ.set i (some ⟨.own, false, .bdt (ks ++ [bs]) (ts ++ [v])⟩))
  | _ => False
theorem stIxB_eq {τ : TSt} {i : Nat} {k v : T} {P : TSt → Prop} : stIxB τ i k v P = sxBK τ[i]? τ i k v P := rf rfl
theorem sxBK_o {τ : TSt} {i : Nat} {ks : List (List Bool)} {ts : List T} {k v : T} {P : TSt → Prop} : sxBK (some (some ⟨.own, false, .bdt ks ts⟩)) τ i k v P = ∃ bs : List Bool, k = .tup (bs.map T.bl) ∧ bs ∉ ks ∧ ks.length < sizeLine ∧ (@box _ ⟨fun c' => P (τ.set i (some ⟨.own, false, c'⟩))⟩) (.bdt (ks ++ [bs]) (ts ++ [v])) := rf rfl
section
variable {τ : TSt} {P : R → TSt → Prop} {D : TEnds} {ta tb te ti : TTE} {i : Nat}
theorem z_dB : ttDictB τ P = P (.val true (.bdt [] [])) τ := rf rfl
theorem z_ixB : ttIxB ta tb τ P = ta τ (@box _ ⟨fun ra τ1 => tb τ1 (@box _ ⟨fun rb τ2 => ttIxB.ixB (ra.t τ2) (rb.t τ2) (@box _ ⟨fun t => P (.val false t) τ2⟩)⟩)⟩) := rf rfl
theorem z_setIxB : ttSetIxB i te ti D τ = te τ (@box _ ⟨fun r τ1 => frzR r τ1 (@box _ ⟨fun t τ2 => (∃ s, τ2[i]? = some (some s)) ∧ ti τ2 (@box _ ⟨fun ri τ3 => stIxB τ3 i (ri.t τ3) t D.nx⟩)⟩)⟩) := rf rfl
theorem q_ixB {ks : List (List Bool)} {ts : List T} {b : T} {k : T → Prop} : ttIxB.ixB (.bdt ks ts) b k = ∃ (bs : List Bool) (t : T), b = .tup (bs.map T.bl) ∧ bGet ks ts bs = some t ∧ k t := rf rfl
theorem q_inB {neg : Bool} {ks : List (List Bool)} {ts : List T} {a : T} {k : Bool → T → Prop} : inB neg a (.bdt ks ts) k = ∃ bs : List Bool, a = .tup (bs.map T.bl) ∧ k false (.bl (neg != decide (bs ∈ ks))) := rf rfl
end
end TL

namespace L2
open PySem PySem.Spec PyProof.Rows
section
variable {X : Cx}
end
end L2
namespace TL
open PySem PySem.Spec PyProof.Rows L2
/-- a tuple times 0 or 1 -/
def mulTT : G2 := fun a b k => match a, b with
  | .tup xs, .int j => xs ≠ [] ∧ (j = 0 ∨ j = 1) ∧ k false (.tup (if j = 1 then xs else []))
  | _, _ => False
section
variable {X : Cx}
theorem q_mulTT {xs : List T} {j : Int} {k : Bool → T → Prop} : mulTT (.tup xs) (.int j) k = (xs ≠ [] ∧ (j = 0 ∨ j = 1) ∧ k false (.tup (if j = 1 then xs else []))) := rf rfl
end
end TL

namespace TL
open PySem PySem.Spec PyProof.Rows L2
def stK (t : T) (k : Str → Prop) : Prop := match t with
  | .str a => k a
  | _ => False
theorem stK_s {a : Str} {k : Str → Prop} : stK (.str a) k = k a := rf rfl
section
variable {X : Cx} {B : Bs} {a b : Expr} {ta tb : TTE} {apos pos : Pos}
def joinT : Str → T → (T → Prop) → Prop := fun a b k => match b with
  | .lst ts => ∃ ys : List Str, ts = ys.map T.str ∧ (ys.map (·.length)).sum + ys.length * a.length ≤ 16777216 ∧ k (.str (Txt.join a ys))
  | _ => False
def ttJoin (ta tb : TTE) : TTE := fun τ P => ta τ fun ra τ1 => stK (ra.t τ1) fun x => tb τ1 fun rb τ2 => joinT x (rb.t τ2) fun t => P (.val false t) τ2
theorem z_join {τ : TSt} {P : R → TSt → Prop} : ttJoin ta tb τ P = ta τ (@box _ ⟨fun ra τ1 => stK (ra.t τ1) (@box _ ⟨fun x => tb τ1 (@box _ ⟨fun rb τ2 => joinT x (rb.t τ2) (@box _ ⟨fun t => P (.val false t) τ2⟩)⟩)⟩)⟩) := rf rfl
theorem joinT_l {a : Str} {ts : List T} {k : T → Prop} : joinT a (.lst ts) k = ∃ ys : List Str, ts = ys.map T.str ∧ (ys.map (·.length)).sum + ys.length * a.length ≤ 16777216 ∧ k (.str (Txt.join a ys)) := rf rfl
def ttSplit (ta tb : TTE) : TTE := fun τ P => ta τ fun ra τ1 => stK (ra.t τ1) fun x => tb τ1 fun rb τ2 => stK (rb.t τ2) fun y => ((y.length == 0) = false ∧ x.length + 2 ≤ sizeLine ∧ (Txt.split x y).length ≤ sizeLine) ∧ P (.val true (.lst ((Txt.split x y).map T.str))) τ2
theorem z_split {τ : TSt} {P : R → TSt → Prop} : ttSplit ta tb τ P = ta τ (@box _ ⟨fun ra τ1 => stK (ra.t τ1) (@box _ ⟨fun x => tb τ1 (@box _ ⟨fun rb τ2 => stK (rb.t τ2) (@box _ ⟨fun y => ((y.length == 0) = false ∧ x.length + 2 ≤ sizeLine ∧ (Txt.split x y).length ≤ sizeLine) ∧ P (.val true (.lst ((Txt.split x y).map T.str))) τ2⟩)⟩)⟩)⟩) := rf rfl
def ttPartn (ta tb : TTE) : TTE := fun τ P => ta τ fun ra τ1 => stK (ra.t τ1) fun x => tb τ1 fun rb τ2 => stK (rb.t τ2) fun y => ((y.length == 0) = false ∧ x.length ≤ sizeLine) ∧ P (.val false (.tup [.str (Txt.partition x y).1, .str (Txt.partition x y).2.1, .str (Txt.partition x y).2.2])) τ2
theorem z_partn {τ : TSt} {P : R → TSt → Prop} : ttPartn ta tb τ P = ta τ (@box _ ⟨fun ra τ1 => stK (ra.t τ1) (@box _ ⟨fun x => tb τ1 (@box _ ⟨fun rb τ2 => stK (rb.t τ2) (@box _ ⟨fun y => ((y.length == 0) = false ∧ x.length ≤ sizeLine) ∧ P (.val false (.tup [.str (Txt.partition x y).1, .str (Txt.partition x y).2.1, .str (Txt.partition x y).2.2])) τ2⟩)⟩)⟩)⟩) := rf rfl
/-- x or y, x a text -/
def ttOrS (ta tb : TTE) : TTE := fun τ P => ta τ fun ra τ1 => stK (ra.t τ1) fun x => x.length ≤ sizeLine ∧ if x.length = 0 then tb τ1 P else P (.val false (.str x)) τ1
theorem z_orS {τ : TSt} {P : R → TSt → Prop} : ttOrS ta tb τ P = ta τ (@box _ ⟨fun ra τ1 => stK (ra.t τ1) (@box _ ⟨fun x => x.length ≤ sizeLine ∧ cnd (decide (x.length = 0)) (@box _ ⟨fun _ => tb τ1 P⟩) (@box _ ⟨fun _ => P (.val false (.str x)) τ1⟩)⟩)⟩) := by
  unfold ttOrS box cnd
  congr 1
  funext ra τ1
  congr 1
  funext x
  by_cases h : x.length = 0
  · simp [h]
  · simp [h]
end
theorem q_seq_3 {z : Str} {k : List T → Prop} : seqI (.str z) k = k (signs z) := rf rfl
theorem q_int_2 {z : Str} {k : Bool → T → Prop} : (intC (.str z) k) = ∃ n, PySem.intText? z = some n ∧ z.length ≤ 640 ∧ k false (.int n) := rf rfl
theorem q_str_0 {i : Int} {k : Bool → T → Prop} : (strC (.int i) k) = (i.natAbs.log2 < 1920 ∧ k false (.str (toString i))) := rf rfl
end TL

namespace TL
open PySem PySem.W PySem.Calls PyProof.Rows PyProof.V PySem.Spec L2
section
variable {prog : Program} {w : World} {A : Around} {E : Value → Shared → Prop} {s : Shared}
def revS (z : Str) : Str := ⟨((Builtin.Str.strSliceIndices none none (-1) z.length).filterMap (z.cps[·]?)).toArray⟩
end
section
variable {X : Cx}
end
section
variable {X : Cx}
end
section
variable {X : Cx} {B : Bs} {e a b c : Expr} {te ta tb tc : TTE} {p pos cpos : Pos}
def ttRevS (te : TTE) : TTE := fun τ P => te τ fun r τ1 => stK (r.t τ1) fun x => x.length ≤ sizeLine ∧ P (.val false (.str (revS x))) τ1
theorem z_revS {τ : TSt} {P : R → TSt → Prop} : ttRevS te τ P = te τ (@box _ ⟨fun r τ1 => stK (r.t τ1) (@box _ ⟨fun x => x.length ≤ sizeLine ∧ P (.val false (.str (revS x))) τ1⟩)⟩) := rf rfl
/-- c in range(a, b) -/
def ttInRg (tc ta tb : TTE) : TTE := fun τ P => tc τ fun rc τ1 => ta τ1 fun ra τ2 => tb τ2 fun rb τ3 => inK (rc.t τ3) fun i => inK (ra.t τ3) fun lo => inK (rb.t τ3) fun hi => P (.val false (.bl (decide (lo ≤ i ∧ i < hi)))) τ3
theorem z_inRg {τ : TSt} {P : R → TSt → Prop} : ttInRg tc ta tb τ P = tc τ (@box _ ⟨fun rc τ1 => ta τ1 (@box _ ⟨fun ra τ2 => tb τ2 (@box _ ⟨fun rb τ3 => inK (rc.t τ3) (@box _ ⟨fun i => inK (ra.t τ3) (@box _ ⟨fun lo => inK (rb.t τ3) (@box _ ⟨fun hi => P (.val false (.bl (decide (lo ≤ i ∧ i < hi)))) τ3⟩)⟩)⟩)⟩)⟩)⟩) := rf rfl
/-- c not in range(a, b) -/
def ttNiRg (tc ta tb : TTE) : TTE := fun τ P => tc τ fun rc τ1 => ta τ1 fun ra τ2 => tb τ2 fun rb τ3 => inK (rc.t τ3) fun i => inK (ra.t τ3) fun lo => inK (rb.t τ3) fun hi => P (.val false (.bl (!decide (lo ≤ i ∧ i < hi)))) τ3
theorem z_niRg {τ : TSt} {P : R → TSt → Prop} : ttNiRg tc ta tb τ P = tc τ (@box _ ⟨fun rc τ1 => ta τ1 (@box _ ⟨fun ra τ2 => tb τ2 (@box _ ⟨fun rb τ3 => inK (rc.t τ3) (@box _ ⟨fun i => inK (ra.t τ3) (@box _ ⟨fun lo => inK (rb.t τ3) (@box _ ⟨fun hi => P (.val false (.bl (!decide (lo ≤ i ∧ i < hi)))) τ3⟩)⟩)⟩)⟩)⟩)⟩) := rf rfl
end
end TL

namespace TL
open PySem PySem.Spec PyProof.Rows L2
section
variable {X : Cx}
def MSOk (z : Str) (n : Int) : Prop := 0 < z.length ∧ z.length ≤ 1000 ∧ 2 ≤ n ∧ n ≤ 1000
def mulSG : G2 := fun a b k => match a, b with
  | .str z, .int n => MSOk z n ∧ k false (.str (Txt.mul z n))
  | _, _ => False
theorem q_mulSG {z : Str} {n : Int} {k : Bool → T → Prop} : mulSG (.str z) (.int n) k = (MSOk z n ∧ k false (.str (Txt.mul z n))) := rf rfl
end
end TL

namespace TL
open PySem PySem.Spec PyProof.Rows L2
open PySem (wpAny_tupleHeld_enum)
section
variable {prog : Program} {w : World} {A : Around} {E : Value → Shared → Prop} {s : Shared}
end
section
variable {X : Cx} {a : Expr} {ta : TE} {p p2 q pos : Pos}
end
def enKs (k n : Nat) : List Key := (List.range n).map fun i => .inl ((k + i : Nat) : Int)
section
variable {X : Cx} {B : Bs} {e : Expr} {te : TTE} {p p2 q pos : Pos}
def dictEnT (b : Bool) : C1 := fun t k => match t, b with
  | .tup ts, false => k true (.dct (enKs 0 ts.length) ts)
  | .lst ts, true => k true (.dct (enKs 0 ts.length) ts)
  | _, _ => False
theorem z_dictEnF {ts : List T} {k} : dictEnT false (.tup ts) k = k true (.dct (enKs 0 ts.length) ts) := rf rfl
theorem z_dictEnT {ts : List T} {k} : dictEnT true (.lst ts) k = k true (.dct (enKs 0 ts.length) ts) := rf rfl
end
end TL

namespace TL
open PySem PySem.Spec PyProof.Rows L2
def rgCI (i c : Int) (n : Nat) : List Int := (List.range n).map fun k => i + (k : Nat) * c
section
variable {X : Cx} {a b c e : Expr} {ta : TA} {p p2 q pos : Pos}
end
section
variable {X : Cx} {B : Bs} {a b c : Expr} {tl : TTL} {p p2 q pos : Pos}
def r3C (n : Nat) (ts : List T) (τ : TSt) (P : R → TSt → Prop) : Prop := match ts with
  | [.int i, .int j, .int k] => (RgC i j k n ∧ n ≤ 1000) ∧ P (.val false (.tup ((rgCI i k n).map T.int))) τ
  | _ => False
def ttTRgC (n : Nat) (tl : TTL) : TTE := fun τ P => tl τ fun ts τ1 => r3C n ts τ1 P
theorem r3C_i {n : Nat} {i j k : Int} {τ : TSt} {P : R → TSt → Prop} : r3C n [.int i, .int j, .int k] τ P = ((RgC i j k n ∧ n ≤ 1000) ∧ P (.val false (.tup ((rgCI i k n).map T.int))) τ) := rf rfl
theorem z_trgC {n : Nat} {τ : TSt} {P : R → TSt → Prop} : ttTRgC n tl τ P = tl τ (@box _ ⟨fun ts τ1 => r3C n ts τ1 P⟩) := rf rfl
end
end TL

namespace TL
open PySem PySem.Spec PyProof.Rows L2
open PySem.SeqAt
open PySem.MeetsSeq PySem.MeetsSeq2 PySem.MeetsSeq3
section
variable {prog : Program} {w : World} {A : Around} {E : Value → Shared → Prop} {s : Shared}
end
section
variable {X : Cx}
end
def cutG (c a b v : T) (P : T → Prop) : Prop := match c, a, b, v with
  | .lst ts, .int i, .int j, .lst us => (0 ≤ i ∧ i ≤ j ∧ ts.length + us.length ≤ sizeLine) ∧ P (.lst (ts.take i.toNat ++ us ++ ts.drop j.toNat))
  | _, _, _, _ => False
theorem q_cutG {ts us : List T} {i j : Int} {P : T → Prop} : cutG (.lst ts) (.int i) (.int j) (.lst us) P = ((0 ≤ i ∧ i ≤ j ∧ ts.length + us.length ≤ sizeLine) ∧ P (.lst (ts.take i.toNat ++ us ++ ts.drop j.toNat))) := rf rfl
def sxCut (o : Option (Option Sl)) (τ : TSt) (i : Nat) (a b v : T) (P : TSt → Prop) : Prop := match o with
  | some (some ⟨.own, false, c⟩) => cutG c a b v fun c' => P (τ.set i (some ⟨.own, false, c'⟩))
  | _ => False
theorem sxCut_o {τ : TSt} {i : Nat} {c a b v : T} {P : TSt → Prop} : sxCut (some (some ⟨.own, false, c⟩)) τ i a b v P = cutG c a b v (@box _ ⟨fun c' => P (τ.set i (some ⟨.own, false, c'⟩))⟩) := rf rfl
section
variable {X : Cx} {B : Bs} {te tl th : TTE} {i : Nat} {D : TEnds} {τ : TSt}
def ttSetCut (i : Nat) (te tl th : TTE) : TTS := fun D τ => te τ fun r τ1 => frzR r τ1 fun t τ2 => (∃ s, τ2[i]? = some (some s)) ∧ tl τ2 fun ra τ3 => th τ3 fun rb τ4 => sxCut τ4[i]? τ4 i (ra.t τ4) (rb.t τ4) t D.nx
theorem z_setCut : ttSetCut i te tl th D τ = te τ (@box _ ⟨fun r τ1 => frzR r τ1 (@box _ ⟨fun t τ2 => (∃ s, τ2[i]? = some (some s)) ∧ tl τ2 (@box _ ⟨fun ra τ3 => th τ3 (@box _ ⟨fun rb τ4 => sxCut τ4[i]? τ4 i (ra.t τ4) (rb.t τ4) t D.nx⟩)⟩)⟩)⟩) := rf rfl
end
end TL

namespace TL
open PySem PySem.Spec PyProof.Rows L2
section
variable {X : Cx} {B : Bs} {e a b c : Expr} {te ta tb tc : TTE} {p pos cpos : Pos}
end
end TL

namespace TL
open PySem PySem.Spec PyProof.Rows L2
section
variable {K : PySem.W.Frag} {F F' H H' : Hp} {d : Addr} {od : Obj} {kvs : List (Key × V)}
/-- F' is F with the dict at d unlocked -/
structure Unl (F F' : Hp) (d : Addr) (od : Obj) (kvs : List (Key × V)) : Prop where
  at1 : F d = some (.frz od (.dK kvs))
  at2 : F' d = some (.dK kvs)
  ne : ∀ a, a ≠ d → F' a = F a
theorem Unl.get (s : Unl F F' d od kvs) {a : Addr} {o : HO} (h : F a = some o) (n : ∀ o' u, o ≠ .frz o' u) : F' a = some o := by
  by_cases e : a = d
  · subst e
    rw [s.at1] at h
    cases h
    exact absurd rfl (n _ _)
  · rw [s.ne a e]; exact h
theorem Unl.rd (s : Unl F F' d od kvs) {a : Addr} {o : HO} (h : Rd F a o) (n : ∀ o' u, o ≠ .frz o' u) : Rd F' a o := by
  rcases h with h | ⟨o', h⟩
  · exact .inl (s.get h n)
  · by_cases e : a = d
    · subst e
      rw [s.at1] at h
      cases h
      exact .inl s.at2
    · exact .inr ⟨o', by rw [s.ne a e]; exact h⟩
theorem Unl.sqT (s : Unl F F' d od kvs) {a : Addr} {xs : List V} (h : SqT K F a xs) : SqT K F' a xs := h.elim (fun h => .inl (s.rd h fun _ _ z => nomatch z)) .inr
theorem Unl.sqL (s : Unl F F' d od kvs) {a : Addr} {xs : List V} (h : SqL K F a xs) : SqL K F' a xs := h.elim (fun h => .inl (s.rd h fun _ _ z => nomatch z)) .inr
mutual
theorem Unl.rep (s : Unl F F' d od kvs) : ∀ (t : T) (v : V), Rep K F t v → Rep K F' t v
  | .non, _, h => h
  | .bl _, _, h => h
  | .int _, _, h => h
  | .str _, _, h => h
  | .tup ts, _, ⟨a, vs, e, q, z, r⟩ => ⟨a, vs, e, s.sqT q, z, Unl.reps s ts vs r⟩
  | .lst ts, _, ⟨a, vs, e, q, z, r⟩ => ⟨a, vs, e, s.get q (fun _ _ z => nomatch z), z, Unl.reps s ts vs r⟩
  | .dct ks ts, _, ⟨a, kvs, e, q, z, k, r⟩ => ⟨a, kvs, e, s.rd q (fun _ _ z => nomatch z), z, k, Unl.reps s ts _ r⟩
  | .scr _, _, ⟨a, e, q, z⟩ => ⟨a, e, s.sqL q, z⟩
  | .oth _, _, h => h
  | .ins _ ts, _, ⟨a, C, dx, vs, e, q, c, n, l, r⟩ => ⟨a, C, dx, vs, e, s.get q (fun _ _ z => nomatch z), c, n, l, Unl.reps s ts vs r⟩
  | .bdt _ ts, _, ⟨a, xs, e, q, z, k, t, r⟩ => ⟨a, xs, e, s.get q (fun _ _ z => nomatch z), z, k, fun x hx => s.sqT (t x hx), Unl.reps s ts _ r⟩
  | .obj _ _, _, h => h
  | .lat _ _, _, h => h
theorem Unl.reps (s : Unl F F' d od kvs) : ∀ (ts : List T) (vs : List V), Reps K F ts vs → Reps K F' ts vs
  | [], _, h => h
  | t :: ts, _, ⟨v, r, e, h1, h2⟩ => ⟨v, r, e, Unl.rep s t v h1, Unl.reps s ts r h2⟩
end
end
/-- a key as a tree -/
def kT : Key → T
  | .inl i => .int i
  | .inr x => .str x
section
variable {X : Cx} {B : Bs}
/-- the locked dict as a source -/
def tiD (i : Nat) (d : V) (ks : List Key) : TTI := fun τ P => τ[i]? = some (some ⟨.frz, false, .oth d⟩) ∧ P (ks.map kT) none τ
def lcDK (ti : TTI) (g : TTG) (tt : TTT) (te : TTE) (vs : List Nat) (i : Nat) (τ : TSt) (P : R → TSt → Prop) (d : V) (t : T) : Prop :=
  ttLc ti g tt te vs (τ.set i (some ⟨.frz, false, .oth d⟩)) (@box _ ⟨fun r τ1 => P r (τ1.set i (some ⟨.frz, false, t⟩))⟩)
def lcDT (g : TTG) (tt : TTT) (te : TTE) (vs : List Nat) (i : Nat) (o : Option (Option Sl)) (τ : TSt) (P : R → TSt → Prop) : Prop := match o with
  | some (some ⟨.own, false, .dct ks ts⟩) => ∀ d : V, lcDK (tiD i d ks) g tt te vs i τ P d (.dct ks ts)
  | _ => False
def ttLcD (i : Nat) (g : TTG) (tt : TTT) (te : TTE) (vs : List Nat) : TTE := fun τ P => lcDT g tt te vs i τ[i]? τ P
theorem lcDT_o {g : TTG} {tt : TTT} {te : TTE} {vs : List Nat} {i : Nat} {τ : TSt} {P : R → TSt → Prop} {ks : List Key} {ts : List T} : lcDT g tt te vs i (some (some ⟨.own, false, .dct ks ts⟩)) τ P = ∀ d : V, lcDK (tiD i d ks) g tt te vs i τ P d (.dct ks ts) := rf rfl
theorem z_lcD {g : TTG} {tt : TTT} {te : TTE} {vs : List Nat} {i : Nat} {τ : TSt} {P : R → TSt → Prop} : ttLcD i g tt te vs τ P = lcDT g tt te vs i τ[i]? τ P := rf rfl
theorem z_lcDK {ti : TTI} {g : TTG} {tt : TTT} {te : TTE} {vs : List Nat} {i : Nat} {τ : TSt} {P : R → TSt → Prop} {d : V} {t : T} : lcDK ti g tt te vs i τ P d t = ttLc ti g tt te vs (τ.set i (some ⟨.frz, false, .oth d⟩)) (@box _ ⟨fun r τ1 => P r (τ1.set i (some ⟨.frz, false, t⟩))⟩) := rf rfl
theorem z_tiD {i : Nat} {d : V} {ks : List Key} {τ : TSt} {Pi : List T → Lk → TSt → Prop} : tiD i d ks τ Pi = (τ[i]? = some (some ⟨.frz, false, .oth d⟩) ∧ Pi (ks.map kT) none τ) := rf rfl
theorem kT_ints {zs : List Int} : (zs.map (Sum.inl : Int → Key)).map kT = zs.map T.int := by rw [List.map_map]; rfl
end
end TL

namespace TL
open PySem PySem.Spec PyProof.Rows L2 L2H
/-- what a def does when it is called where p's object stands pinned -/
def RunPin (P : Program) (w : World) (K : PySem.W.Frag) (mg : Str → Option Value) (base : Heap) (k : Nat) (f : Addr) (fd : FuncData) (ps : List Str) (sp : Addr × Obj → Sp) : Prop :=
  (∀ p vs H Q E, sp p vs H Q E → vs.length = ps.length) ∧
  ∀ (A : Around) (outer : List Env) (s : Shared) (H : Hp) (args : Args) (us : List Value) (vs : List V) (Q : VK) (E : XK) (p : Addr × Obj), RoomH k A → PinOk outer H s p → Env0 P w K mg base A outer s H → BindsTo s fd args (ps.zip us) → Vals vs us → sp p vs H Q E →
    codeAny (model P w) A (.call (.ref f) args) (CR CX0 outer P w H s Q E) s
section
variable {P : Program} {w : World} {K : PySem.W.Frag} {mg : Str → Option Value} {base : Heap} {x qual : Str} {st : Stmt} {f : Addr} {fd : FuncData} {N ps : List Str} {k : Nat} {sp : Addr × Obj → Sp}
end
section
variable {X : Cx} {a : Addr} {oe : Obj} {pn : List (Addr × Obj)} {k : Nat} {f : Addr} {fd : FuncData} {ps : List Str} {sp : Addr × Obj → Sp} {x : Str} {q pos : Pos} {e : Expr} {es : List Expr} {t : TA}
end
section
variable {X : Cx} {B : Bs} {cls : String → Addr} {c : String} {i : Nat} {n y : Str} {u : Value} {b : Bool} {p p1 p2 pos : Pos}
/-- the promise: the kinds of the exception, as a new list of truths -/
def spPin (cls : String → Addr) (cs : String → Bool) (kinds : String → List Bool) : Addr × Obj → Sp := fun ap vs H Q _ => ∃ c, vs = [.ref ap.1] ∧ cs c = true ∧ Zc (.ref (cls c)) none ap.2 ∧ (∃ ws, ap.2.data = .fields ws) ∧ (kinds c).length ≤ sizeLine ∧
  ∀ v H', (∃ q, v = .ref q ∧ H q = none ∧ H' q = some (.lst ((kinds c).map V.bl))) → (∀ b o, H b = some o → H' b = some o) → Q v H'
def ttKd (i : Nat) (v : V) (bs : List Bool) : TTE := fun τ P => isEK τ[i]? v (P (.val true (.lst (bs.map T.bl))) τ)
theorem z_kd {i : Nat} {v : V} {bs : List Bool} {τ : TSt} {P : R → TSt → Prop} : ttKd i v bs τ P = isEK τ[i]? v (P (.val true (.lst (bs.map T.bl))) τ) := rf rfl
structure CalPin (P : Program) (w : World) (K : PySem.W.Frag) (mg : Str → Option Value) (base : Heap) (cls : String → Addr) (x : Str) (ps : List Str) (k : Nat) (cs : String → Bool) (kinds : String → List Bool) : Prop where
  ex : ∃ f fd, RunPin P w K mg base k f fd ps (spPin cls cs kinds) ∧ mg x = some (.ref f) ∧ PySem.W.keepIn K (.ref f) = true ∧ Binds K fd ps []
end
end TL

namespace TL
open PySem PySem.Spec PyProof.Rows L2
section
variable {X : Cx} {pins : List (Addr × Obj)} {σ σ' : L2.St} {H : Hp} {s : Shared}
end
def liftGh (n : Nat) (K : PySem.W.Frag) (cls : String → Addr) (S : TSp) : Sp := fun vs H Q E => ∃ gs : List V, gs.length = n ∧ liftSp K cls S (vs ++ gs) H Q E
def hasG : List Nat → TSt → Prop
  | [], _ => True
  | g :: gs, τ => (∃ s, τ[g]? = some (some s)) ∧ hasG gs τ
def callG (S : TSp) (XT : String → TSt → Prop) (rs : List R) (τ : TSt) (P : R → TSt → Prop) : Prop := varsOk rs = true ∧
  S (mkA τ 0 rs) (fun r ts => ts.length = rs.length ∧ putB rs ts τ fun τ2 => P r τ2) (fun c ts => ts.length = rs.length ∧ putB rs ts τ fun τ2 => XT c τ2)
section
variable {K : PySem.W.Frag} {B : Bs} {F0 H0 F H : Hp} {σ : L2.St} {τ0 τ : TSt} {S : TSp} {XT : String → TSt → Prop} {rs rs' : List R} {vs vs' : List V} {P : R → TSt → Prop} {Q : VK} {E : XK} {cls : String → Addr}
end
def ttCallG (S : TSp) (XT : String → TSt → Prop) (gs : List Nat) (ta : TTA) : TTE := fun τ P => ta τ fun rs τ1 => hasG gs τ1 ∧ callG S XT (rs ++ gs.map R.var) τ1 P
structure CalG (n : Nat) (P : Program) (w : World) (K : PySem.W.Frag) (mg : Str → Option Value) (base : Heap) (CX : CXT) (cls : String → Addr) (x : Str) (ps : List Str) (k : Nat) (S : TSp) : Prop where
  ex : ∃ f fd, FnOk P w K mg base CX k f fd ps (liftGh n K cls S) ∧ mg x = some (.ref f) ∧ PySem.W.keepIn K (.ref f) = true ∧ Binds K fd ps []
section
variable {X : Cx} {B : Bs} {k : Nat} {ps : List Str} {cls : String → Addr} {S : TSp} {XT : String → TSt → Prop} {ta : TTA} {x : Str} {p pos : Pos} {e : Expr} {es : List Expr} {gs : List Nat} {n : Nat}
end
section
variable {P : Program} {w : World} {K : PySem.W.Frag} {mg : Str → Option Value} {base : Heap} {cls : String → Addr}
end
section
variable {τ : TSt} {P : R → TSt → Prop} {S : TSp} {XT : String → TSt → Prop} {ta : TTA} {gs : List Nat} {g : Nat} {rs : List R}
theorem hasG_n : hasG [] τ = True := rf rfl
theorem hasG_c : hasG (g :: gs) τ = ((∃ s, τ[g]? = some (some s)) ∧ hasG gs τ) := rf rfl
theorem z_gl : callG S XT rs τ P = (varsOk rs = true ∧ S (mkA τ 0 rs) (@box _ ⟨fun r ts => ts.length = rs.length ∧ putB rs ts τ (@box _ ⟨fun τ2 => P r τ2⟩)⟩) (@box _ ⟨fun c ts => ts.length = rs.length ∧ putB rs ts τ (@box _ ⟨fun τ2 => XT c τ2⟩)⟩)) := rf rfl
theorem z_callG : ttCallG S XT gs ta τ P = ta τ (@box _ ⟨fun rs τ1 => hasG gs τ1 ∧ callG S XT (rs ++ gs.map R.var) τ1 P⟩) := rf rfl
end
end TL

namespace TL
open PySem PySem.Spec PyProof.Rows L2
/-- the object in a slot, met by its address -/
def objK (o : Option (Option Sl)) (t : T) (k : List T → Prop) : Prop := match o, t with
  | some (some ⟨.own, _, .obj u ts⟩), .oth v => u = v ∧ k ts
  | some (some ⟨.arg _, _, .obj u ts⟩), .oth v => u = v ∧ k ts
  | _, _ => False
def latK (o : Option (Option Sl)) (t : T) (k : List T → Prop) : Prop := match o, t with
  | some (some ⟨.own, _, .lat u ts⟩), .oth v => u = v ∧ k ts
  | some (some ⟨.arg _, _, .lat u ts⟩), .oth v => u = v ∧ k ts
  | _, _ => False
def nthK (ts : List T) (j : Nat) (k : T → Prop) : Prop := match ts[j]? with
  | some t => k t
  | none => False
def ttFldG (g j : Nat) (te : TTE) : TTE := fun τ P => te τ fun r τ1 => objK τ1[g]? (r.t τ1) fun ts => nthK ts j fun t => P (.val false t) τ1
section
variable {X : Cx} {B : Bs} {e : Expr} {f : Str} {pos : Pos} {te : TTE} {g j : Nat}
end
def prK (t : T) (k : T → T → Prop) : Prop := match t with
  | .tup [a, b] => k a b
  | _ => False
/-- the object in slot g goes to other fields -/
def objM (o : Option (Option Sl)) (g : Nat) (τ : TSt) (t : T) (f : List T → List T) (P : TSt → Prop) : Prop := match o, t with
  | some (some ⟨.own, false, .obj u ts⟩), .oth v => u = v ∧ P (τ.set g (some ⟨.own, false, .obj u (f ts)⟩))
  | some (some ⟨.arg j, false, .obj u ts⟩), .oth v => u = v ∧ P (τ.set g (some ⟨.arg j, false, .obj u (f ts)⟩))
  | _, _ => False
def ttSet2G (g i j1 j2 : Nat) (te : TTE) : TTS := fun D τ => te τ fun r τ1 => frzR r τ1 fun t τ2 => prK t fun a b => objM τ2[g]? g τ2 (slT τ2 i) (fun ts => (ts.set j1 a).set j2 b) D.nx
section
variable {X : Cx} {B : Bs} {e : Expr} {f1 f2 x : Str} {p p1 p2 p3 p4 p5 pos : Pos} {te : TTE} {g i j1 j2 k : Nat}
end
end TL

namespace TL
open PySem PySem.Spec PyProof.Rows L2
section
variable {X : Cx} {CX : CXT} {k : Nat} {f C : Addr} {fd : FuncData} {ps : List Str} {sp : Sp} {E : L2.St → XK} {m : Str} {pos apos : Pos} {e o : Expr} {es : List Expr} {ta : TE} {t : TA}
end
/-- a method of the class, as it is called -/
structure MetG (n : Nat) (P : Program) (w : World) (K : PySem.W.Frag) (mg : Str → Option Value) (base : Heap) (CX : CXT) (cls : String → Addr) (m : Str) (ps : List Str) (k : Nat) (S : TSp) : Prop where
  ex : ∃ C f fd, PySem.W.nsIn K mainGlobals "Desk" = some (some (.ref C)) ∧ FnOk P w K mg base CX k f fd ps (liftGh n K cls S) ∧ Meth K C m f ∧ Binds K fd ps []
def ttMethG (S : TSp) (XT : String → TSt → Prop) (g : Nat) (gs : List Nat) (te : TTE) (ta : TTA) : TTE := fun τ P => te τ fun r τ1 => frzR r τ1 fun t τ2 => objK τ2[g]? t fun _ => ta τ2 fun rs τ3 => hasG gs τ3 ∧ callG S XT (.val false t :: (rs ++ gs.map R.var)) τ3 P
section
variable {X : Cx} {B : Bs} {k : Nat} {ps : List Str} {cls : String → Addr} {S : TSp} {XT : String → TSt → Prop} {te : TTE} {ta : TTA} {m : Str} {pos apos : Pos} {o e : Expr} {es : List Expr} {gs : List Nat} {g n : Nat}
end
def ttAppG (g : Nat) (te : TTE) (tl : TTL) (mg : MG) : TTE := fun τ P => te τ fun r τ1 => latK τ1[g]? (r.t τ1) fun _ => tl τ1 fun ts τ2 => mutS τ2 g ts mg P
def appLG : MG := fun t ts k => match t, ts with
  | .lat u us, [x] => us.length < sizeLine ∧ k (.lat u (us ++ [x])) .non
  | _, _ => False
def popLG : MG := fun t ts k => match t, ts with
  | .lat u us, [] => ∃ x, us[us.length - 1]? = some x ∧ k (.lat u us.dropLast) x
  | _, _ => False
def popG : MG := fun t ts k => match t, ts with
  | .lst us, [] => ∃ x, us[us.length - 1]? = some x ∧ k (.lst us.dropLast) x
  | _, _ => False
theorem Reps.dropLast {K : PySem.W.Frag} {F : Hp} {ts : List T} {vs : List V} (h : Reps K F ts vs) : Reps K F ts.dropLast vs.dropLast := by
  rw [List.dropLast_eq_take, List.dropLast_eq_take, h.len]
  exact Reps.take _ h
section
variable {X : Cx} {B : Bs} {es : List Expr} {e o : Expr} {te : TTE} {tl : TTL} {g i : Nat} {mg : MG} {name : Str} {apos cpos : Pos} {id : String} {x : Str} {pos : Pos}
end
end TL

namespace TL
open PySem PySem.Spec PyProof.Rows L2
def ttNilG (g : Nat) (te : TTE) : TTT := fun τ P => te τ fun r τ1 => latK τ1[g]? (r.t τ1) fun ts => eqOk (.lst ts) = true ∧ P ts.isEmpty τ1
section
variable {X : Cx} {B : Bs} {o : Expr} {te : TTE} {g : Nat} {pos p : Pos}
end
def spDI (C : Addr) : Sp := fun vs H Q _ => ∃ p dx, vs = [.ref p] ∧ H p = some (.ins C dx []) ∧ ∀ a1 a2 q H', H a1 = none → H a2 = none → H q = none → a1 ≠ a2 → a1 ≠ q → a2 ≠ q → (∀ b o, b ≠ p → H b = some o → H' b = some o) →
  H' p = some (.ins C dx (deskNs.zip [.ref a1, .ref a2, .ref q])) → H' a1 = some (.tup [.str "evens"]) → H' a2 = some (.tup [.int 1]) → H' q = some (.lst []) → Q .non H'
/-- a new one, its two tuples and its list -/
structure NewD (K : PySem.W.Frag) (H H' : Hp) (p q a1 a2 : Addr) : Prop where
  np : H p = none
  nq : H q = none
  n1 : H a1 = none
  n2 : H a2 = none
  pq : p ≠ q
  p1 : p ≠ a1
  p2 : p ≠ a2
  d12 : a1 ≠ a2
  q1 : a1 ≠ q
  q2 : a2 ≠ q
  same : Same H H'
  ob : ∃ C dx, PySem.W.nsIn K mainGlobals "Desk" = some (some (.ref C)) ∧ H' p = some (.ins C dx (deskNs.zip [.ref a1, .ref a2, .ref q]))
  h1 : H' a1 = some (.tup [.str "evens"])
  h2 : H' a2 = some (.tup [.int 1])
  hq : H' q = some (.lst [])
/-- how the class is made, as callers see it -/
structure MakG (P : Program) (w : World) (K : PySem.W.Frag) (mg : Str → Option Value) (base : Heap) (k : Nat) : Prop where
  ex : ∃ C f fd, PySem.W.nsIn K mainGlobals "Desk" = some (some (.ref C)) ∧ mg "Desk" = some (.ref C) ∧ Mk K C f ∧ FnOk P w K mg base CX0 k f fd ["self"] (spDI C) ∧ Binds K fd ["self"] []
section
variable {X : Cx} {B : Bs} {k : Nat} {pos p : Pos}
end
section
variable {K : PySem.W.Frag} {B : Bs} {F H H' : Hp} {σ : L2.St} {τ : TSt} {p q a1 a2 : Addr}
def newT (u q : V) : T := .obj u [.tup [.str "evens"], .tup [.int 1], .oth q]
end
def ttNewG (i g1 g2 : Nat) : TTS := fun D τ => ∀ u q : V, setS τ i ⟨.frz, false, .oth u⟩ fun τ1 => setS τ1 g1 ⟨.own, false, newT u q⟩ fun τ2 => setS τ2 g2 ⟨.own, false, .lat q []⟩ D.nx
section
variable {X : Cx} {B : Bs} {k i g1 g2 : Nat} {x y1 y2 : Str} {pos p pos' pos'' : Pos}
end
end TL

namespace TL
open PySem PySem.Spec PyProof.Rows L2
section
variable {X : Cx}
end
section
variable {τ : TSt} {P : R → TSt → Prop} {Pb : Bool → TSt → Prop} {S : TSp} {XT : String → TSt → Prop} {te : TTE} {ta : TTA} {tl : TTL} {gs : List Nat} {g i j j1 j2 g1 g2 : Nat} {D : TEnds} {u : V} {ts : List T} {l : Bool} {k : List T → Prop} {kt : T → Prop} {kp : T → T → Prop} {t a b : T} {f : List T → List T} {Pg : TSt → Prop} {mg : MG} {km : T → T → Prop} {us : List T} {x : T}
theorem objK_o : objK (some (some ⟨.own, l, .obj u ts⟩)) (.oth u) k = k ts := propext ⟨fun h => h.2, fun h => ⟨rfl, h⟩⟩
theorem objK_a : objK (some (some ⟨.arg j, l, .obj u ts⟩)) (.oth u) k = k ts := propext ⟨fun h => h.2, fun h => ⟨rfl, h⟩⟩
theorem latK_o : latK (some (some ⟨.own, l, .lat u ts⟩)) (.oth u) k = k ts := propext ⟨fun h => h.2, fun h => ⟨rfl, h⟩⟩
theorem latK_a : latK (some (some ⟨.arg j, l, .lat u ts⟩)) (.oth u) k = k ts := propext ⟨fun h => h.2, fun h => ⟨rfl, h⟩⟩
theorem nthK_0 : nthK (t :: ts) 0 kt = kt t := rf rfl
theorem nthK_1 : nthK (a :: t :: ts) 1 kt = kt t := rf rfl
theorem nthK_2 : nthK (a :: b :: t :: ts) 2 kt = kt t := rf rfl
theorem prK_2 : prK (.tup [a, b]) kp = kp a b := rf rfl
theorem objM_o : objM (some (some ⟨.own, false, .obj u ts⟩)) g τ (.oth u) f Pg = Pg (τ.set g (some ⟨.own, false, .obj u (f ts)⟩)) := propext ⟨fun h => h.2, fun h => ⟨rfl, h⟩⟩
theorem objM_a : objM (some (some ⟨.arg j, false, .obj u ts⟩)) g τ (.oth u) f Pg = Pg (τ.set g (some ⟨.arg j, false, .obj u (f ts)⟩)) := propext ⟨fun h => h.2, fun h => ⟨rfl, h⟩⟩
theorem z_fldG : ttFldG g j te τ P = te τ (@box _ ⟨fun r τ1 => objK τ1[g]? (r.t τ1) (@box _ ⟨fun ts => nthK ts j (@box _ ⟨fun t => P (.val false t) τ1⟩)⟩)⟩) := rf rfl
theorem z_set2G : ttSet2G g i j1 j2 te D τ = te τ (@box _ ⟨fun r τ1 => frzR r τ1 (@box _ ⟨fun t τ2 => prK t (@box _ ⟨fun a b => objM τ2[g]? g τ2 (slT τ2 i) (fun ts => (ts.set j1 a).set j2 b) D.nx⟩)⟩)⟩) := rf rfl
theorem z_methG : ttMethG S XT g gs te ta τ P = te τ (@box _ ⟨fun r τ1 => frzR r τ1 (@box _ ⟨fun t τ2 => objK τ2[g]? t (@box _ ⟨fun _ => ta τ2 (@box _ ⟨fun rs τ3 => hasG gs τ3 ∧ callG S XT (.val false t :: (rs ++ gs.map R.var)) τ3 P⟩)⟩)⟩)⟩) := rf rfl
theorem z_appG : ttAppG g te tl mg τ P = te τ (@box _ ⟨fun r τ1 => latK τ1[g]? (r.t τ1) (@box _ ⟨fun _ => tl τ1 (@box _ ⟨fun ts τ2 => mutS τ2 g ts mg P⟩)⟩)⟩) := rf rfl
theorem z_nilG : ttNilG g te τ Pb = te τ (@box _ ⟨fun r τ1 => latK τ1[g]? (r.t τ1) (@box _ ⟨fun ts => eqOk (.lst ts) = true ∧ Pb ts.isEmpty τ1⟩)⟩) := rf rfl
theorem z_newG : ttNewG i g1 g2 D τ = ∀ u q : V, setS τ i ⟨.frz, false, .oth u⟩ (@box _ ⟨fun τ1 => setS τ1 g1 ⟨.own, false, newT u q⟩ (@box _ ⟨fun τ2 => setS τ2 g2 ⟨.own, false, .lat q []⟩ D.nx⟩)⟩) := rf rfl
theorem q_appL : appLG (.lat u us) [x] km = (us.length < sizeLine ∧ km (.lat u (us ++ [x])) .non) := rf rfl
theorem q_popL : popLG (.lat u us) [] km = ∃ x, us[us.length - 1]? = some x ∧ km (.lat u us.dropLast) x := rf rfl
theorem q_pop0 : popG (.lst us) [] km = ∃ x, us[us.length - 1]? = some x ∧ km (.lst us.dropLast) x := rf rfl
theorem vg_12 : ((!(1 : Nat) == 2) = true) = True := by decide
theorem vg_23 : ((!(2 : Nat) == 3) = true) = True := by decide
theorem vg_34 : ((!(3 : Nat) == 4) = true) = True := by decide
end
end TL

namespace TL
open PySem PySem.Spec PyProof.Rows L2
section
variable {prog : Program} {w : World} {A : Around} {E : Value → Shared → Prop}
end
section
variable {X : Cx}
section
variable {K : PySem.W.Frag} {F H : Hp}
end
/-- a method of a name's own dict -/
def dctK : Option (Option Sl) → Prop := fun o => match o with
  | some (some ⟨.own, false, .dct _ _⟩) => True
  | some (some ⟨.arg _, false, .dct _ _⟩) => True
  | _ => False
theorem dctK_o {ks ts} : dctK (some (some ⟨.own, false, .dct ks ts⟩)) = True := rfl
theorem dctK_a {j ks ts} : dctK (some (some ⟨.arg j, false, .dct ks ts⟩)) = True := rfl
theorem dctK.inv {o : Option (Option Sl)} (h : dctK o) : ∃ k ks ts, o = some (some ⟨k, false, .dct ks ts⟩) ∧ k ≠ .frz := by
  unfold dctK at h
  split at h
  · exact ⟨_, _, _, rfl, by simp⟩
  · exact ⟨_, _, _, rfl, by simp⟩
  · exact h.elim
def ttMutD (i : Nat) (tl : TTL) (g : MG) : TTE := fun τ P => dctK τ[i]? ∧ tl τ fun ts τ1 => mutS τ1 i ts g P
theorem z_mutD {i tl mg τ} {P : R → TSt → Prop} : ttMutD i tl mg τ P = (dctK τ[i]? ∧ tl τ (@box _ ⟨fun ts τ1 => mutS τ1 i ts mg P⟩)) := rf rfl
variable {B : Bs} {es : List Expr} {e : Expr} {tl : TTL} {i : Nat} {g : MG} {name : Str} {apos cpos : Pos} {id : String} {x : Str} {pos : Pos}
end
end TL

local macro_rules | `(tactic| walk_at "tl") => `(tactic| simp -dsimp only [TL.y_sl2, TL.y_mkf, TL.y_mko, TL.y_mka, TL.y_tv, TL.y_tn, TL.y_slT, TL.y_set, TL.y_mkN, TL.y_mkV, TL.y_mkn, TL.y_pbV, TL.y_pbn, TL.y_pbN, TL.y_pbf, TL.y_pbo, TL.y_pba, TL.y_pbl, TL.y_pbm, TL.y_voN, TL.y_voV, TL.y_von, TL.y_vnV, TL.y_vnn, TL.y_out, TL.y_onN, TL.y_onC, TL.y_st, TL.y_kp, TL.y_kpN, TL.y_kpC, TL.y_kpf, TL.y_kpa, TL.y_lkN, TL.y_lkS, TL.y_lkT, TL.y_lks, TL.y_unN, TL.y_unS, TL.y_uns, TL.y_wN, TL.y_wC, TL.z_v, TL.z_k, TL.z_tf, TL.z_nil, TL.z_cons, TL.z_tup, TL.z_lst, TL.z_bin, TL.z_B, TL.z_and, TL.z_or, TL.z_not, TL.z_if, TL.z_andV, TL.z_orV, TL.z_notV, TL.z_chain, TL.z_ix, TL.z_toN, TL.z_toS, TL.z_sl, TL.z_mut, TL.z_d0, TL.z_c1, TL.z_u, TL.z_cn, TL.z_isi, TL.z_aN, TL.z_aF, TL.z_aV, TL.z_call, TL.z_next, TL.z_brk, TL.z_cont, TL.z_seq, TL.z_drop, TL.z_ret, TL.z_retN, TL.z_ifS, TL.z_set, TL.z_tgN, TL.z_gsN, TL.z_gsC, TL.z_tgT, TL.z_asg, TL.z_setIx, TL.z_sf, TL.z_seqs, TL.z_rev, TL.z_zip, TL.z_rng1, TL.z_rng2, TL.z_fld, TL.fldK_i, TL.fg_r, TL.fg_n, TL.fg_b, TL.q_sortSetL, TL.z_lrg1, TL.z_lrg2, TL.z_get2, TL.isD_d, TL.dgK_i, TL.q_minL, TL.q_maxL, TL.q_divmod, TL.q_lenSet, TL.q_sortSet, TL.z_tgL, TL.z_par, TL.parK_2, TL.z_enum, TL.q_enum_0, TL.q_enum_1, TL.z_zp, TL.q_zpL, TL.q_sqOf_0, TL.q_sqOf_1, TL.q_sortedR, TL.q_sortedD, TL.q_ix_d, TL.q_eq_rows, TL.q_ne_rows, TL.q_eq_rows0, TL.q_ne_rows0, TL.q_eq_t0, TL.q_ne_t0, TL.q_eq_l0, TL.q_is_r, TL.isi_tuple_r, TL.isi_list_r, TL.b2i_t, TL.b2i_f, TL.q_r0_e, TL.q_r0_s, TL.q_r0_p, TL.q_r0_g, TL.q_r1_g, TL.q_es_evens_evens, TL.q_ns_evens_evens, TL.q_es_evens_sums, TL.q_ns_evens_sums, TL.q_es_evens_pairs, TL.q_ns_evens_pairs, TL.q_es_evens_gaps, TL.q_ns_evens_gaps, TL.q_es_sums_evens, TL.q_ns_sums_evens, TL.q_es_sums_sums, TL.q_ns_sums_sums, TL.q_es_sums_pairs, TL.q_ns_sums_pairs, TL.q_es_sums_gaps, TL.q_ns_sums_gaps, TL.q_es_pairs_evens, TL.q_ns_pairs_evens, TL.q_es_pairs_sums, TL.q_ns_pairs_sums, TL.q_es_pairs_pairs, TL.q_ns_pairs_pairs, TL.q_es_pairs_gaps, TL.q_ns_pairs_gaps, TL.q_es_gaps_evens, TL.q_ns_gaps_evens, TL.q_es_gaps_sums, TL.q_ns_gaps_sums, TL.q_es_gaps_pairs, TL.q_ns_gaps_pairs, TL.q_es_gaps_gaps, TL.q_ns_gaps_gaps, TL.z_try, TL.xt_e, TL.noLk_c, TL.noLk_n, TL.noLk_0, TL.z_raise, TL.oD_rt, TL.oD_nx, TL.z_isE, TL.isEK_o, TL.q_mulS, TL.r2L_i, TL.z_rng2L, TL.z_call2, TL.q_sortSetA0, TL.q_sortSetA1, TL.z_trg2, TL.q_dn0, TL.q_dn1, TL.q_dn2, TL.q_d4e, TL.q_d4s, TL.q_d4p, TL.q_d4g, TL.q_lenSetU, TL.q_sortTup, TL.z_sumRg1, TL.z_dB, TL.z_ixB, TL.z_setIxB, TL.q_ixB, TL.q_inB, TL.stIxB_eq, TL.sxBK_o, TL.q_mulTT, TL.stK_s, TL.q_seq_3, TL.z_join, TL.joinT_l, TL.z_split, TL.z_partn, TL.z_orS, TL.q_int_2, TL.q_str_0, TL.z_revS, TL.z_inRg, TL.z_niRg, TL.q_mulSG, TL.z_dictEnF, TL.z_dictEnT, TL.z_trgC, TL.r3C_i, TL.z_setCut, TL.sxCut_o, TL.q_cutG, TL.z_lcD, TL.lcDT_o, TL.z_lcDK, TL.z_tiD, TL.kT_ints, TL.z_kd, TL.objK_o, TL.objK_a, TL.latK_o, TL.latK_a, TL.nthK_0, TL.nthK_1, TL.nthK_2, TL.prK_2, TL.objM_o, TL.objM_a, TL.z_fldG, TL.z_set2G, TL.z_methG, TL.z_appG, TL.z_nilG, TL.z_newG, TL.q_appL, TL.q_popL, TL.q_pop0, TL.hasG_n, TL.hasG_c, TL.z_gl, TL.z_callG, TL.vg_12, TL.vg_23, TL.vg_34, TL.z_mutD, TL.dctK_o, TL.dctK_a, TL.z_yes, TL.bx_app, TL.sD_nx, TL.sD_rt, TL.sD_bk, TL.sD_ct, TL.lD_nx, TL.lD_rt, TL.lD_bk, TL.lD_ct, decide_true, decide_false, eq_self, TL.cnd_t, TL.cnd_f, TL.cnd_not, TL.blK_bl, TL.inK_int, TL.opK_some, TL.r1K_i, TL.r2K_i, TL.frz_val, TL.frz_var, TL.frK_f, TL.frK_o, TL.stR_v, TL.stR_f, TL.stR_n, TL.sl_eq, TL.slK_s, TL.mutS_eq, TL.mtK_o, TL.mtK_a, TL.stIx_eq, TL.sxK_o, TL.sxK_a, TL.ret_val, TL.ret_var, TL.rtK_f, TL.rtK_o, TL.ends_rt, TL.ends_nx, TL.mtL_l, TL.mtL_d, 
  TL.q_add_0, TL.q_add_1, TL.q_add_2, TL.q_add_3, TL.q_sub_0, TL.q_mul_0, TL.q_mul_1, TL.q_fdiv_0, TL.q_mod_0, TL.q_pow_0, TL.q_shl_0, TL.q_lt_0, TL.q_le_0, TL.q_gt_0, TL.q_ge_0, TL.q_eq_0, TL.q_ne_0, TL.q_eq_1, TL.q_ne_1, TL.q_eq_2, TL.q_ne_2, TL.q_eq_3, TL.q_ne_3, TL.q_is_0, TL.q_is_1, TL.q_is_2, TL.q_is_3, TL.q_is_4, TL.q_is_5, TL.q_is_6, TL.q_in_0, TL.q_in_1, TL.q_in_2, TL.q_ix_0, TL.q_ix_1, TL.q_ix_2, TL.q_ix_3, TL.q_sl_0, TL.q_sl_1, TL.q_sl_2, TL.q_sl_3, TL.q_len_0, TL.q_len_1, TL.q_len_2, TL.q_len_3, TL.q_list_0, TL.q_list_1, TL.q_list_2, TL.q_tuple_0, TL.q_tuple_1, TL.q_tuple_2, TL.q_int_0, TL.q_int_1, TL.q_sum_0, TL.q_all_0, TL.q_any_0, TL.q_sorted_0, TL.q_max2_0, TL.q_min2_0, TL.q_neg_0, TL.q_append_0, TL.q_extend_0, TL.q_insert_0, TL.q_seq_0, TL.q_seq_1, TL.q_seq_2, TL.q_rev_0, TL.q_rev_1, TL.q_zip_0, TL.q_zip_1, TL.q_setG_0, TL.q_setG_1,
  TL.canS_of, TL.canS_none, TL.canS_some, TL.atI_0, TL.atI_1, TL.atI_2, TL.atI_3, TL.ex_some,
  TL.ttFor_eq, TL.ttLc_eq, TL.y_bN, TL.y_bC, TL.ofT_none, TL.ofT_some, TL.keyT, TL.intsT_map, TL.blsT_map,
  TL.isi_int_non, TL.isi_int_bl, TL.isi_int_int, TL.isi_int_str, TL.isi_int_tup, TL.isi_int_lst, TL.isi_bool_non, TL.isi_bool_bl, TL.isi_bool_int, TL.isi_bool_str, TL.isi_bool_tup, TL.isi_bool_lst, TL.isi_str_non, TL.isi_str_bl, TL.isi_str_int, TL.isi_str_str, TL.isi_str_tup, TL.isi_str_lst, TL.isi_tuple_non, TL.isi_tuple_bl, TL.isi_tuple_int, TL.isi_tuple_str, TL.isi_tuple_tup, TL.isi_tuple_lst, TL.isi_list_non, TL.isi_list_bl, TL.isi_list_int, TL.isi_list_str, TL.isi_list_tup, TL.isi_list_lst, TL.canS_ofO, TL.ofO_none, TL.ofO_some, TL.q_abs_0, TL.canS_ofE, TL.ofE_none, TL.ofE_f, TL.ofE_o, TL.atI_4, TL.atI_5, TL.ixN_0, TL.ixN_1, TL.ixN_2, exists_const, exists_eq_left, exists_and_left, decide_eq_true_eq, Int.reduceLT, Int.reduceLE, Int.reduceAdd, Int.reduceSub, Int.reduceMul, Int.reducePow, Int.reduceNeg, Int.reduceToNat, Nat.reduceAdd, Nat.reducePow, Nat.reduceLT, Nat.reduceLeDiff, Nat.reduceMul, Nat.reduceSub,
  List.getElem?_cons_zero, List.getElem?_cons_succ, List.set_cons_zero, List.set_cons_succ, List.map_cons, List.map_nil, List.length_cons, List.length_nil, List.replicate, List.cons_append, List.nil_append, Option.getD_some,
  Option.some.injEq, exists_eq', exists_eq_left', true_and, and_true, Bool.true_and, if_true, if_false, Bool.false_eq_true, ite_true, ite_false, List.all_nil, List.all_cons, Bool.and_true, Bool.false_bne, Bool.true_bne, Bool.not_true, Bool.not_false, String.reduceEq, Option.map_some, Int.zero_add])
local macro_rules | `(tactic| walk_at "side") => `(tactic| first | omega | assumption | exact trivial | exact Or.inl ⟨by omega, by omega⟩ | exact Or.inr (Or.inl ⟨by omega, by omega⟩) | exact TL.log2_ok (n := 1000) (by assumption) (by assumption) (by decide) (by decide) | decide)
local macro_rules | `(tactic| walk_at "vc") => `(tactic| ((repeat' apply And.intro) <;> (try (walk_at "side"))))

local macro_rules | `(tactic| walk_at "fz") => `(tactic| (intro v hv; have := List.mem_singleton.mp hv; subst this; first | exact TL.frzAt_none rfl | exact TL.frzAt_of rfl | exact trivial))
local macro_rules | `(tactic| walk_at "t") => `(tactic| try walk_at "tl")
local macro_rules | `(tactic| walk_at "g") => `(tactic| repeat (first | walk_at "tl" | simp -dsimp only [TL.q_rg0, TL.q_rgs, TL.q_rgsn, TL.q_rgp, TL.q_rgpn]))
local macro_rules | `(tactic| walk_at "z") => `(tactic| repeat (refine And.intro (by omega) ?_))
namespace Lib
open PySem L2 TL
abbrev fz (t : T) : Sl := ⟨.frz, false, t⟩
abbrev ag (j : Nat) (t : T) : Sl := ⟨.arg j, false, t⟩
abbrev pl (a b c : Int) : T := .lst [.int a, .int b, .int c]
abbrev plA (a b c : Int) : Sl := ⟨.arg 0, false, pl a b c⟩
def sp_law_next_a : TSp := fun as PR PX => ∃ a b c base, as = [plA a b c, fz (.int base)] ∧ 0 < base ∧ base < 2 ^ 1000 ∧ ∀ d a' b' c', 0 ≤ d → d < base → PR (.val false (.int d)) [pl a' b' c', .int base]
def rd_law_next_a : TTS := ttSeq (ttIfS (ttB (ttBin (gtT) (ttIx (tv 0) (tk (.int 0))) (tk (.int 0)))) (ttSeq (ttSet 4 (ttBin modT (ttIx (tv 0) (tk (.int 0))) (tv 1)))
  (ttSeq (ttSetIx 0 (ttBin fdivT (ttIx (tv 0) (tk (.int 0))) (tv 1)) (tk (.int 0)))
  (ttRet (tv 4)))) (ttNext))
  (ttSeq (ttSetIx 0 (ttBin addT (ttIx (tv 0) (tk (.int 2))) (tk (.int 1))) (tk (.int 2)))
  (ttSeq (ttSet 2 (ttBin modT (ttBin addT (ttIx (tv 0) (tk (.int 1))) (ttBin mulT (tk (.int 7919)) (ttIx (tv 0) (tk (.int 2))))) (tk (.int 1000000007))))
  (ttSeq (ttSet 3 (ttBin modT (ttBin mulT (ttBin addT (tv 2) (tk (.int 11))) (ttBin addT (tv 2) (tk (.int 48271)))) (tk (.int 998244353))))
  (ttRet (ttBin modT (ttBin fdivT (ttBin modT (ttBin mulT (tv 3) (tv 3)) (tk (.int 2147483647))) (tk (.int 8))) (tv 1))))))
theorem ok_law_next_a : ∀ as PR PX, sp_law_next_a as PR PX → rd_law_next_a (endsT as PR) (startT 5 as) := by
  rintro as PR PX ⟨a, b, c, base, rfl, h0, h1, k⟩
  unfold rd_law_next_a
  walk_at "tl"
  refine cnd_2 (fun h => ?_) (fun h => ?_)
  · walk_at "tl"
    walk_at "vc"
    exact k _ _ _ _ (Int.emod_nonneg _ (by omega)) (Int.emod_lt_of_pos _ h0)
  · walk_at "tl"
    walk_at "vc"
    exact k _ _ _ _ (Int.emod_nonneg _ (by omega)) (Int.emod_lt_of_pos _ h0)
theorem ln_law_next_a : ∀ as PR PX, sp_law_next_a as PR PX → as.length = 2 := by
  rintro as PR PX ⟨a, b, c, base, rfl, _⟩
  rfl
theorem i_next_a {a b c base : Int} {PR : R → List T → Prop} {PX : String → List T → Prop} (h0 : 0 < base) (h1 : base < 2 ^ 1000) (k : ∀ d a' b' c', 0 ≤ d → d < base → PR (.val false (.int d)) [pl a' b' c', .int base]) : sp_law_next_a [plA a b c, fz (.int base)] PR PX :=
  ⟨a, b, c, base, rfl, h0, h1, k⟩
def sp_law_pool_a : TSp := fun as PR PX => ∃ n, as = [fz (.int n)] ∧ ∀ a b c, PR (.val true (pl a b c)) [.int n]
def rd_law_pool_a : TTS := ttRet (ttLst (tlcons (ttCn max2T (tlcons (tk (.int 0)) (tlcons (ttBin subT (tv 0) (ttBin powT (tk (.int 10)) (tk (.int 18)))) (tlnil)))) (tlcons (ttBin modT (tv 0) (ttBin powT (tk (.int 10)) (tk (.int 18)))) (tlcons (tk (.int 0)) (tlnil)))))
theorem ok_law_pool_a : ∀ as PR PX, sp_law_pool_a as PR PX → rd_law_pool_a (endsT as PR) (startT 1 as) := by
  rintro as PR PX ⟨n, rfl, k⟩
  unfold rd_law_pool_a
  walk_at "tl"
  walk_at "vc"
  exact k _ _ _
theorem ln_law_pool_a : ∀ as PR PX, sp_law_pool_a as PR PX → as.length = 1 := by
  rintro as PR PX ⟨n, rfl, _⟩
  rfl
theorem cut_len {xs : List T} {lo hi : Option Int} : (cutT xs lo hi).length ≤ xs.length := by
  unfold cutT
  rw [List.length_take, List.length_drop]
  omega
theorem cells_mem {ns : List Int} {t : T} {n : Int} (h : t ∈ T.int 0 :: cutT (ns.map T.int) none (some n)) : ∃ i, t = .int i := by
  rcases List.mem_cons.mp h with h | h
  · exact ⟨0, h⟩
  · unfold cutT at h
    obtain ⟨i, _, rfl⟩ := List.mem_map.mp (List.mem_of_mem_drop (List.mem_of_mem_take h))
    exact ⟨i, rfl⟩
theorem i_pool_a {n : Int} {PR : R → List T → Prop} {PX : String → List T → Prop} (k : ∀ a b c, PR (.val true (pl a b c)) [.int n]) : sp_law_pool_a [fz (.int n)] PR PX := ⟨n, rfl, k⟩
def sp_law_sound_a : TSp := fun as PR PX => ∃ n : Int, as = [fz (.int n)] ∧ PR (.val false (.bl true)) [.int n]
def rd_law_sound_a : TTS := ttRet (ttAndV (ttIsi "int" (tv 0)) (ttNotV (ttIsi "bool" (tv 0))))
theorem ln_law_sound_a : ∀ as PR PX, sp_law_sound_a as PR PX → as.length = 1 := by
  rintro as PR PX ⟨n, rfl, _⟩
  rfl
theorem ok_law_sound_a : ∀ as PR PX, sp_law_sound_a as PR PX → rd_law_sound_a (endsT as PR) (startT 1 as) := by
  rintro as PR PX ⟨n, rfl, k⟩
  unfold rd_law_sound_a
  walk_at "tl"
  exact k
theorem pickI {is : List Int} {i : Int} {p : Int → Prop} (h0 : 0 ≤ i) (h1 : i < is.length) (h : ∀ n ∈ is, p n) : ∃ n, atI (is.map T.int) i = some (.int n) ∧ p n :=
  ⟨_, atI_int h0 h1, h _ (List.getElem_mem _)⟩
end Lib

namespace Lib
open PySem L2 TL
abbrev pap (l t : Int) (h r : List Int) : T := .tup [.int l, .int t, .tup (h.map T.int), .tup (r.map T.int)]
def told (l t : Int) (h r : List Int) (n : Int) : Bool := if n < l then decide (n ∈ h) else decide (l + (n - l) % t ∈ r)
end Lib

namespace Lib
open PySem L2 TL
structure StOk (ss : List Int) : Prop where
  pw : ss.Pairwise (· < ·)
  bd : ∀ s ∈ ss, 1 ≤ s ∧ s ≤ 10
  l0 : 0 < ss.length
  l1 : ss.length ≤ 4
def RlOk : Rl → Prop
  | .gaps ss => StOk ss
  | _ => True
def barP (r : Rl) (xs : List Int) (n : Int) (w : List Int) : Prop := match r with
  | .evens => ∃ x y, w = [x, y] ∧ x ∈ xs ∧ y ∈ xs ∧ x < y ∧ n = 2 * y - x
  | .sums => ∃ x y, w = [x, y] ∧ x ∈ xs ∧ y ∈ xs ∧ x ≤ y ∧ n = x + y
  | .pairs => ∃ x y z, w = [x, y, z] ∧ x ∈ xs ∧ y ∈ xs ∧ z ∈ xs ∧ x < y ∧ y ≤ z ∧ n = y + z - x
  | .gaps ss => ∃ x, w = [x] ∧ x ∈ xs ∧ n - x ∈ ss
def evB (xs : List Int) (n : Int) : List (List Int) := (xs.filter fun y => decide (2 * y - n ∈ xs) && decide (2 * y - n < y)).map fun y => [2 * y - n, y]
def suB (xs : List Int) (n : Int) : List (List Int) := (xs.filter fun x => decide (x ≤ n - x) && decide (n - x ∈ xs)).map fun x => [x, n - x]
def paS (xs : List Int) (n : Int) (i : Nat) : List (List Int) := ((xs.take i).filter fun x => decide (xs.getD i 0 ≤ n + x - xs.getD i 0) && decide (n + x - xs.getD i 0 ∈ xs)).map fun x => [x, xs.getD i 0, n + x - xs.getD i 0]
def paB (xs : List Int) (n : Int) : List (List Int) := (List.range xs.length).flatMap (paS xs n)
def gaB (ss xs : List Int) (n : Int) : List (List Int) := (ss.filter fun s => decide (n - s ∈ xs)).map fun s => [n - s]
def rawB (r : Rl) (xs : List Int) (n : Int) : List (List Int) := match r with
  | .evens => evB xs n
  | .sums => suB xs n
  | .pairs => paB xs n
  | .gaps ss => gaB ss xs n
def barsR (r : Rl) (xs : List Int) (n : Int) : List (List Int) := srtR (rawB r xs n)
theorem getD_at {xs : List Int} {i : Nat} (h : i < xs.length) : xs[i]? = some (xs.getD i 0) := by
  rw [List.getD_eq_getElem?_getD, List.getElem?_eq_getElem h]
  rfl
theorem sorted_take {xs : List Int} {i : Nat} {y x : Int} (hs : xs.Pairwise (· < ·)) (hy : xs[i]? = some y) : x ∈ xs.take i ↔ (x ∈ xs ∧ x < y) := by
  have h := sorted_drop0 hs hy (y := x)
  have e : x ∈ xs ↔ x ∈ xs.take i ∨ x ∈ xs.drop i := by
    rw [← List.mem_append, List.take_append_drop]
  have hn := hs
  rw [← List.take_append_drop i xs, List.pairwise_append] at hn
  constructor
  · intro hx
    refine ⟨e.mpr (.inl hx), ?_⟩
    have hyd : y ∈ xs.drop i := (sorted_drop0 hs hy).mpr ⟨List.mem_of_getElem? hy, Int.le_refl _⟩
    exact hn.2.2 x hx y hyd
  · rintro ⟨hx, hlt⟩
    rcases e.mp hx with q | q
    · exact q
    · have := (h.mp q).2
      omega
theorem nodup_lt {xs : List Int} (h : xs.Pairwise (· < ·)) : xs.Nodup := h.imp fun h => by omega
theorem mem_raw {r : Rl} {xs : List Int} {n : Int} {w : List Int} (hs : xs.Pairwise (· < ·)) : w ∈ rawB r xs n ↔ barP r xs n w := by
  cases r with
  | evens =>
    simp only [rawB, evB, barP, List.mem_map, List.mem_filter, Bool.and_eq_true, decide_eq_true_eq]
    constructor
    · rintro ⟨y, ⟨hy, hx, hl⟩, rfl⟩
      exact ⟨2 * y - n, y, rfl, hx, hy, hl, by omega⟩
    · rintro ⟨x, y, rfl, hx, hy, hl, e⟩
      have ex : x = 2 * y - n := by omega
      subst ex
      exact ⟨y, ⟨hy, hx, hl⟩, rfl⟩
  | sums =>
    simp only [rawB, suB, barP, List.mem_map, List.mem_filter, Bool.and_eq_true, decide_eq_true_eq]
    constructor
    · rintro ⟨x, ⟨hx, hl, hy⟩, rfl⟩
      exact ⟨x, n - x, rfl, hx, hy, hl, by omega⟩
    · rintro ⟨x, y, rfl, hx, hy, hl, e⟩
      have ey : y = n - x := by omega
      subst ey
      exact ⟨x, ⟨hx, hl, hy⟩, rfl⟩
  | pairs =>
    simp only [rawB, paB, paS, barP, List.mem_flatMap, List.mem_range, List.mem_map, List.mem_filter, Bool.and_eq_true, decide_eq_true_eq]
    constructor
    · rintro ⟨i, hi, x, ⟨hx, hl, hz⟩, rfl⟩
      have hy := getD_at hi
      obtain ⟨h1, h2⟩ := (sorted_take hs hy).mp hx
      exact ⟨x, _, _, rfl, h1, List.mem_of_getElem? hy, hz, h2, hl, by omega⟩
    · rintro ⟨x, y, z, rfl, hx, hy, hz, hl, hl2, e⟩
      obtain ⟨i, hi, ey⟩ := List.mem_iff_getElem.mp hy
      have hyi : xs[i]? = some y := by rw [List.getElem?_eq_getElem hi, ey]
      have eg : xs.getD i 0 = y := by rw [List.getD_eq_getElem?_getD, hyi]; rfl
      have ez : z = n + x - y := by omega
      subst ez
      exact ⟨i, hi, x, ⟨(sorted_take hs hyi).mpr ⟨hx, hl⟩, by rw [eg]; exact hl2, by rw [eg]; exact hz⟩, by rw [eg]⟩
  | gaps ss =>
    simp only [rawB, gaB, barP, List.mem_map, List.mem_filter, decide_eq_true_eq]
    constructor
    · rintro ⟨s, ⟨h1, h2⟩, rfl⟩
      exact ⟨n - s, rfl, h2, by rw [show n - (n - s) = s by omega]; exact h1⟩
    · rintro ⟨x, rfl, h1, h2⟩
      exact ⟨n - x, ⟨h2, by rw [show n - (n - x) = x by omega]; exact h1⟩, by rw [show n - (n - x) = x by omega]⟩
theorem mem_bars {r : Rl} {xs : List Int} {n : Int} {w : List Int} (hs : xs.Pairwise (· < ·)) : w ∈ barsR r xs n ↔ barP r xs n w := by
  unfold barsR
  rw [(srtR_perm _).mem_iff, mem_raw hs]
def evB' (xs : List Int) (n : Int) (ys : List Int) : List (List Int) := (ys.filter fun y => decide (2 * y - n ∈ xs) && decide (2 * y - n < y)).map fun y => [2 * y - n, y]
theorem evB'_len {xs ys : List Int} {n : Int} : (evB' xs n ys).length ≤ ys.length := by
  unfold evB'
  rw [List.length_map]
  exact List.length_filter_le _ _
theorem evB'_yes {xs ys : List Int} {n y : Int} (h : 2 * y - n ∈ xs) (h2 : 2 * y - n < y) : evB' xs n (ys ++ [y]) = evB' xs n ys ++ [[2 * y - n, y]] := by
  unfold evB'
  rw [List.filter_append, List.map_append, List.filter_cons, if_pos (by simp [h, h2])]
  rfl
theorem evB'_no {xs ys : List Int} {n y : Int} (h : ¬(2 * y - n ∈ xs ∧ 2 * y - n < y)) : evB' xs n (ys ++ [y]) = evB' xs n ys := by
  unfold evB'
  rw [List.filter_append, List.map_append, List.filter_cons, if_neg (by simpa using h)]
  simp
end Lib

namespace Lib
open PySem L2 TL
structure StpI (i : Nat) (zs : List Int) : Prop where
  nd : zs.Nodup
  bd : ∀ z ∈ zs, 1 ≤ z ∧ z ≤ 10
  len : zs.length ≤ i
  pos : 0 < i → 0 < zs.length
def sp_even_bars_a : TSp := fun as PR PX => ∃ o xs n, as = [fz (sqT o xs), fz (.int n)] ∧ xs.length ≤ 2000 ∧ PR (.val true (.lst ((evB xs n).map tupI))) [sqT o xs, .int n]
def rd_even_bars_a : TTS := ttSeq (ttSet 2 (ttLst (tlnil)))
  (ttSeq (ttFor (tiSeq (sl 0)) (tgN 3) (ttIfS (ttAnd (ttB (ttBin (inT false) (ttBin subT (ttBin mulT (tk (.int 2)) (tv 3)) (tv 1)) (tv 0))) (ttB (ttBin (ltT) (ttBin subT (ttBin mulT (tk (.int 2)) (tv 3)) (tv 1)) (tv 3)))) (ttDrop (ttMut true 2 (tlcons (ttTup (tlcons (ttBin subT (ttBin mulT (tk (.int 2)) (tv 3)) (tv 1)) (tlcons (tv 3) (tlnil)))) (tlnil)) appendG)) (ttNext)))
  (ttRet (tv 2)))
theorem ln_even_bars_a : ∀ as PR PX, sp_even_bars_a as PR PX → as.length = 2 := by
  rintro as PR PX ⟨o, xs, n, rfl, _⟩
  rfl
theorem ok_even_bars_a : ∀ as PR PX, sp_even_bars_a as PR PX → rd_even_bars_a (endsT as PR) (startT 4 as) := by
  rintro as PR PX ⟨o, xs, n, rfl, hl, k⟩
  have sz := sizeLine_val
  unfold rd_even_bars_a
  cases o
  all_goals
    simp only [sqT_t, sqT_f] at k ⊢
    walk_at "tl"
    refine ⟨by omega, ?_⟩
    refine forT_p (α := List (List Int) × Option T) (fun x => [some ⟨.frz, true, _⟩, some (fz (.int n)), some ⟨.own, false, .lst (x.1.map tupI)⟩, ofT x.2]) (fun i x => x.1 = evB' xs n (xs.take i)) ([], none) rfl rfl (fun i t x ht hI => ?_) (fun x hI => ?_)
    · obtain ⟨w, o⟩ := x
      obtain ⟨y, hy, rfl⟩ := ints_get ht
      simp only at hI
      subst hI
      have hwl : (evB' xs n (xs.take i)).length ≤ 2000 := Nat.le_trans evB'_len (by rw [List.length_take]; omega)
      have tk : xs.take (i + 1) = xs.take i ++ [y] := by rw [List.take_add_one, hy]; rfl
      walk_at "tl"
      refine ⟨Or.inl (by decide), ?_⟩
      refine cnd_2 (fun h => ?_) (fun h => ?_)
      · walk_at "tl"
        refine ⟨Or.inl (by decide), ?_⟩
        refine cnd_2 (fun h2 => ?_) (fun h2 => ?_)
        · walk_at "tl"
          refine ⟨Or.inl (by decide), by omega, by rw [List.length_map]; omega, ?_⟩
          exact ⟨(evB' xs n (xs.take i) ++ [[2 * y - n, y]], some _), by rw [List.map_append]; rfl, by rw [tk, evB'_yes h h2]⟩
        · walk_at "tl"
          exact ⟨(evB' xs n (xs.take i), some _), rfl, by rw [tk, evB'_no fun q => h2 q.2]⟩
      · walk_at "tl"
        exact ⟨(evB' xs n (xs.take i), some _), rfl, by rw [tk, evB'_no fun q => h q.1]⟩
    · obtain ⟨w, o⟩ := x
      rw [List.length_map, List.take_length] at hI
      simp only at hI
      subst hI
      walk_at "tl"
      exact k
end Lib

namespace Lib
open PySem L2 TL
theorem i_even_bars {o : Bool} {xs : List Int} {n : Int} {PR : R → List T → Prop} {PX : String → List T → Prop} (hl : xs.length ≤ 2000) (k : PR (.val true (.lst ((evB xs n).map tupI))) [sqT o xs, .int n]) : sp_even_bars_a [fz (sqT o xs), fz (.int n)] PR PX := ⟨o, xs, n, rfl, hl, k⟩
def sp_sum_bars_a : TSp := fun as PR PX => ∃ o xs n, as = [fz (sqT o xs), fz (.int n)] ∧ xs.length ≤ 2000 ∧ PR (.val true (.lst ((suB xs n).map tupI))) [sqT o xs, .int n]
def rd_sum_bars_a : TTS := ttRet (ttLc (tiSeq (sl 0)) (tgN 2) (ttAnd (ttB (ttBin (leT) (tv 2) (ttBin subT (tv 1) (tv 2)))) (ttB (ttBin (inT false) (ttBin subT (tv 1) (tv 2)) (tv 0)))) (ttTup (tlcons (tv 2) (tlcons (ttBin subT (tv 1) (tv 2)) (tlnil)))) [2])
theorem ln_sum_bars_a : ∀ as PR PX, sp_sum_bars_a as PR PX → as.length = 2 := by
  rintro as PR PX ⟨o, xs, n, rfl, _⟩
  rfl
theorem ok_sum_bars_a : ∀ as PR PX, sp_sum_bars_a as PR PX → rd_sum_bars_a (endsT as PR) (startT 3 as) := by
  rintro as PR PX ⟨o, xs, n, rfl, hl, k⟩
  have sz := sizeLine_val
  unfold rd_sum_bars_a
  cases o
  all_goals
    simp only [sqT_t, sqT_f] at k ⊢
    walk_at "tl"
    refine lcT_ft (fun x => decide (x ≤ n - x) && decide (n - x ∈ xs)) (fun x => tupI [x, n - x]) (by walk_at "fz") (by omega) (fun x hx => ?_) ?_
    · walk_at "tl"
      refine cnd_2 (fun h => ?_) (fun h => ?_)
      · walk_at "tl"
        refine cnd_2 (fun h2 => ?_) (fun h2 => ?_)
        · walk_at "tl"
          refine ⟨by omega, ?_⟩
          rw [intFT_y (by simp [h, h2])]
          rfl
        · walk_at "tl"
          exact intFT_n (by simp [h2])
      · walk_at "tl"
        exact intFT_n (by simp [h])
    rw [map_row]
    walk_at "tl"
    exact k
theorem i_sum_bars {o : Bool} {xs : List Int} {n : Int} {PR : R → List T → Prop} {PX : String → List T → Prop} (hl : xs.length ≤ 2000) (k : PR (.val true (.lst ((suB xs n).map tupI))) [sqT o xs, .int n]) : sp_sum_bars_a [fz (sqT o xs), fz (.int n)] PR PX := ⟨o, xs, n, rfl, hl, k⟩
def paS' (xs : List Int) (n y : Int) (ys : List Int) : List (List Int) := (ys.filter fun x => decide (y ≤ n + x - y) && decide (n + x - y ∈ xs)).map fun x => [x, y, n + x - y]
theorem paS_eq {xs : List Int} {n : Int} {i : Nat} {y : Int} (h : xs[i]? = some y) : paS xs n i = paS' xs n y (xs.take i) := by
  unfold paS paS'
  rw [List.getD_eq_getElem?_getD, h]
  rfl
theorem paS'_len {xs ys : List Int} {n y : Int} : (paS' xs n y ys).length ≤ ys.length := by
  unfold paS'
  rw [List.length_map]
  exact List.length_filter_le _ _
theorem paS'_yes {xs ys : List Int} {n y x : Int} (h : y ≤ n + x - y) (h2 : n + x - y ∈ xs) : paS' xs n y (ys ++ [x]) = paS' xs n y ys ++ [[x, y, n + x - y]] := by
  unfold paS'
  rw [List.filter_append, List.map_append, List.filter_cons, if_pos (by simp [h, h2])]
  rfl
theorem paS'_no {xs ys : List Int} {n y x : Int} (h : ¬(y ≤ n + x - y ∧ n + x - y ∈ xs)) : paS' xs n y (ys ++ [x]) = paS' xs n y ys := by
  unfold paS'
  rw [List.filter_append, List.map_append, List.filter_cons, if_neg (by simpa using h)]
  simp
theorem flat_len {α β : Type} {f : α → List β} {m : Nat} (hf : ∀ a, (f a).length ≤ m) : ∀ l : List α, (l.flatMap f).length ≤ l.length * m
  | [] => by simp
  | a :: l => by
    have ih := flat_len hf l
    have := hf a
    rw [List.flatMap_cons, List.length_append, List.length_cons, Nat.add_mul]
    omega
theorem flat_snoc {β : Type} {f : Nat → List β} {i : Nat} : (List.range (i + 1)).flatMap f = (List.range i).flatMap f ++ f i := by
  rw [List.range_succ, List.flatMap_append]
  simp
def sp_pair_bars_a : TSp := fun as PR PX => ∃ o xs n, as = [fz (sqT o xs), fz (.int n)] ∧ xs.length ≤ 2000 ∧ PR (.val true (.lst ((paB xs n).map tupI))) [sqT o xs, .int n]
def rd_pair_bars_a : TTS := ttSeq (ttSet 2 (ttLst (tlnil)))
  (ttSeq (ttFor (tiEnum (sl 0)) (tgTup 2 (tgsCons (tgN 3) (tgsCons (tgN 4) (tgsNil)))) (ttFor (tiSeq (sf (ttSl (tv 0) (toN) (toS (tv 3))))) (tgN 5) (ttIfS (ttAnd (ttB (ttBin (geT) (ttBin subT (ttBin addT (tv 1) (tv 5)) (tv 4)) (tv 4))) (ttB (ttBin (inT false) (ttBin subT (ttBin addT (tv 1) (tv 5)) (tv 4)) (tv 0)))) (ttDrop (ttMut true 2 (tlcons (ttTup (tlcons (tv 5) (tlcons (tv 4) (tlcons (ttBin subT (ttBin addT (tv 1) (tv 5)) (tv 4)) (tlnil))))) (tlnil)) appendG)) (ttNext))))
  (ttRet (tv 2)))
theorem ln_pair_bars_a : ∀ as PR PX, sp_pair_bars_a as PR PX → as.length = 2 := by
  rintro as PR PX ⟨o, xs, n, rfl, _⟩
  rfl
theorem ok_pair_bars_a : ∀ as PR PX, sp_pair_bars_a as PR PX → rd_pair_bars_a (endsT as PR) (startT 6 as) := by
  rintro as PR PX ⟨o, xs, n, rfl, hl, k⟩
  have sz := sizeLine_val
  have tot : ∀ i, i ≤ 2000 → ((List.range i).flatMap (paS xs n)).length ≤ 4000000 := fun i hi => by
    refine Nat.le_trans (flat_len (m := 2000) (fun j => ?_) _) ?_
    · unfold paS
      rw [List.length_map]
      exact Nat.le_trans (List.length_filter_le _ _) (by rw [List.length_take]; omega)
    · rw [List.length_range]
      exact Nat.mul_le_mul_right 2000 hi
  unfold rd_pair_bars_a
  cases o
  all_goals
    simp only [sqT_t, sqT_f] at k ⊢
    walk_at "tl"
    refine ⟨by omega, ?_⟩
    refine forT_p (α := List (List Int) × Option T × Option T × Option T) (fun x => [some ⟨.frz, true, _⟩, some (fz (.int n)), some ⟨.own, false, .lst (x.1.map tupI)⟩, ofT x.2.1, ofT x.2.2.1, ofT x.2.2.2]) (fun i x => x.1 = (List.range i).flatMap (paS xs n)) ([], none, none, none) rfl rfl (fun i t x ht hI => ?_) (fun x hI => ?_)
    · obtain ⟨w, o3, o4, o5⟩ := x
      obtain ⟨y, hy, rfl⟩ := numd_ints_get ht
      have hi : i < xs.length := (List.getElem?_eq_some_iff.mp hy).1
      simp only at hI
      subst hI
      have hw := tot i (by omega)
      have htl : (xs.take i).length ≤ 2000 := by rw [List.length_take]; omega
      walk_at "tl"
      rw [cut_takeI]
      refine forT_p (α := List (List Int) × Option T) (fun x => [some ⟨.frz, true, _⟩, some (fz (.int n)), some ⟨.own, false, .lst (x.1.map tupI)⟩, some (fz (.int i)), some (fz (.int y)), ofT x.2]) (fun j x => x.1 = (List.range i).flatMap (paS xs n) ++ paS' xs n y ((xs.take i).take j)) ((List.range i).flatMap (paS xs n), o5) rfl (by simp only [List.take_zero, paS', List.filter_nil, List.map_nil, List.append_nil]) (fun j t x ht hJ => ?_) (fun x hJ => ?_)
      · obtain ⟨w, o5⟩ := x
        obtain ⟨x, hx, rfl⟩ := ints_get ht
        simp only at hJ
        subst hJ
        have hp : (paS' xs n y ((xs.take i).take j)).length ≤ 2000 := Nat.le_trans paS'_len (by rw [List.length_take]; omega)
        have tk : (xs.take i).take (j + 1) = (xs.take i).take j ++ [x] := by rw [List.take_add_one, hx]; rfl
        walk_at "tl"
        refine cnd_2 (fun h => ?_) (fun h => ?_)
        · walk_at "tl"
          refine cnd_2 (fun h2 => ?_) (fun h2 => ?_)
          · walk_at "tl"
            refine ⟨by omega, by rw [List.length_map, List.length_append]; omega, ?_⟩
            exact ⟨((List.range i).flatMap (paS xs n) ++ paS' xs n y ((xs.take i).take j) ++ [[x, y, n + x - y]], some (.int x)), by simp only [List.map_append]; rfl, by rw [tk, paS'_yes h h2, List.append_assoc]⟩
          · walk_at "tl"
            exact ⟨((List.range i).flatMap (paS xs n) ++ paS' xs n y ((xs.take i).take j), some (.int x)), by simp only [List.map_append]; rfl, by rw [tk, paS'_no fun q => h2 q.2]⟩
        · walk_at "tl"
          exact ⟨((List.range i).flatMap (paS xs n) ++ paS' xs n y ((xs.take i).take j), some (.int x)), by simp only [List.map_append]; rfl, by rw [tk, paS'_no fun q => h q.1]⟩
      · obtain ⟨w, o5⟩ := x
        rw [List.length_map, List.take_length] at hJ
        simp only at hJ
        subst hJ
        walk_at "tl"
        exact ⟨((List.range i).flatMap (paS xs n) ++ paS' xs n y (xs.take i), some _, some _, o5), by simp only [List.map_append]; rfl, by rw [flat_snoc, paS_eq hy]⟩
    · obtain ⟨w, o3, o4, o5⟩ := x
      rw [numd_len, List.length_map] at hI
      simp only at hI
      subst hI
      walk_at "tl"
      exact k
theorem i_pair_bars {o : Bool} {xs : List Int} {n : Int} {PR : R → List T → Prop} {PX : String → List T → Prop} (hl : xs.length ≤ 2000) (k : PR (.val true (.lst ((paB xs n).map tupI))) [sqT o xs, .int n]) : sp_pair_bars_a [fz (sqT o xs), fz (.int n)] PR PX := ⟨o, xs, n, rfl, hl, k⟩
def sp_all_bars_a : TSp := fun as PR PX => ∃ r o xs n, as = [fz (ruleT r), fz (sqT o xs), fz (.int n)] ∧ RlOk r ∧ xs.length ≤ 2000 ∧ PR (.val true (.lst ((barsR r xs n).map tupI))) [ruleT r, sqT o xs, .int n]
def rd_all_bars_a : TTS := ttSeq (ttIfS (ttB (ttBin (eqT) (ttIx (tv 0) (tk (.int 0))) (tk (.str "evens")))) (ttRet (ttC1 sortedRT (ttCall sp_even_bars_a nox (taF (tv 1) (taF (tv 2) (taNil)))))) (ttNext))
  (ttSeq (ttIfS (ttB (ttBin (eqT) (ttIx (tv 0) (tk (.int 0))) (tk (.str "sums")))) (ttRet (ttC1 sortedRT (ttCall sp_sum_bars_a nox (taF (tv 1) (taF (tv 2) (taNil)))))) (ttNext))
  (ttSeq (ttIfS (ttB (ttBin (eqT) (ttIx (tv 0) (tk (.int 0))) (tk (.str "pairs")))) (ttRet (ttC1 sortedRT (ttCall sp_pair_bars_a nox (taF (tv 1) (taF (tv 2) (taNil)))))) (ttNext))
  (ttRet (ttC1 sortedRT (ttLc (tiSeq (sf (ttIx (tv 0) (tk (.int 1))))) (tgN 3) (ttB (ttBin (inT false) (ttBin subT (tv 2) (tv 3)) (tv 1))) (ttTup (tlcons (ttBin subT (tv 2) (tv 3)) (tlnil))) [3])))))
theorem ln_all_bars_a : ∀ as PR PX, sp_all_bars_a as PR PX → as.length = 3 := by
  rintro as PR PX ⟨r, o, xs, n, rfl, _⟩
  rfl
theorem ne_map {α : Type} {f : α → List Int} (h : ∀ a, f a ≠ []) {l : List α} : ∀ w ∈ l.map f, w ≠ [] := fun w hw => by
  obtain ⟨a, _, rfl⟩ := List.mem_map.mp hw
  exact h a
theorem ok_all_bars_a : ∀ as PR PX, sp_all_bars_a as PR PX → rd_all_bars_a (endsT as PR) (startT 4 as) := by
  rintro as PR PX ⟨r, o, xs, n, rfl, hr, hl, k⟩
  have sz := sizeLine_val
  unfold rd_all_bars_a
  cases r with
  | evens =>
    walk_at "tl"
    refine i_even_bars hl ?_
    walk_at "tl"
    refine ⟨evB xs n, rfl, ne_map fun _ => by simp, ?_⟩
    exact k
  | sums =>
    walk_at "tl"
    refine i_sum_bars hl ?_
    walk_at "tl"
    refine ⟨suB xs n, rfl, ne_map fun _ => by simp, ?_⟩
    exact k
  | pairs =>
    walk_at "tl"
    refine i_pair_bars hl ?_
    walk_at "tl"
    refine ⟨paB xs n, rfl, fun w hw => ?_, ?_⟩
    · obtain ⟨i, _, hw⟩ := List.mem_flatMap.mp hw
      exact ne_map (fun _ => by simp) w hw
    · exact k
  | gaps ss =>
    have hs := hr.l1
    cases o
    all_goals
      simp only [sqT_t, sqT_f] at k ⊢
      walk_at "tl"
      refine lcT_ft (fun s => decide (n - s ∈ xs)) (fun s => tupI [n - s]) (by walk_at "fz") (by omega) (fun s _ => ?_) ?_
      · walk_at "tl"
        refine cnd_2 (fun h => ?_) (fun h => ?_)
        · walk_at "tl"
          refine ⟨by omega, ?_⟩
          rw [intFT_y (by simp [h])]
          rfl
        · walk_at "tl"
          exact intFT_n (by simp [h])
      rw [map_row]
      walk_at "tl"
      refine ⟨_, rfl, ne_map fun _ => by simp, ?_⟩
      exact k
theorem i_all_bars {r : Rl} {o : Bool} {xs : List Int} {n : Int} {PR : R → List T → Prop} {PX : String → List T → Prop} (hr : RlOk r) (hl : xs.length ≤ 2000) (k : PR (.val true (.lst ((barsR r xs n).map tupI))) [ruleT r, sqT o xs, .int n]) : sp_all_bars_a [fz (ruleT r), fz (sqT o xs), fz (.int n)] PR PX := ⟨r, o, xs, n, rfl, hr, hl, k⟩
def barT (r : Rl) (xs : List Int) (n : Int) : T := match barsR r xs n with
  | [] => .non
  | w :: _ => tupI w
def sp_bar_a : TSp := fun as PR PX => ∃ r o xs n, as = [fz (ruleT r), fz (sqT o xs), fz (.int n)] ∧ RlOk r ∧ xs.length ≤ 2000 ∧ PR (.val false (barT r xs n)) [ruleT r, sqT o xs, .int n]
def rd_bar_a : TTS := ttSeq (ttSet 3 (ttCall sp_all_bars_a nox (taF (tv 0) (taF (tv 1) (taF (tv 2) (taNil))))))
  (ttSeq (ttIfS (ttB (ttBin (eqT) (tv 3) (ttLst (tlnil)))) (ttRet (tk .non)) (ttNext))
  (ttRet (ttIx (tv 3) (tk (.int 0)))))
theorem ln_bar_a : ∀ as PR PX, sp_bar_a as PR PX → as.length = 3 := by
  rintro as PR PX ⟨r, o, xs, n, rfl, _⟩
  rfl
theorem ok_bar_a : ∀ as PR PX, sp_bar_a as PR PX → rd_bar_a (endsT as PR) (startT 4 as) := by
  rintro as PR PX ⟨r, o, xs, n, rfl, hr, hl, k⟩
  have sz := sizeLine_val
  unfold rd_bar_a
  walk_at "tl"
  refine i_all_bars hr hl ?_
  walk_at "tl"
  refine ⟨by omega, ?_⟩
  refine cnd_2 (fun h => ?_) (fun h => ?_)
  · walk_at "tl"
    unfold barT at k
    rw [h] at k
    exact k
  · walk_at "tl"
    unfold barT at k
    cases e : barsR r xs n with
    | nil => exact absurd e h
    | cons w ws =>
      rw [e] at k
      walk_at "tl"
      exact k
theorem i_barT {r : Rl} {xs : List Int} {n : Int} {PR : R → List T → Prop} {PX : String → List T → Prop} (hr : RlOk r) (hl : xs.length ≤ 2000) (k : PR (.val false (barT r xs n)) [ruleT r, .tup (xs.map T.int), .int n]) : sp_bar_a [fz (ruleT r), fz (.tup (xs.map T.int)), fz (.int n)] PR PX := ⟨r, false, xs, n, rfl, hr, hl, k⟩
end Lib

namespace Lib
open PySem L2 TL
end Lib

namespace Lib
open PySem L2 TL
def loR : Rl → Int
  | .sums => 1
  | _ => 0
structure SmOk (r : Rl) (m : Int) (xs : List Int) : Prop where
  pw : xs.Pairwise (· < ·)
  len : xs.length ≤ 60
  bd : ∀ x ∈ xs, loR r ≤ x ∧ x < m
theorem SmOk.snoc {r : Rl} {m n : Int} {xs : List Int} (h : SmOk r m xs) (h0 : loR r ≤ m) (hl : xs.length < 60) (hn : m < n) : SmOk r n (xs ++ [m]) := by
  refine ⟨pw_snoc h.pw fun y hy => (h.bd y hy).2, by rw [List.length_append, List.length_singleton]; omega, fun x hx => ?_⟩
  rcases List.mem_append.mp hx with q | q
  · have := h.bd x q
    omega
  · rw [List.mem_singleton.mp q]
    omega
theorem SmOk.mono {r : Rl} {m n : Int} {xs : List Int} (h : SmOk r m xs) (hn : m ≤ n) : SmOk r n xs := ⟨h.pw, h.len, fun x hx => by have := h.bd x hx; omega⟩
end Lib

namespace Lib
open PySem L2 TL
structure Rnd (l t : Int) (h r : List Int) : Prop where
  l0 : 0 ≤ l
  t1 : 1 ≤ t
  hp : h.Pairwise (· < ·)
  hb : ∀ x ∈ h, 0 ≤ x ∧ x < l
  rp : r.Pairwise (· < ·)
  rb : ∀ x ∈ r, l ≤ x ∧ x < l + t
section
variable {l t : Int} {h r : List Int} {n p k : Int}
end
structure RapOk (l t : Int) (h r : List Int) : Prop where
  R : Rnd l t h r
  l9 : l ≤ 100000
  t9 : t ≤ 100000
theorem srt_len {xs : List Int} {a b : Int} (hp : xs.Pairwise (· < ·)) (h : ∀ x ∈ xs, a ≤ x ∧ x < b) : xs.length ≤ (b - a).toNat := by
  have := nodup_len (l := xs) (m := rngI a (b - a).toNat) (hp.imp fun h => Int.ne_of_lt h) fun x hx => rngI_mem.mpr (by have := h x hx; omega)
  rwa [rngI_len] at this
theorem RapOk.hl {l t : Int} {h r : List Int} (P : RapOk l t h r) : h.length ≤ 100000 := by
  have := srt_len P.R.hp P.R.hb
  have := P.l9
  omega
end Lib

namespace Lib
open PySem L2 TL
def Brd (r : Rl) (xs : List Int) (n : Int) : Prop := ∃ w, barP r xs n w
theorem bars_nil {r : Rl} {xs : List Int} {n : Int} (hs : xs.Pairwise (· < ·)) : barsR r xs n = [] ↔ ¬Brd r xs n := by
  constructor
  · rintro h ⟨w, hw⟩
    have := (mem_bars hs).mpr hw
    rw [h] at this
    cases this
  · intro h
    cases e : barsR r xs n with
    | nil => rfl
    | cons w ws => exact absurd ⟨w, (mem_bars hs).mp (by rw [e]; exact List.mem_cons_self)⟩ h
theorem Brd.mono {r : Rl} {xs ys : List Int} {n : Int} (h : ∀ x ∈ xs, x ∈ ys) (hb : Brd r xs n) : Brd r ys n := by
  obtain ⟨w, hw⟩ := hb
  refine ⟨w, ?_⟩
  cases r with
  | evens => obtain ⟨x, y, e, h1, h2, q⟩ := hw; exact ⟨x, y, e, h x h1, h y h2, q⟩
  | sums => obtain ⟨x, y, e, h1, h2, q⟩ := hw; exact ⟨x, y, e, h x h1, h y h2, q⟩
  | pairs => obtain ⟨x, y, z, e, h1, h2, h3, q⟩ := hw; exact ⟨x, y, z, e, h x h1, h y h2, h z h3, q⟩
  | gaps ss => obtain ⟨x, e, h1, q⟩ := hw; exact ⟨x, e, h x h1, q⟩
theorem brd_nil {r : Rl} {n : Int} : ¬Brd r [] n := by
  rintro ⟨w, hw⟩
  cases r with
  | evens => obtain ⟨x, y, e, h1, _⟩ := hw; cases h1
  | sums => obtain ⟨x, y, e, h1, _⟩ := hw; cases h1
  | pairs => obtain ⟨x, y, z, e, h1, _⟩ := hw; cases h1
  | gaps ss => obtain ⟨x, e, h1, _⟩ := hw; cases h1
theorem nodup_len : ∀ {l m : List Int}, l.Nodup → (∀ x ∈ l, x ∈ m) → l.length ≤ m.length
  | [], _, _, _ => Nat.zero_le _
  | x :: l, m, hn, h => by
    have hx := h x List.mem_cons_self
    have h2 : l.length ≤ (m.erase x).length := nodup_len (List.nodup_cons.mp hn).2 fun y hy => (List.mem_erase_of_ne (fun e => (List.nodup_cons.mp hn).1 (by subst e; exact hy))).mpr (h y (List.mem_cons_of_mem _ hy))
    rw [List.length_erase_of_mem hx] at h2
    have := List.length_pos_of_mem hx
    rw [List.length_cons]
    omega
def barN (r : Rl) (xs : List Int) (i : Nat) : Bool := decide (barsR r (xs.take i) (xs.getD i 0) = [])
def keepB (r : Rl) (xs : List Int) : Bool := (List.range xs.length).all (barN r xs)
theorem keep_iff {r : Rl} {xs : List Int} : keepB r xs = true ↔ ∀ i, i < xs.length → barsR r (xs.take i) (xs.getD i 0) = [] := by
  unfold keepB barN
  rw [List.all_eq_true]
  constructor
  · intro h i hi
    exact of_decide_eq_true (h i (List.mem_range.mpr hi))
  · intro h i hi
    exact decide_eq_true (h i (List.mem_range.mp hi))
theorem barN_snoc {r : Rl} {xs : List Int} {n : Int} {i : Nat} (hi : i < xs.length) : barN r (xs ++ [n]) i = barN r xs i := by
  unfold barN
  rw [List.take_append_of_le_length (by omega), List.getD_eq_getElem?_getD, List.getElem?_append_left hi, ← List.getD_eq_getElem?_getD]
theorem keep_snoc {r : Rl} {xs : List Int} {n : Int} : keepB r (xs ++ [n]) = (keepB r xs && decide (barsR r xs n = [])) := by
  unfold keepB
  rw [List.length_append, List.length_singleton, List.range_succ, List.all_append]
  congr 1
  · rw [Bool.eq_iff_iff, List.all_eq_true, List.all_eq_true]
    constructor <;> intro h i hi
    · rw [← barN_snoc (n := n) (List.mem_range.mp hi)]; exact h i hi
    · rw [barN_snoc (List.mem_range.mp hi)]; exact h i hi
  · rw [List.all_cons, List.all_nil, Bool.and_true]
    unfold barN
    rw [List.take_append_of_le_length (Nat.le_refl _), List.take_length, List.getD_eq_getElem?_getD, List.getElem?_append_right (Nat.le_refl _), Nat.sub_self]
    rfl
theorem keep_nil {r : Rl} : keepB r [] = true := rfl
theorem keep_one {r : Rl} {x : Int} : keepB r [x] = true := by
  rw [show [x] = [] ++ [x] from rfl, keep_snoc, keep_nil, (bars_nil List.Pairwise.nil).mpr brd_nil]
  rfl
end Lib

namespace Lib
open PySem L2 TL
theorem is_bar {r : Rl} {xs : List Int} {n : Int} {o : Bool} {k : Bool → T → Prop} : isT o (barT r xs n) .non k = k false (.bl (o != decide (barsR r xs n = []))) := by
  unfold barT
  cases barsR r xs n with
  | nil =>
    simp only [decide_true]
    show k false (.bl (!o)) = _
    cases o <;> rfl
  | cons w ws =>
    show k false (.bl o) = _
    cases o <;> rfl
def brkT (r : Rl) (xs : List Int) : T := match (List.range xs.length).find? (fun i => !barN r xs i) with
  | none => .non
  | some i => .tup [.int i, barT r (xs.take i) (xs.getD i 0)]
theorem brk_is {r : Rl} {xs : List Int} {o : Bool} {k : Bool → T → Prop} : isT o (brkT r xs) .non k = k false (.bl (o != keepB r xs)) := by
  unfold brkT
  cases e : (List.range xs.length).find? (fun i => !barN r xs i) with
  | none =>
    have : keepB r xs = true := by
      rw [keepB, List.all_eq_true]
      intro i hi
      have := List.find?_eq_none.mp e i hi
      simpa using this
    rw [this]
    show k false (.bl (!o)) = _
    cases o <;> rfl
  | some i =>
    have : keepB r xs = false := by
      have h1 := List.find?_some e
      have h2 := List.mem_of_find?_eq_some e
      rw [keepB, List.all_eq_false]
      exact ⟨i, h2, by simpa using h1⟩
    rw [this]
    show k false (.bl o) = _
    cases o <;> rfl
theorem brk_at {r : Rl} {xs : List Int} {i : Nat} (hi : i < xs.length) (h : ∀ j, j < i → barN r xs j = true) (hb : barN r xs i = false) : brkT r xs = .tup [.int i, barT r (xs.take i) (xs.getD i 0)] := by
  unfold brkT
  have : (List.range xs.length).find? (fun i => !barN r xs i) = some i := by
    rw [List.find?_range_eq_some]
    exact ⟨by simpa using hb, List.mem_range.mpr hi, fun j hj => by simpa using h j hj⟩
  rw [this]
theorem brk_none {r : Rl} {xs : List Int} (h : ∀ j, j < xs.length → barN r xs j = true) : brkT r xs = .non := by
  unfold brkT
  have : (List.range xs.length).find? (fun i => !barN r xs i) = none := by
    rw [List.find?_eq_none]
    intro i hi
    simpa using h i (List.mem_range.mp hi)
  rw [this]
def sp_break_of_a : TSp := fun as PR PX => ∃ r xs, as = [fz (ruleT r), fz (.tup (xs.map T.int))] ∧ RlOk r ∧ xs.length ≤ 2000 ∧ PR (.val false (brkT r xs)) [ruleT r, .tup (xs.map T.int)]
def rd_break_of_a : TTS := ttSeq (ttFor (tiEnum (sl 1)) (tgTup 2 (tgsCons (tgN 2) (tgsCons (tgN 3) (tgsNil)))) (ttSeq (ttSet 4 (ttCall sp_bar_a nox (taF (tv 0) (taF (ttSl (tv 1) (toN) (toS (tv 2))) (taF (tv 3) (taNil))))))
  (ttIfS (ttB (ttBin (isT true) (tv 4) (tk .non))) (ttRet (ttTup (tlcons (tv 2) (tlcons (tv 4) (tlnil))))) (ttNext))))
  (ttRet (tk .non))
theorem ln_break_of_a : ∀ as PR PX, sp_break_of_a as PR PX → as.length = 2 := by
  rintro as PR PX ⟨r, xs, rfl, _⟩
  rfl
theorem ok_break_of_a : ∀ as PR PX, sp_break_of_a as PR PX → rd_break_of_a (endsT as PR) (startT 5 as) := by
  rintro as PR PX ⟨r, xs, rfl, hr, hl, k⟩
  have sz := sizeLine_val
  unfold rd_break_of_a
  walk_at "tl"
  refine forT_p (α := Option T × Option T × Option T) (fun x => [some (fz (ruleT r)), some ⟨.frz, true, .tup (xs.map T.int)⟩, ofT x.1, ofT x.2.1, ofT x.2.2]) (fun i _ => ∀ j, j < i → barN r xs j = true) (none, none, none) rfl (fun j hj => absurd hj (Nat.not_lt_zero j)) (fun i t x ht hI => ?_) (fun x hI => ?_)
  · obtain ⟨y, hy, rfl⟩ := numd_ints_get ht
    have hi := (List.getElem?_eq_some_iff.mp hy).1
    have ey : xs.getD i 0 = y := by rw [List.getD_eq_getElem?_getD, hy]; rfl
    walk_at "tl"
    rw [cut_takeI]
    refine i_barT hr (by rw [List.length_take]; omega) ?_
    walk_at "tl"
    rw [is_bar]
    walk_at "tl"
    refine cnd_2 (fun h => ?_) (fun h => ?_)
    · walk_at "tl"
      refine ⟨(some (.int i), some (.int y), some (barT r (xs.take i) y)), rfl, fun j hj => ?_⟩
      rcases Nat.lt_succ_iff_lt_or_eq.mp hj with q | q
      · exact hI j q
      · subst q
        unfold barN
        rw [ey]
        exact decide_eq_true h
    · walk_at "tl"
      rw [brk_at hi hI (by unfold barN; rw [ey]; exact decide_eq_false h), ey] at k
      exact ⟨by omega, k⟩
  · rw [numd_len, List.length_map] at hI
    walk_at "tl"
    rw [brk_none hI] at k
    exact k
theorem i_break_of {r : Rl} {xs : List Int} {PR : R → List T → Prop} {PX : String → List T → Prop} (hr : RlOk r) (hl : xs.length ≤ 2000) (k : PR (.val false (brkT r xs)) [ruleT r, .tup (xs.map T.int)]) : sp_break_of_a [fz (ruleT r), fz (.tup (xs.map T.int))] PR PX := ⟨r, xs, rfl, hr, hl, k⟩
def sp_keeps_a : TSp := fun as PR PX => ∃ r xs, as = [fz (ruleT r), fz (.tup (xs.map T.int))] ∧ RlOk r ∧ xs.length ≤ 2000 ∧ PR (.val false (.bl (keepB r xs))) [ruleT r, .tup (xs.map T.int)]
def rd_keeps_a : TTS := ttRet (ttBin (isT false) (ttCall sp_break_of_a nox (taF (tv 0) (taF (tv 1) (taNil)))) (tk .non))
theorem ln_keeps_a : ∀ as PR PX, sp_keeps_a as PR PX → as.length = 2 := by
  rintro as PR PX ⟨r, xs, rfl, _⟩
  rfl
theorem ok_keeps_a : ∀ as PR PX, sp_keeps_a as PR PX → rd_keeps_a (endsT as PR) (startT 2 as) := by
  rintro as PR PX ⟨r, xs, rfl, hr, hl, k⟩
  unfold rd_keeps_a
  walk_at "tl"
  refine i_break_of hr hl ?_
  walk_at "tl"
  rw [brk_is]
  walk_at "tl"
  exact k
theorem i_keeps {r : Rl} {xs : List Int} {PR : R → List T → Prop} {PX : String → List T → Prop} (hr : RlOk r) (hl : xs.length ≤ 2000) (k : PR (.val false (.bl (keepB r xs))) [ruleT r, .tup (xs.map T.int)]) : sp_keeps_a [fz (ruleT r), fz (.tup (xs.map T.int))] PR PX := ⟨r, xs, rfl, hr, hl, k⟩
end Lib

namespace Lib
open PySem L2 TL
/-- sums are asked of positive numbers -/
def Pos (r : Rl) (xs : List Int) : Prop := isS r = true → ∀ x ∈ xs, 1 ≤ x
theorem take_mem {xs : List Int} (hs : xs.Pairwise (· < ·)) {i : Nat} (hi : i < xs.length) {x : Int} : x ∈ xs.take i ↔ x ∈ xs ∧ x < xs.getD i 0 := sorted_take hs (getD_at hi)
theorem keep_all {r : Rl} {xs : List Int} (hs : xs.Pairwise (· < ·)) (hr : RlOk r) (hp : Pos r xs) : keepB r xs = true ↔ ∀ n ∈ xs, ¬Brd r xs n := by
  rw [keep_iff]
  constructor
  · intro h n hn hb
    obtain ⟨i, hi, rfl⟩ : ∃ i, i < xs.length ∧ xs.getD i 0 = n := by
      obtain ⟨i, hi, e⟩ := List.mem_iff_getElem.mp hn
      exact ⟨i, hi, by rw [List.getD_eq_getElem?_getD, List.getElem?_eq_getElem hi]; exact e⟩
    refine (bars_nil (hs.sublist (List.take_sublist ..))).mp (h i hi) ?_
    obtain ⟨w, hw⟩ := hb
    refine ⟨w, ?_⟩
    have tm : ∀ x ∈ xs, x < xs.getD i 0 → x ∈ xs.take i := fun x hx hlt => (take_mem hs hi).mpr ⟨hx, hlt⟩
    cases r with
    | evens =>
      obtain ⟨x, y, e, h1, h2, h3, h4⟩ := hw
      exact ⟨x, y, e, tm x h1 (by omega), tm y h2 (by omega), h3, h4⟩
    | sums =>
      obtain ⟨x, y, e, h1, h2, h3, h4⟩ := hw
      have p1 : 1 ≤ x := hp rfl x h1
      have p2 : 1 ≤ y := hp rfl y h2
      exact ⟨x, y, e, tm x h1 (by omega), tm y h2 (by omega), h3, h4⟩
    | pairs =>
      obtain ⟨x, y, z, e, h1, h2, h3, h4, h5, h6⟩ := hw
      exact ⟨x, y, z, e, tm x h1 (by omega), tm y h2 (by omega), tm z h3 (by omega), h4, h5, h6⟩
    | gaps ss =>
      obtain ⟨x, e, h1, h2⟩ := hw
      have p1 := StOk.bd hr _ h2
      exact ⟨x, e, tm x h1 (by omega), h2⟩
  · intro h i hi
    refine (bars_nil (hs.sublist (List.take_sublist ..))).mpr fun hb => h (xs.getD i 0) ?_ (hb.mono fun x hx => List.mem_of_mem_take hx)
    rw [List.getD_eq_getElem?_getD, List.getElem?_eq_getElem hi]
    exact List.getElem_mem _
theorem Pos.sub {r : Rl} {xs ys : List Int} (h : Pos r xs) (hm : ∀ y ∈ ys, y ∈ xs) : Pos r ys := fun e y hy => h e y (hm y hy)
theorem SmOk.pos {r : Rl} {m : Int} {xs : List Int} (h : SmOk r m xs) : Pos r xs := fun e x hx => by
  have := (h.bd x hx).1
  cases r <;> first | exact this | cases e
theorem keep_sub {r : Rl} {xs ys : List Int} (hr : RlOk r) (hs : xs.Pairwise (· < ·)) (ht : ys.Pairwise (· < ·)) (hp : Pos r xs) (hm : ∀ y ∈ ys, y ∈ xs) (h : keepB r xs = true) : keepB r ys = true :=
  (keep_all ht hr (hp.sub hm)).mpr fun n hn hb => (keep_all hs hr hp).mp h n (hm n hn) (hb.mono hm)
end Lib

namespace Lib
open PySem L2 TL
def nb (r : Rl) (xs : List Int) (n : Int) : List Int := match r with
  | .evens => xs.map fun x => 2 * n - x
  | .sums => xs.map (fun x => n + x) ++ [2 * n]
  | .pairs => xs.map (fun x => 2 * n - x) ++ (List.range xs.length).flatMap fun k => (xs.take k).map fun x => xs.getD k 0 + n - x
  | .gaps ss => ss.map fun s => n + s
theorem brd_snoc {r : Rl} {xs : List Int} {n m : Int} (hs : xs.Pairwise (· < ·)) (hn : ∀ x ∈ xs, x < n) : Brd r (xs ++ [n]) m ↔ Brd r xs m ∨ m ∈ nb r xs n := by
  have me : ∀ x, x ∈ xs ++ [n] ↔ x ∈ xs ∨ x = n := fun x => by simp
  unfold Brd
  constructor
  · rintro ⟨w, h⟩
    cases r with
    | evens =>
      obtain ⟨x, y, rfl, hx, hy, hl, e⟩ := h
      rcases (me y).mp hy with hy' | rfl
      · rcases (me x).mp hx with hx' | rfl
        · exact .inl ⟨_, x, y, rfl, hx', hy', hl, e⟩
        · have := hn y hy'; omega
      · rcases (me x).mp hx with hx' | rfl
        · exact .inr (List.mem_map.mpr ⟨x, hx', e.symm⟩)
        · omega
    | sums =>
      obtain ⟨x, y, rfl, hx, hy, hl, e⟩ := h
      rcases (me y).mp hy with hy' | rfl
      · rcases (me x).mp hx with hx' | rfl
        · exact .inl ⟨_, x, y, rfl, hx', hy', hl, e⟩
        · have := hn y hy'; omega
      · refine .inr (List.mem_append.mpr ?_)
        rcases (me x).mp hx with hx' | rfl
        · exact .inl (List.mem_map.mpr ⟨x, hx', by omega⟩)
        · exact .inr (by simp; omega)
    | pairs =>
      obtain ⟨x, y, z, rfl, hx, hy, hz, hl, hl2, e⟩ := h
      rcases (me x).mp hx with hx' | rfl
      · rcases (me z).mp hz with hz' | rfl
        · rcases (me y).mp hy with hy' | rfl
          · exact .inl ⟨_, x, y, z, rfl, hx', hy', hz', hl, hl2, e⟩
          · have := hn z hz'; omega
        · refine .inr (List.mem_append.mpr ?_)
          rcases (me y).mp hy with hy' | rfl
          · obtain ⟨k, hk, ek⟩ := List.mem_iff_getElem.mp hy'
            refine .inr (List.mem_flatMap.mpr ⟨k, List.mem_range.mpr hk, List.mem_map.mpr ⟨x, (sorted_take hs (getD_at hk)).mpr ⟨hx', ?_⟩, ?_⟩⟩)
            · rw [List.getD_eq_getElem?_getD, List.getElem?_eq_getElem hk, ek]; exact hl
            · rw [List.getD_eq_getElem?_getD, List.getElem?_eq_getElem hk, ek]; exact e.symm
          · exact .inl (List.mem_map.mpr ⟨x, hx', by omega⟩)
      · rcases (me y).mp hy with hy' | rfl
        · have := hn y hy'; omega
        · omega
    | gaps ss =>
      obtain ⟨x, rfl, hx, e⟩ := h
      rcases (me x).mp hx with hx' | rfl
      · exact .inl ⟨_, x, rfl, hx', e⟩
      · exact .inr (List.mem_map.mpr ⟨_, e, by omega⟩)
  · rintro (⟨w, h⟩ | h)
    · exact (show Brd r xs m from ⟨w, h⟩).mono fun x hx => (me x).mpr (.inl hx)
    · have mx : ∀ {x}, x ∈ xs → x ∈ xs ++ [n] := fun {x} hx => (me x).mpr (.inl hx)
      have mn : n ∈ xs ++ [n] := (me n).mpr (.inr rfl)
      cases r with
      | evens =>
        obtain ⟨x, hx, e⟩ := List.mem_map.mp h
        exact ⟨_, x, n, rfl, mx hx, mn, hn x hx, e.symm⟩
      | sums =>
        rcases List.mem_append.mp h with h | h
        · obtain ⟨x, hx, e⟩ := List.mem_map.mp h
          exact ⟨_, x, n, rfl, mx hx, mn, Int.le_of_lt (hn x hx), by omega⟩
        · rw [List.mem_singleton] at h
          exact ⟨_, n, n, rfl, mn, mn, Int.le_refl _, by omega⟩
      | pairs =>
        rcases List.mem_append.mp h with h | h
        · obtain ⟨x, hx, e⟩ := List.mem_map.mp h
          exact ⟨_, x, n, n, rfl, mx hx, mn, mn, hn x hx, Int.le_refl _, by omega⟩
        · obtain ⟨k, hk, h⟩ := List.mem_flatMap.mp h
          obtain ⟨x, hx, e⟩ := List.mem_map.mp h
          have hk := List.mem_range.mp hk
          have q := (sorted_take hs (getD_at hk)).mp hx
          have hy : xs.getD k 0 ∈ xs := List.mem_of_getElem? (getD_at hk)
          exact ⟨_, x, xs.getD k 0, n, rfl, mx q.1, mx hy, mn, q.2, Int.le_of_lt (hn _ hy), by omega⟩
      | gaps ss =>
        obtain ⟨s, hs', e⟩ := List.mem_map.mp h
        exact ⟨_, n, rfl, mn, by rw [show m - n = s by omega]; exact hs'⟩
theorem flat_le {α : Type} {f : Nat → List α} {c : Nat} : ∀ {m : Nat}, (∀ i, i < m → (f i).length ≤ c) → ((List.range m).flatMap f).length ≤ m * c
  | 0, _ => by simp
  | m + 1, h => by
    have ih := flat_le (m := m) fun i hi => h i (by omega)
    rw [List.range_succ, List.flatMap_append, List.length_append, List.flatMap_cons, List.flatMap_nil, List.append_nil, Nat.add_mul]
    have := h m (by omega)
    omega
theorem nb_len {r : Rl} {xs : List Int} {n : Int} (hr : RlOk r) (hl : xs.length ≤ 200) : (nb r xs n).length ≤ 50000 := by
  cases r with
  | evens => simp [nb]; omega
  | sums => simp [nb]; omega
  | pairs =>
    unfold nb
    have := flat_le (m := xs.length) (c := 200) (f := fun k => (xs.take k).map fun x => xs.getD k 0 + n - x) fun i hi => by simp; omega
    have h2 : xs.length * 200 ≤ 200 * 200 := Nat.mul_le_mul_right 200 hl
    rw [List.length_append, List.length_map]
    omega
  | gaps ss =>
    have := hr.l1
    simp [nb]
    omega
end Lib

namespace Lib
open PySem L2 TL
structure Beg (r : Rl) (xs : List Int) : Prop where
  ne : xs ≠ []
  pw : xs.Pairwise (· < ·)
  bd : ∀ x ∈ xs, 0 ≤ x ∧ x ≤ 60
  pos : Pos r xs
  len : xs.length ≤ 12
  keep : keepB r xs = true
/-- a set that keeps a rule, and the numbers that it bars -/
structure Grw (r : Rl) (xs zs : List Int) : Prop where
  pw : xs.Pairwise (· < ·)
  keep : keepB r xs = true
  nd : zs.Nodup
  mem : ∀ m, m ∈ zs ↔ Brd r xs m
  len : zs.length ≤ 50000 * xs.length
theorem Grw.nil {r : Rl} : Grw r [] [] := ⟨List.Pairwise.nil, rfl, List.nodup_nil, fun m => ⟨(by intro h; cases h), fun h => absurd h brd_nil⟩, Nat.zero_le _⟩
theorem Grw.snoc {r : Rl} {xs zs zs' : List Int} {n : Int} (h : Grw r xs zs) (hr : RlOk r) (hl : xs.length ≤ 200) (hlt : ∀ x ∈ xs, x < n) (hn : n ∉ zs) (hm : ∀ m, m ∈ zs' ↔ m ∈ zs ∨ m ∈ nb r xs n) (hz : zs'.length ≤ zs.length + (nb r xs n).length) (nd : zs'.Nodup) : Grw r (xs ++ [n]) zs' := by
  have hq := nb_len (r := r) (xs := xs) (n := n) hr hl
  have h5 := h.len
  refine ⟨List.pairwise_append.mpr ⟨h.pw, List.pairwise_singleton _ _, fun x hx y hy => ?_⟩, ?_, nd, fun m => ?_, ?_⟩
  · rw [List.mem_singleton] at hy
    rw [hy]; exact hlt x hx
  · rw [keep_snoc, h.keep, Bool.true_and, decide_eq_true_eq, bars_nil h.pw]
    exact fun hb => hn ((h.mem n).mpr hb)
  · rw [hm, h.mem, brd_snoc h.pw hlt]
  · rw [List.length_append, List.length_singleton]
    omega
theorem keep_take {r : Rl} {xs : List Int} {i : Nat} (hp : xs.Pairwise (· < ·)) (hi : i < xs.length) (hb : Brd r (xs.take i) (xs.getD i 0)) : keepB r xs = false := by
  rw [← Bool.not_eq_true, keep_iff]
  exact fun h => absurd hb ((bars_nil (hp.sublist (List.take_sublist _ _))).mp (h i hi))
end Lib

namespace Lib
open PySem L2 TL
theorem sorted_ext {xs ys : List Int} (hx : xs.Pairwise (· < ·)) (hy : ys.Pairwise (· < ·)) (h : ∀ x, x ∈ xs ↔ x ∈ ys) : xs = ys := by
  have p : xs.Perm ys := (List.perm_ext_iff_of_nodup (nodup_lt hx) (nodup_lt hy)).mpr h
  exact p.eq_of_pairwise (fun a b _ _ h1 h2 => absurd h1 (by omega)) hx hy
def la (bs : List Int) : Int := bs.getLastD 0
def rowT (r : Rl) (bs p : List Int) (n : Int) : Bool := decide (n ∈ bs) || (decide (la bs < n) && decide (barsR r p n = []))
def rowL (r : Rl) (bs : List Int) : Nat → List Int
  | 0 => []
  | n + 1 => if rowT r bs (rowL r bs n) n = true then rowL r bs n ++ [(n : Int)] else rowL r bs n
theorem rowL_lt {r : Rl} {bs : List Int} : ∀ {n : Nat}, ∀ x ∈ rowL r bs n, 0 ≤ x ∧ x < n
  | 0, x, h => by cases h
  | n + 1, x, h => by
    unfold rowL at h
    split at h
    · rcases List.mem_append.mp h with h | h
      · have := rowL_lt x h; omega
      · have := List.mem_singleton.mp h; omega
    · have := rowL_lt x h; omega
theorem rowL_pw {r : Rl} {bs : List Int} : ∀ {n : Nat}, (rowL r bs n).Pairwise (· < ·)
  | 0 => List.Pairwise.nil
  | n + 1 => by
    unfold rowL
    split
    · refine List.pairwise_append.mpr ⟨rowL_pw, List.pairwise_singleton _ _, fun x hx y hy => ?_⟩
      have := (rowL_lt x hx).2
      rw [List.mem_singleton] at hy
      omega
    · exact rowL_pw
theorem rowL_mem {r : Rl} {bs : List Int} {n : Nat} {x : Int} : x ∈ rowL r bs n ↔ x < n ∧ 0 ≤ x ∧ rowT r bs (rowL r bs x.toNat) x = true := by
  induction n with
  | zero => exact ⟨(by intro h; cases h), fun h => by omega⟩
  | succ n ih =>
    show x ∈ (if rowT r bs (rowL r bs n) n = true then rowL r bs n ++ [(n : Int)] else rowL r bs n) ↔ _
    by_cases hx : x = n
    · subst hx
      have hn : ((n : Int)) ∉ rowL r bs n := fun h => by have := rowL_lt _ h; omega
      split
      · rename_i h
        simp only [List.mem_append, List.mem_singleton, Int.toNat_natCast]
        exact ⟨fun _ => ⟨by omega, by omega, h⟩, fun _ => .inr trivial⟩
      · rename_i h
        simp only [Int.toNat_natCast]
        exact ⟨fun h' => absurd h' hn, fun h' => absurd h'.2.2 h⟩
    · have e : x ∈ (if rowT r bs (rowL r bs n) n = true then rowL r bs n ++ [(n : Int)] else rowL r bs n) ↔ x ∈ rowL r bs n := by
        split
        · simp [hx]
        · rfl
      rw [e, ih]
      constructor
      · rintro ⟨h1, h2⟩; exact ⟨by omega, h2⟩
      · rintro ⟨h1, h2⟩; exact ⟨by omega, h2⟩
theorem rowL_in {r : Rl} {bs : List Int} {n m : Nat} {x : Int} (h : n ≤ m) : x ∈ rowL r bs n ↔ x ∈ rowL r bs m ∧ x < n := by
  rw [rowL_mem, rowL_mem]
  constructor
  · rintro ⟨h1, h2, h3⟩; exact ⟨⟨by omega, h2, h3⟩, h1⟩
  · rintro ⟨⟨h1, h2, h3⟩, h4⟩; exact ⟨h4, h2, h3⟩
theorem la_mem {bs : List Int} (h : bs ≠ []) : la bs ∈ bs := by
  unfold la
  rw [List.getLastD_eq_getLast?, List.getLast?_eq_some_getLast h]
  exact List.getLast_mem h
theorem la_getLast {bs : List Int} (h : bs ≠ []) : bs.getLast h = la bs := by
  unfold la
  rw [List.getLastD_eq_getLast?, List.getLast?_eq_some_getLast h]
  rfl
theorem la_ge {bs : List Int} (hp : bs.Pairwise (· < ·)) {x : Int} (hx : x ∈ bs) : x ≤ la bs := by
  have h : bs ≠ [] := List.ne_nil_of_mem hx
  rw [← la_getLast h]
  rw [← List.dropLast_concat_getLast h] at hp hx
  rcases List.mem_append.mp hx with q | q
  · exact Int.le_of_lt ((List.pairwise_append.mp hp).2.2 x q _ (List.mem_singleton.mpr rfl))
  · exact Int.le_of_eq (List.mem_singleton.mp q)
/-- the beginning is the row as far as its last number -/
theorem rowL_beg {r : Rl} {bs : List Int} (hp : bs.Pairwise (· < ·)) (h0 : ∀ x ∈ bs, 0 ≤ x) {n : Nat} (hn : n ≤ la bs + 1) : rowL r bs n = bs.filter fun x => decide (x < (n : Int)) := by
  refine sorted_ext rowL_pw (hp.sublist List.filter_sublist) fun x => ?_
  rw [rowL_mem, List.mem_filter, decide_eq_true_eq]
  unfold rowT
  rw [Bool.or_eq_true, Bool.and_eq_true, decide_eq_true_eq, decide_eq_true_eq]
  constructor
  · rintro ⟨h1, h2, h3 | ⟨h3, _⟩⟩
    · exact ⟨h3, h1⟩
    · omega
  · rintro ⟨h1, h2⟩
    exact ⟨h2, h0 x h1, .inl h1⟩
theorem rowL_all {r : Rl} {bs : List Int} (hp : bs.Pairwise (· < ·)) (h0 : ∀ x ∈ bs, 0 ≤ x) {n : Nat} (hn : n = la bs + 1) : rowL r bs n = bs := by
  rw [rowL_beg hp h0 (by omega), List.filter_eq_self]
  intro x hx
  have := la_ge hp hx
  rw [decide_eq_true_eq]
  omega
theorem rng_len {zs : List Int} {a b : Int} (hn : zs.Nodup) (h : ∀ z ∈ zs, a ≤ z ∧ z < b) : (zs.length : Int) ≤ if a ≤ b then b - a else 0 := by
  have := nodup_len hn (m := rngI a (b - a).toNat) fun z hz => rngI_mem.mpr ⟨(h z hz).1, by have := h z hz; omega⟩
  rw [rngI_len] at this
  split <;> omega
def nbW (r : Rl) (xs : List Int) (n : Int) : List (Int × List Int) := match r with
  | .evens => xs.map fun x => (2 * n - x, [x, n])
  | .sums => (xs ++ [n]).map fun x => (n + x, [x, n])
  | .pairs => xs.map (fun x => (2 * n - x, [x, n, n])) ++ (List.range xs.length).flatMap fun k => (xs.take k).map fun x => (xs.getD k 0 + n - x, [x, xs.getD k 0, n])
  | .gaps ss => ss.map fun s => (n + s, [n])
theorem nbW_bar {r : Rl} {xs : List Int} {n : Int} (hs : xs.Pairwise (· < ·)) (hn : ∀ x ∈ xs, x < n) : ∀ p ∈ nbW r xs n, barP r (xs ++ [n]) p.1 p.2 := by
  have mx : ∀ {x}, x ∈ xs → x ∈ xs ++ [n] := fun {x} hx => List.mem_append_left _ hx
  have mn : n ∈ xs ++ [n] := List.mem_append_right _ (List.mem_singleton.mpr rfl)
  intro p h
  cases r with
  | evens =>
    obtain ⟨x, hx, rfl⟩ := List.mem_map.mp h
    exact ⟨x, n, rfl, mx hx, mn, hn x hx, rfl⟩
  | sums =>
    obtain ⟨x, hx, rfl⟩ := List.mem_map.mp h
    refine ⟨x, n, rfl, hx, mn, ?_, by show n + x = x + n; omega⟩
    rcases List.mem_append.mp hx with q | q
    · exact Int.le_of_lt (hn x q)
    · exact Int.le_of_eq (List.mem_singleton.mp q)
  | pairs =>
    rcases List.mem_append.mp h with h | h
    · obtain ⟨x, hx, rfl⟩ := List.mem_map.mp h
      exact ⟨x, n, n, rfl, mx hx, mn, mn, hn x hx, Int.le_refl _, by show 2 * n - x = n + n - x; omega⟩
    · obtain ⟨k, hk, h⟩ := List.mem_flatMap.mp h
      obtain ⟨x, hx, rfl⟩ := List.mem_map.mp h
      have hk := List.mem_range.mp hk
      have q := (sorted_take hs (getD_at hk)).mp hx
      have hy : xs.getD k 0 ∈ xs := List.mem_of_getElem? (getD_at hk)
      exact ⟨x, xs.getD k 0, n, rfl, mx q.1, mx hy, mn, q.2, Int.le_of_lt (hn _ hy), rfl⟩
  | gaps ss =>
    obtain ⟨s, hs', rfl⟩ := List.mem_map.mp h
    exact ⟨n, rfl, mn, by show n + s - n ∈ ss; rw [show n + s - n = s by omega]; exact hs'⟩
theorem nbW_fst {r : Rl} {xs : List Int} {n : Int} : ∀ m, m ∈ (nbW r xs n).map (·.1) ↔ m ∈ nb r xs n := by
  intro m
  cases r with
  | evens => simp [nbW, nb]
  | sums =>
    simp only [nbW, nb, List.map_append, List.map_cons, List.map_nil, List.mem_append, List.map_map, List.mem_singleton, List.mem_map, Function.comp]
    rw [show n + n = 2 * n by omega]
  | pairs =>
    simp only [nbW, nb, List.map_append, List.mem_append, List.map_map, List.mem_map, Function.comp, List.map_flatMap, List.mem_flatMap]
  | gaps ss => simp [nbW, nb]
end Lib

namespace Lib
open PySem L2 TL
end Lib

namespace Lib
open PySem L2 TL
structure GCls (K : PySem.W.Frag) (C : Addr) : Prop where
  cl : Cls K C
  nr : NoAttr K C "rule"
  nn : NoAttr K C "numbers"
  nb : NoAttr K C "barred"
def gF (v : V) (pn pb : Addr) : List (Str × V) := [("rule", v), ("numbers", .ref pn), ("barred", .ref pb)]
structure GAt (K : PySem.W.Frag) (C : Addr) (F H : Hp) (p pn pb : Addr) (r : Rl) (xs zs : List Int) (ws : List (List Int)) : Prop where
  sub : Same F H
  ob : ∃ dx v, H p = some (.ins C dx (gF v pn pb)) ∧ Rep K F (ruleT r) v
  nm : H pn = some (.lst (xs.map V.int))
  br : ∃ kvs, H pb = some (.dK kvs) ∧ kvs.map (·.1) = zs.map Sum.inl ∧ Reps K F (ws.map tupI) (kvs.map (·.2))
  fp : F p = none
  fn : F pn = none
  fb : F pb = none
theorem GAt.ne1 {K : PySem.W.Frag} {C : Addr} {F H : Hp} {p pn pb : Addr} {r : Rl} {xs zs : List Int} {ws : List (List Int)} (g : GAt K C F H p pn pb r xs zs ws) : p ≠ pn ∧ p ≠ pb ∧ pn ≠ pb := by
  obtain ⟨dx, v, h1, _⟩ := g.ob
  obtain ⟨kvs, h2, _⟩ := g.br
  exact ⟨ne_of h1 g.nm (by intro z; cases z), ne_of h1 h2 (by intro z; cases z), ne_of g.nm h2 (by intro z; cases z)⟩
theorem GAt.step {K : PySem.W.Frag} {C : Addr} {F H F' H' : Hp} {p pn pb : Addr} {r : Rl} {xs zs : List Int} {ws : List (List Int)} (g : GAt K C F H p pn pb r xs zs ws) (s : Same F F') (i : Same F' H') (h1 : H' p = H p) (h2 : H' pn = H pn) (h3 : H' pb = H pb) (n1 : F' p = none) (n2 : F' pn = none) (n3 : F' pb = none) : GAt K C F' H' p pn pb r xs zs ws := by
  obtain ⟨dx, v, e1, r1⟩ := g.ob
  obtain ⟨kvs, e2, ek, r2⟩ := g.br
  exact ⟨i, ⟨dx, v, h1.trans e1, Rep.mono s _ _ r1⟩, h2.trans g.nm, ⟨kvs, h3.trans e2, ek, Reps.mono s _ _ r2⟩, n1, n2, n3⟩
/-- the table as it grows: each number with its first bar -/
def gAdd (acc : List (Int × List Int)) (p : Int × List Int) : List (Int × List Int) := if p.1 ∈ acc.map (·.1) then acc else acc ++ [p]
def gT (r : Rl) (xs : List Int) : List (Int × List Int) := (List.range xs.length).foldl (fun acc i => (nbW r (xs.take i) (xs.getD i 0)).foldl gAdd acc) []
theorem foldl_same {α β : Type} {f g : α → β → α} : ∀ {l : List β} {a : α}, (∀ a, ∀ b ∈ l, f a b = g a b) → l.foldl f a = l.foldl g a
  | [], _, _ => rfl
  | b :: l, a, h => by
    rw [List.foldl_cons, List.foldl_cons, h a b List.mem_cons_self]
    exact foldl_same fun a c hc => h a c (List.mem_cons_of_mem _ hc)
theorem gT_snoc {r : Rl} {xs : List Int} {n : Int} : gT r (xs ++ [n]) = (nbW r xs n).foldl gAdd (gT r xs) := by
  unfold gT
  rw [List.length_append, List.length_singleton, List.range_succ, List.foldl_append, List.foldl_cons, List.foldl_nil, List.take_left, List.getD_eq_getElem?_getD, List.getElem?_append_right (Nat.le_refl _), Nat.sub_self]
  congr 1
  refine foldl_same fun acc i hi => ?_
  have hi := List.mem_range.mp hi
  rw [List.take_append_of_le_length (by omega), List.getD_eq_getElem?_getD, List.getElem?_append_left hi, ← List.getD_eq_getElem?_getD]
theorem zip_fst {zs : List Int} {ws : List (List Int)} (h : ws.length = zs.length) : (zs.zip ws).map (·.1) = zs := List.map_fst_zip (by omega)
/-- what the dict holds: the barred numbers, each with a bar -/
structure Gw (r : Rl) (xs zs : List Int) (ws : List (List Int)) : Prop where
  nd : zs.Nodup
  len : ws.length = zs.length
  mem : ∀ m, m ∈ zs ↔ Brd r xs m
  bar : ∀ (i : Nat) m w, zs[i]? = some m → ws[i]? = some w → barP r xs m w
  det : zs.zip ws = gT r xs
theorem Gw.nil {r : Rl} : Gw r [] [] [] := ⟨List.nodup_nil, rfl, fun m => ⟨(by intro h; cases h), fun h => absurd h brd_nil⟩, (fun i m w h _ => by simp at h), rfl⟩
theorem barP_mono {r : Rl} {xs ys : List Int} {m : Int} {w : List Int} (h : ∀ x ∈ xs, x ∈ ys) (hb : barP r xs m w) : barP r ys m w := by
  cases r with
  | evens => obtain ⟨x, y, e, hx, hy, q⟩ := hb; exact ⟨x, y, e, h x hx, h y hy, q⟩
  | sums => obtain ⟨x, y, e, hx, hy, q⟩ := hb; exact ⟨x, y, e, h x hx, h y hy, q⟩
  | pairs => obtain ⟨x, y, z, e, hx, hy, hz, q⟩ := hb; exact ⟨x, y, z, e, h x hx, h y hy, h z hz, q⟩
  | gaps ss => obtain ⟨x, e, hx, q⟩ := hb; exact ⟨x, e, h x hx, q⟩
/-- within a put: so many of the new bars are in -/
structure GwP (r : Rl) (xs : List Int) (n : Int) (i : Nat) (zs : List Int) (ws : List (List Int)) : Prop where
  nd : zs.Nodup
  len : ws.length = zs.length
  mem : ∀ m, m ∈ zs ↔ Brd r xs m ∨ m ∈ ((nbW r xs n).take i).map (·.1)
  bar : ∀ (i : Nat) m w, zs[i]? = some m → ws[i]? = some w → barP r (xs ++ [n]) m w
  det : zs.zip ws = ((nbW r xs n).take i).foldl gAdd (gT r xs)
theorem Gw.p {r : Rl} {xs zs : List Int} {ws : List (List Int)} {n : Int} (g : Gw r xs zs ws) : GwP r xs n 0 zs ws :=
  ⟨g.nd, g.len, fun m => by rw [g.mem]; simp, fun i m w h1 h2 => barP_mono (fun x hx => List.mem_append_left _ hx) (g.bar i m w h1 h2), g.det⟩
theorem GwP.q {r : Rl} {xs zs : List Int} {ws : List (List Int)} {n : Int} (g : GwP r xs n (nbW r xs n).length zs ws) (hs : xs.Pairwise (· < ·)) (hn : ∀ x ∈ xs, x < n) : Gw r (xs ++ [n]) zs ws :=
  ⟨g.nd, g.len, fun m => by rw [g.mem, List.take_length, nbW_fst, brd_snoc hs hn], g.bar, by rw [gT_snoc, g.det, List.take_length]⟩
theorem GwP.old {r : Rl} {xs zs : List Int} {ws : List (List Int)} {n m : Int} {w : List Int} {i : Nat} (g : GwP r xs n i zs ws) (e : (nbW r xs n)[i]? = some (m, w)) (h : m ∈ zs) : GwP r xs n (i + 1) zs ws :=
  ⟨g.nd, g.len, fun k => by
    rw [g.mem, List.take_add_one, e, List.map_append, List.mem_append]
    constructor
    · rintro (h | h)
      · exact .inl h
      · exact .inr (.inl h)
    · rintro (h' | h' | h')
      · exact .inl h'
      · exact .inr h'
      · simp at h'
        subst h'
        exact (g.mem _).mp h, g.bar, by
    rw [List.take_add_one, e, List.foldl_append, ← g.det]
    show _ = gAdd (zs.zip ws) (m, w)
    unfold gAdd
    rw [zip_fst g.len, if_pos h]⟩
theorem GwP.new {r : Rl} {xs zs : List Int} {ws : List (List Int)} {n m : Int} {w : List Int} {i : Nat} (hs : xs.Pairwise (· < ·)) (hn : ∀ x ∈ xs, x < n) (g : GwP r xs n i zs ws) (e : (nbW r xs n)[i]? = some (m, w)) (h : m ∉ zs) : GwP r xs n (i + 1) (zs ++ [m]) (ws ++ [w]) := by
  refine ⟨?_, by rw [List.length_append, List.length_append, g.len]; rfl, fun k => ?_, fun j k u h1 h2 => ?_, by
    rw [List.take_add_one, e, List.foldl_append, ← g.det, List.zip_append g.len.symm]
    show _ = gAdd (zs.zip ws) (m, w)
    unfold gAdd
    rw [zip_fst g.len, if_neg h]
    rfl⟩
  · rw [List.nodup_append]
    exact ⟨g.nd, by simp, fun a ha b hb => by rw [List.mem_singleton] at hb; subst hb; exact fun e => h (by rw [← e]; exact ha)⟩
  · rw [List.mem_append, g.mem, List.take_add_one, e, List.map_append, List.mem_append]
    simp [or_assoc]
  · by_cases hj : j < zs.length
    · rw [List.getElem?_append_left hj] at h1
      rw [List.getElem?_append_left (by rw [g.len]; exact hj)] at h2
      exact g.bar j k u h1 h2
    · rw [List.getElem?_append_right (by omega)] at h1
      rw [List.getElem?_append_right (by rw [g.len]; omega), g.len] at h2
      have e1 : j - zs.length = 0 := by
        have := (List.getElem?_eq_some_iff.mp h1).1
        simp at this
        omega
      rw [e1] at h1 h2
      simp at h1 h2
      subst h1 h2
      exact nbW_bar hs hn _ (List.mem_of_getElem? e)
end Lib

namespace Lib
open PySem L2 TL
end Lib

namespace Lib
open PySem L2 TL
/-- frozen all of it: what is told of the caller's heap -/
structure Fz3 (K : PySem.W.Frag) (F H F' H' : Hp) : Prop where
  sub : Same F F'
  in_ : Same F' H'
  new : ∀ a, F' a ≠ none → F a ≠ none ∨ H a = none
  fr : Same H H'
theorem same_non {H H' : Hp} (h : Same H H') {a : Addr} (ha : H' a = none) : H a = none := by
  cases e : H a with
  | none => rfl
  | some o => rw [h a o e] at ha; cases ha
theorem Fz3.trans {K : PySem.W.Frag} {F H F1 H1 F2 H2 : Hp} (a : Fz3 K F H F1 H1) (b : Fz3 K F1 H1 F2 H2) : Fz3 K F H F2 H2 :=
  ⟨a.sub.trans b.sub, b.in_, fun x h => (b.new x h).elim (a.new x) fun q => .inr (same_non a.fr q), a.fr.trans b.fr⟩
abbrev growT (r : Rl) (xs zs : List Int) (ws : List (List Int)) : T := .ins gNs [ruleT r, .lst (xs.map T.int), .dct (zs.map Sum.inl) (ws.map tupI)]
/-- all of it is frozen -/
theorem GAt.freeze {K : PySem.W.Frag} {C : Addr} {F H : Hp} {p pn pb : Addr} {r : Rl} {xs zs : List Int} {ws : List (List Int)} (G : GCls K C) (g : GAt K C F H p pn pb r xs zs ws) (hl : xs.length ≤ sizeLine) (hz : zs.length ≤ sizeLine) :
    ∃ F', Same F F' ∧ Same F' H ∧ (∀ a, F' a ≠ none → F a ≠ none ∨ a = p ∨ a = pn ∨ a = pb) ∧ Rep K F' (growT r xs zs ws) (.ref p) := by
  obtain ⟨dx, v, hp, rv⟩ := g.ob
  obtain ⟨kvs, hb, hk, hbr⟩ := g.br
  obtain ⟨n1, n2, n3⟩ := g.ne1
  refine ⟨upd (upd (upd F p (.ins C dx (gF v pn pb))) pn (.lst (xs.map V.int))) pb (.dK kvs), ?s, fun a o e => ?_, fun a h => ?_, ?_⟩
  case s =>
    intro a o e
    have q : ∀ b, F b = none → a ≠ b := fun b hb z => by subst z; rw [hb] at e; cases e
    rw [upd_ne (q pb g.fb), upd_ne (q pn g.fn), upd_ne (q p g.fp)]
    exact e
  · by_cases e1 : a = pb
    · subst e1; rw [upd_same] at e; cases e; exact hb
    · rw [upd_ne e1] at e
      by_cases e2 : a = pn
      · subst e2; rw [upd_same] at e; cases e; exact g.nm
      · rw [upd_ne e2] at e
        by_cases e3 : a = p
        · subst e3; rw [upd_same] at e; cases e; exact hp
        · rw [upd_ne e3] at e; exact g.sub a o e
  · by_cases e1 : a = pb
    · exact .inr (.inr (.inr e1))
    · rw [upd_ne e1] at h
      by_cases e2 : a = pn
      · exact .inr (.inr (.inl e2))
      · rw [upd_ne e2] at h
        by_cases e3 : a = p
        · exact .inr (.inl e3)
        · rw [upd_ne e3] at h; exact .inl h
  · have s : Same F (upd (upd (upd F p (.ins C dx (gF v pn pb))) pn (.lst (xs.map V.int))) pb (.dK kvs)) := by
      intro a o e
      have q : ∀ b, F b = none → a ≠ b := fun b hb z => by subst z; rw [hb] at e; cases e
      rw [upd_ne (q pb g.fb), upd_ne (q pn g.fn), upd_ne (q p g.fp)]
      exact e
    refine ⟨p, C, dx, [v, .ref pn, .ref pb], rfl, ?_, G.cl, ?_, rfl, v, _, rfl, Rep.mono s _ _ rv, .ref pn, _, rfl, ⟨pn, _, rfl, ?_, by rw [List.length_map]; exact hl, Reps.ints.mpr rfl⟩, .ref pb, _, rfl, ⟨pb, kvs, rfl, .inl upd_same, ?_, hk, Reps.mono s _ _ hbr⟩, rfl⟩
    · rw [upd_ne n2, upd_ne n1, upd_same]
      rfl
    · intro n hn
      simp only [List.mem_cons, List.not_mem_nil, or_false] at hn
      rcases hn with rfl | rfl | rfl
      · exact G.nr
      · exact G.nn
      · exact G.nb
    · rw [upd_ne n3, upd_same]
    · have := congrArg List.length hk
      simp only [List.length_map] at this
      omega
theorem la_row {r : Rl} {bs : List Int} (hp : bs.Pairwise (· < ·)) (h0 : ∀ x ∈ bs, 0 ≤ x) (hne : bs ≠ []) : rowL r bs (la bs + 1).toNat = bs := rowL_all hp h0 (by have := h0 _ (la_mem hne); omega)
end Lib

namespace Lib
open PySem L2 TL
end Lib

namespace Lib
open PySem L2 TL
end Lib

namespace Lib
open PySem L2 TL
end Lib

namespace Lib
open PySem L2 TL
theorem atI_laT {xs : List Int} (h : xs ≠ []) : atI (xs.map T.int) (-1) = some (.int (la xs)) := by rw [atI_last_int h, la_getLast]
/-- a set, and the numbers that it bars, by any count -/
structure Grv (r : Rl) (xs zs : List Int) : Prop where
  nd : zs.Nodup
  mem : ∀ m, m ∈ zs ↔ Brd r xs m
def isIntT : T → Bool
  | .int _ => true
  | _ => false
end Lib

namespace Lib
open PySem L2 TL
end Lib

namespace Lib
open PySem L2 TL
/-- first numbers of a row, as many as the beginning at least: a beginning of the same row -/
structure Same2 (r : Rl) (bs ms : List Int) : Prop where
  beg : Beg r ms
  row : ∀ N, rowL r ms N = rowL r bs N
end Lib

namespace Lib
open PySem L2 TL
def Grows (r : Rl) (cs bs : List Int) : Prop := ∀ N, rowL r cs N = rowL r bs N
theorem Beg.nn {r : Rl} {bs : List Int} (h : Beg r bs) : ∀ x ∈ bs, 0 ≤ x := fun x hx => (h.bd x hx).1
theorem Beg.row {r : Rl} {bs : List Int} (h : Beg r bs) : rowL r bs (la bs + 1).toNat = bs := la_row h.pw h.nn h.ne
theorem Beg.la0 {r : Rl} {bs : List Int} (h : Beg r bs) : 0 ≤ la bs ∧ la bs ≤ 60 := h.bd _ (la_mem h.ne)
theorem Beg.take {r : Rl} {bs : List Int} (hr : RlOk r) (h : Beg r bs) {m : Nat} (h0 : 0 < m) (hm : m ≤ bs.length) : Beg r (bs.take m) := by
  have hsub : ∀ x ∈ bs.take m, x ∈ bs := fun x hx => List.mem_of_mem_take hx
  have hp := h.pw.sublist (List.take_sublist m bs)
  refine ⟨?_, hp, fun x hx => h.bd x (hsub x hx), h.pos.sub hsub, by rw [List.length_take]; have := h.len; omega, keep_sub hr h.pw hp h.pos hsub h.keep⟩
  intro e
  have := congrArg List.length e
  rw [List.length_take, List.length_nil] at this
  omega
def coreB (r : Rl) (bs : List Int) (m : Nat) : Bool := decide (rowL r (bs.take m) (la bs + 1).toNat = bs)
def coreN (r : Rl) (bs : List Int) : Nat := (List.range bs.length).findIdx (fun m => coreB r bs (m + 1)) + 1
structure IsCore (r : Rl) (bs : List Int) (c : Nat) : Prop where
  c0 : 0 < c
  c1 : c ≤ bs.length
  yes : coreB r bs c = true
  no : ∀ m, 0 < m → m < c → coreB r bs m = false
abbrev coreL (r : Rl) (bs : List Int) : List Int := bs.take (coreN r bs)
theorem Grows.symm {r : Rl} {A B : List Int} (g : Grows r A B) : Grows r B A := fun N => (g N).symm
theorem Grows.trans {r : Rl} {A B C : List Int} (g : Grows r A B) (h : Grows r B C) : Grows r A C := fun N => (g N).trans (h N)
/-- the first place at which two rows are unlike, and both numbers -/
def Parts (r : Rl) (A B : List Int) (p : Nat) (x y : Int) : Prop := ∃ N, (rowL r A N)[p]? = some x ∧ (rowL r B N)[p]? = some y ∧ x ≠ y ∧ ∀ q, q < p → (rowL r A N)[q]? = (rowL r B N)[q]?
theorem Parts.symm {r : Rl} {A B : List Int} {p : Nat} {x y : Int} (h : Parts r A B p x y) : Parts r B A p y x := by
  obtain ⟨N, a, b, n, e⟩ := h
  exact ⟨N, b, a, n.symm, fun q hq => (e q hq).symm⟩
end Lib

namespace Lib
open PySem L2 TL
structure AlikeR (r : Rl) (A B : List Int) (K : T → Prop) : Prop where
  al : coreL r A = coreL r B → K (.tup [.str "alike", .tup ((coreL r A).map T.int)])
  pa : coreL r A ≠ coreL r B → ∀ (p : Nat) x y, Parts r A B p x y → p ≤ 61 → K (.tup [.str "parts", .int p, .int x, .int y])
end Lib

namespace Lib
open PySem L2 TL
def SG : Rl → Prop
  | .sums => True
  | .gaps _ => True
  | _ => False
def barB : Rl → (Int → Bool) → Int → Bool
  | .gaps ss, f, n => ss.any fun s => decide (s ≤ n) && f (n - s)
  | _, f, n => (rngI 1 (n / 2).toNat).any fun o => f o && f (n - o)
theorem barB_gaps {ss : List Int} {f : Int → Bool} {n : Int} : barB (.gaps ss) f n = true ↔ ∃ s ∈ ss, s ≤ n ∧ f (n - s) = true := by
  unfold barB
  rw [List.any_eq_true]
  constructor
  · rintro ⟨s, hs, h⟩
    rw [Bool.and_eq_true, decide_eq_true_eq] at h
    exact ⟨s, hs, h⟩
  · rintro ⟨s, hs, h⟩
    exact ⟨s, hs, by rw [Bool.and_eq_true, decide_eq_true_eq]; exact h⟩
theorem barB_sums {f : Int → Bool} {n : Int} : barB .sums f n = true ↔ ∃ o p, 1 ≤ o ∧ o ≤ p ∧ o + p = n ∧ f o = true ∧ f p = true := by
  unfold barB
  rw [List.any_eq_true]
  constructor
  · rintro ⟨o, ho, h⟩
    rw [Bool.and_eq_true] at h
    have := rngI_mem.mp ho
    exact ⟨o, n - o, by omega, by omega, by omega, h.1, h.2⟩
  · rintro ⟨o, p, h1, h2, rfl, h3, h4⟩
    exact ⟨o, rngI_mem.mpr (by omega), by rw [Bool.and_eq_true, show o + p - o = p by omega]; exact ⟨h3, h4⟩⟩
/-- what is due at a number -/
def dueB (r : Rl) (bs : List Int) (f : Int → Bool) (n : Int) : Bool := if n ≤ la bs then decide (n ∈ bs) else !barB r f n
def IsRow (r : Rl) (bs : List Int) (f : Int → Bool) : Prop := ∀ n, 0 ≤ n → f n = dueB r bs f n
/-- shifts of a sequence that comes again -/
def PerF (f : Int → Bool) (l t : Int) : Prop := ∀ n, l ≤ n → f (n + t) = f n
theorem PerF.mul {f : Int → Bool} {l t : Int} (h : PerF f l t) (ht : 0 ≤ t) : ∀ (k : Nat) (n : Int), l ≤ n → f (n + k * t) = f n
  | 0, n, _ => by simp
  | k + 1, n, hn => by
    have := Int.mul_nonneg (show (0 : Int) ≤ k by omega) ht
    rw [show n + ((k + 1 : Nat) : Int) * t = (n + k * t) + t by rw [Int.natCast_add, Int.add_mul]; omega, h _ (by omega), PerF.mul h ht k n hn]
/-- a period from some number on -/
def Evt (f : Int → Bool) (t : Int) : Prop := ∃ N, PerF f N t
structure CycF (f : Int → Bool) (c T : Int) : Prop where
  c0 : 0 ≤ c
  T1 : 1 ≤ T
  per : PerF f c T
theorem CycF.evt {f : Int → Bool} {c T t : Int} (h : CycF f c T) (ht : 0 ≤ t) (he : Evt f t) : PerF f c t := by
  obtain ⟨N, hN⟩ := he
  intro n hn
  have hT := h.T1
  have p := h.per.mul (by omega)
  have e1 := p (N - c).toNat n hn
  have e2 := p (N - c).toNat (n + t) (by omega)
  have hk : N - c ≤ ((N - c).toNat : Int) * T := by
    rcases Int.lt_or_le (N - c) 0 with g | g
    · have := Int.mul_nonneg (show (0 : Int) ≤ ((N - c).toNat : Int) by omega) (show 0 ≤ T by omega)
      omega
    · have : ((N - c).toNat : Int) * 1 ≤ ((N - c).toNat : Int) * T := Int.mul_le_mul_of_nonneg_left hT (by omega)
      omega
  have e3 := hN (n + ((N - c).toNat : Int) * T) (by omega)
  rw [← e1, ← e2, ← e3]
  congr 1
  omega
/-- the least period, the least lead -/
structure LPer (f : Int → Bool) (l t : Int) : Prop where
  t1 : 1 ≤ t
  l0 : 0 ≤ l
  per : PerF f l t
  low : l = 0 ∨ f (l - 1 + t) ≠ f (l - 1)
  least : ∀ u, 1 ≤ u → Evt f u → t ≤ u
theorem LPer.bd {f : Int → Bool} {l t c T : Int} (h : LPer f l t) (hc : CycF f c T) : l ≤ c ∧ t ≤ T := by
  refine ⟨?_, h.least T hc.T1 ⟨c, hc.per⟩⟩
  rcases h.low with g | g
  · have := hc.c0; omega
  · refine Classical.byContradiction fun hno => g ?_
    exact hc.evt (by have := h.t1; omega) ⟨l, h.per⟩ (l - 1) (by omega)
/-- the paper of a row -/
def hdL (f : Int → Bool) (l : Int) : List Int := (rngI 0 l.toNat).filter f
def rsL (f : Int → Bool) (l t : Int) : List Int := (rngI l t.toNat).filter f
def inR (r : Rl) (bs : List Int) (n : Int) : Bool := decide (n ∈ rowL r bs (n.toNat + 1))
theorem row_inR {r : Rl} {bs : List Int} {N : Nat} {n : Int} : n ∈ rowL r bs N ↔ 0 ≤ n ∧ n < N ∧ inR r bs n = true := by
  unfold inR
  rw [decide_eq_true_eq]
  constructor
  · intro h
    have h1 := rowL_lt n h
    exact ⟨h1.1, h1.2, (rowL_in (m := N) (by omega)).mpr ⟨h, by omega⟩⟩
  · rintro ⟨h0, h1, h2⟩
    exact ((rowL_in (m := N) (by omega)).mp h2).1
theorem row_posN {r : Rl} {bs : List Int} (hB : Beg r bs) (e : r = .sums) {N : Nat} : ∀ x ∈ rowL r bs N, 1 ≤ x := fun x hx => by
  subst e
  have hp := hB.pos rfl
  obtain ⟨h1, h2, h3⟩ := rowL_mem.mp hx
  unfold rowT at h3
  rw [Bool.or_eq_true, Bool.and_eq_true, decide_eq_true_eq, decide_eq_true_eq] at h3
  rcases h3 with h3 | ⟨h3, _⟩
  · exact hp x h3
  · have := hB.la0; omega
theorem brd_barB {r : Rl} {bs : List Int} {n : Int} (hr : RlOk r) (hs : SG r) (hB : Beg r bs) (n0 : 0 ≤ n) : Brd r (rowL r bs n.toNat) n ↔ barB r (inR r bs) n = true := by
  cases r with
  | evens => exact hs.elim
  | pairs => exact hs.elim
  | sums =>
    rw [barB_sums]
    constructor
    · rintro ⟨w, x, y, rfl, hx, hy, hxy, e⟩
      exact ⟨x, y, row_posN hB rfl x hx, hxy, e.symm, (row_inR.mp hx).2.2, (row_inR.mp hy).2.2⟩
    · rintro ⟨x, y, h1, h2, h3, h4, h5⟩
      exact ⟨_, x, y, rfl, row_inR.mpr ⟨by omega, by omega, h4⟩, row_inR.mpr ⟨by omega, by omega, h5⟩, h2, h3.symm⟩
  | gaps ss =>
    rw [barB_gaps]
    constructor
    · rintro ⟨w, x, rfl, hx, hs⟩
      have h1 := row_inR.mp hx
      exact ⟨n - x, hs, by omega, by rw [show n - (n - x) = x by omega]; exact h1.2.2⟩
    · rintro ⟨s, h1, h2, h3⟩
      have := hr.bd s h1
      exact ⟨_, n - s, rfl, row_inR.mpr ⟨by omega, by omega, h3⟩, by rw [show n - (n - s) = s by omega]; exact h1⟩
theorem inR_row {r : Rl} {bs : List Int} (hr : RlOk r) (hs : SG r) (hB : Beg r bs) : IsRow r bs (inR r bs) := fun n n0 => by
  have e : inR r bs n = rowT r bs (rowL r bs n.toNat) n := by
    unfold inR
    rw [Bool.eq_iff_iff, decide_eq_true_eq, rowL_mem]
    exact ⟨fun h => h.2.2, fun h => ⟨by omega, n0, h⟩⟩
  rw [e]
  unfold dueB rowT
  by_cases g : n ≤ la bs
  · rw [if_pos g, decide_eq_false (show ¬ la bs < n by omega), Bool.false_and, Bool.or_false]
  · have hn : n ∉ bs := fun h => g (la_ge hB.pw h)
    rw [if_neg g, decide_eq_false hn, Bool.false_or, decide_eq_true (show la bs < n by omega), Bool.true_and, Bool.eq_iff_iff, decide_eq_true_eq, bars_nil rowL_pw, brd_barB hr hs hB n0, Bool.not_eq_true', Bool.not_eq_true]
abbrev truT (f : Int → Bool) (N : Nat) : T := .lst (((rngI 0 N).map f).map T.bl)
theorem tru_at {f : Int → Bool} {N : Nat} {j : Int} (h0 : 0 ≤ j) (h1 : j < N) : atI (((rngI 0 N).map f).map T.bl) j = some (.bl (f j)) := by
  rw [atI_bl h0 (by rw [List.length_map, rngI_len]; exact h1), List.getD_eq_getElem?_getD, List.getElem?_map]
  unfold rngI
  rw [List.getElem?_map, List.getElem?_range (by omega)]
  simp only [Option.map_some, Option.getD_some]
  congr 3
  omega
theorem tru_snoc {f : Int → Bool} {N : Nat} : ((rngI 0 N).map f).map T.bl ++ [T.bl (f N)] = ((rngI 0 (N + 1)).map f).map T.bl := by
  have e : rngI 0 (N + 1) = rngI 0 N ++ [(N : Int)] := by
    unfold rngI
    rw [List.range_succ, List.map_append, List.map_singleton, Int.zero_add]
  rw [e, List.map_append, List.map_append]
  rfl
def sp_is_barred_a : TSp := fun as PR PX => ∃ (r : Rl) (f : Int → Bool) (N : Nat) (n : Int), as = [fz (ruleT r), ag 1 (truT f N), fz (.int n)] ∧ RlOk r ∧ SG r ∧ 0 ≤ n ∧ n ≤ N ∧ N ≤ 1000000 ∧ PR (.val false (.bl (barB r f n))) [ruleT r, truT f N, .int n]
def rd_is_barred_a : TTS := ttSeq (ttIfS (ttB (ttBin (eqT) (ttIx (tv 0) (tk (.int 0))) (tk (.str "gaps")))) (ttRet (ttC1 anyT (ttLc (tiSeq (sf (ttIx (tv 0) (tk (.int 1))))) (tgN 4) (ttYes) (ttAndV (ttBin (leT) (tv 4) (tv 2)) (ttIx (tv 1) (ttBin subT (tv 2) (tv 4)))) [4]))) (ttNext))
  (ttRet (ttC1 anyT (ttLc (tiRng2 (tlcons (tk (.int 1)) (tlcons (ttBin addT (ttBin fdivT (tv 2) (tk (.int 2))) (tk (.int 1))) (tlnil)))) (tgN 3) (ttYes) (ttAndV (ttIx (tv 1) (tv 3)) (ttIx (tv 1) (ttBin subT (tv 2) (tv 3)))) [3])))
theorem ln_is_barred_a : ∀ as PR PX, sp_is_barred_a as PR PX → as.length = 3 := by
  rintro as PR PX ⟨r, f, N, n, rfl, _⟩
  rfl
theorem i_is_barred {r : Rl} {f : Int → Bool} {N : Nat} {n : Int} {PR : R → List T → Prop} {PX : String → List T → Prop} (hr : RlOk r) (hs : SG r) (n0 : 0 ≤ n) (h1 : n ≤ N) (h2 : N ≤ 1000000) (k : PR (.val false (.bl (barB r f n))) [ruleT r, truT f N, .int n]) :
    sp_is_barred_a [fz (ruleT r), ag 1 (truT f N), fz (.int n)] PR PX := ⟨r, f, N, n, rfl, hr, hs, n0, h1, h2, k⟩
theorem barB_any {f : Int → Bool} {n : Int} : (((rngI 1 (n / 2).toNat).map fun o => f o && f (n - o)).any _root_.id) = barB .sums f n := by
  unfold barB
  rw [List.any_map]
  rfl
theorem barB_anyG {ss : List Int} {f : Int → Bool} {n : Int} : ((ss.map fun s => decide (s ≤ n) && f (n - s)).any _root_.id) = barB (.gaps ss) f n := by
  unfold barB
  rw [List.any_map]
  rfl
theorem ok_is_barred_a : ∀ as PR PX, sp_is_barred_a as PR PX → rd_is_barred_a (endsT as PR) (startT 5 as) := by
  rintro as PR PX ⟨r, f, N, n, rfl, hr, hs, n0, h1, h2, k⟩
  have sz := sizeLine_val
  unfold rd_is_barred_a
  cases r with
  | evens => exact hs.elim
  | pairs => exact hs.elim
  | sums =>
    walk_at "tl"
    refine ⟨by decide, by omega, ?_⟩
    rw [show (n / 2 + 1 - 1) = n / 2 by omega, rngT_eq]
    refine lcT_mb (fun o => f o && f (n - o)) (by walk_at "fz") (by rw [rngI_len]; omega) (fun o ho => ?_) ?_
    · have := rngI_mem.mp ho
      walk_at "tl"
      refine ⟨_, tru_at (by omega) (by omega), ?_⟩
      walk_at "tl"
      refine cnd_b (fun g => ?_) (fun g => ?_)
      · walk_at "tl"
        refine ⟨_, tru_at (by omega) (by omega), ?_⟩
        rw [g, Bool.true_and]
      · walk_at "tl"
        rw [g, Bool.false_and]
    walk_at "tl"
    rw [barB_any]
    exact k
  | gaps ss =>
    walk_at "tl"
    refine lcT_mb (fun s => decide (s ≤ n) && f (n - s)) (by walk_at "fz") (by have := hr.l1; omega) (fun s hs => ?_) ?_
    · have := hr.bd s hs
      walk_at "tl"
      refine cnd_2 (fun g => ?_) (fun g => ?_)
      · walk_at "tl"
        refine ⟨_, tru_at (by omega) (by omega), ?_⟩
        rw [decide_eq_true g, Bool.true_and]
      · walk_at "tl"
        rw [decide_eq_false g, Bool.false_and]
    walk_at "tl"
    rw [barB_anyG]
    exact k
def sp_law_barred_by_a : TSp := sp_is_barred_a
def rd_law_barred_by_a : TTS := ttSeq (ttIfS (ttB (ttBin (eqT) (ttIx (tv 0) (tk (.int 0))) (tk (.str "sums")))) (ttSeq (ttSet 3 (ttLc (tiRng2 (tlcons (tk (.int 1)) (tlcons (ttBin addT (ttBin fdivT (tv 2) (tk (.int 2))) (tk (.int 1))) (tlnil)))) (tgN 4) (ttB (ttIx (tv 1) (tv 4))) (tv 4) [4]))
  (ttRet (ttC1 anyT (ttLc (tiSeq (sl 3)) (tgN 4) (ttYes) (ttIx (tv 1) (ttBin subT (tv 2) (tv 4))) [4])))) (ttNext))
  (ttRet (ttC1 anyT (ttLc (tiSeq (sf (ttIx (tv 0) (tk (.int 1))))) (tgN 5) (ttYes) (ttAndV (ttBin (leT) (tv 5) (tv 2)) (ttIx (tv 1) (ttBin subT (tv 2) (tv 5)))) [5])))
theorem ln_law_barred_by_a : ∀ as PR PX, sp_law_barred_by_a as PR PX → as.length = 3 := ln_is_barred_a
theorem i_barred_by {r : Rl} {f : Int → Bool} {N : Nat} {n : Int} {PR : R → List T → Prop} {PX : String → List T → Prop} (hr : RlOk r) (hs : SG r) (n0 : 0 ≤ n) (h1 : n ≤ N) (h2 : N ≤ 1000000) (k : PR (.val false (.bl (barB r f n))) [ruleT r, truT f N, .int n]) :
    sp_law_barred_by_a [fz (ruleT r), ag 1 (truT f N), fz (.int n)] PR PX := ⟨r, f, N, n, rfl, hr, hs, n0, h1, h2, k⟩
theorem barB_any2 {f : Int → Bool} {n : Int} : ((((rngI 1 (n / 2).toNat).filter f).map fun o => f (n - o)).any _root_.id) = barB .sums f n := by
  unfold barB
  rw [List.any_map, List.any_filter]
  rfl
theorem ok_law_barred_by_a : ∀ as PR PX, sp_law_barred_by_a as PR PX → rd_law_barred_by_a (endsT as PR) (startT 6 as) := by
  rintro as PR PX ⟨r, f, N, n, rfl, hr, hs, n0, h1, h2, k⟩
  have sz := sizeLine_val
  unfold rd_law_barred_by_a
  cases r with
  | evens => exact hs.elim
  | pairs => exact hs.elim
  | sums =>
    walk_at "tl"
    refine ⟨by decide, by omega, ?_⟩
    rw [show (n / 2 + 1 - 1) = n / 2 by omega, rngT_eq]
    refine lcT_fi f id (by walk_at "fz") (by rw [rngI_len]; omega) (fun o ho => ?_) ?_
    · have := rngI_mem.mp ho
      walk_at "tl"
      refine ⟨_, tru_at (by omega) (by omega), ?_⟩
      walk_at "tl"
      refine cnd_b (fun g => ?_) (fun g => ?_)
      · walk_at "tl"
        exact intF_y g
      · walk_at "tl"
        exact intF_n g
    rw [List.map_id]
    walk_at "tl"
    have hfl : ((rngI 1 (n / 2).toNat).filter f).length ≤ 1000000 := Nat.le_trans (List.length_filter_le _ _) (by rw [rngI_len]; omega)
    refine lcT_mb (fun o => f (n - o)) (by walk_at "fz") (by omega) (fun o ho => ?_) ?_
    · have := rngI_mem.mp (List.mem_filter.mp ho).1
      walk_at "tl"
      exact ⟨_, tru_at (by omega) (by omega), by walk_at "tl"⟩
    walk_at "tl"
    rw [barB_any2]
    exact k
  | gaps ss =>
    walk_at "tl"
    refine lcT_mb (fun s => decide (s ≤ n) && f (n - s)) (by walk_at "fz") (by have := hr.l1; omega) (fun s hs => ?_) ?_
    · have := hr.bd s hs
      walk_at "tl"
      refine cnd_2 (fun g => ?_) (fun g => ?_)
      · walk_at "tl"
        refine ⟨_, tru_at (by omega) (by omega), ?_⟩
        rw [decide_eq_true g, Bool.true_and]
      · walk_at "tl"
        rw [decide_eq_false g, Bool.false_and]
    walk_at "tl"
    rw [barB_anyG]
    exact k
def sp_law_there_a : TSp := fun as PR PX => ∃ (r : Rl) (bs : List Int) (N : Nat), as = [fz (ruleT r), fz (.tup (bs.map T.int)), fz (.int N)] ∧ RlOk r ∧ SG r ∧ Beg r bs ∧ N ≤ 100000 ∧ PR (.val true (truT (inR r bs) N)) [ruleT r, .tup (bs.map T.int), .int N]
def rd_law_there_a : TTS := ttSeq (ttSet 3 (ttLst (tlnil)))
  (ttSeq (ttFor (tiRng1 (tlcons (tv 2) (tlnil))) (tgN 4) (ttIfS (ttB (ttBin (leT) (tv 4) (ttIx (tv 1) (ttU negT (tk (.int 1)))))) (ttDrop (ttMut true 3 (tlcons (ttBin (inT false) (tv 4) (tv 1)) (tlnil)) appendG)) (ttDrop (ttMut true 3 (tlcons (ttNotV (ttCall sp_law_barred_by_a nox (taF (tv 0) (taV 3 (taF (tv 4) (taNil)))))) (tlnil)) appendG))))
  (ttRet (tv 3)))
theorem ln_law_there_a : ∀ as PR PX, sp_law_there_a as PR PX → as.length = 3 := by
  rintro as PR PX ⟨r, bs, N, rfl, _⟩
  rfl
theorem i_there {r : Rl} {bs : List Int} {N : Nat} {PR : R → List T → Prop} {PX : String → List T → Prop} (hr : RlOk r) (hs : SG r) (hB : Beg r bs) (h : N ≤ 100000) (k : PR (.val true (truT (inR r bs) N)) [ruleT r, .tup (bs.map T.int), .int N]) :
    sp_law_there_a [fz (ruleT r), fz (.tup (bs.map T.int)), fz (.int N)] PR PX := ⟨r, bs, N, rfl, hr, hs, hB, h, k⟩
theorem ok_law_there_a : ∀ as PR PX, sp_law_there_a as PR PX → rd_law_there_a (endsT as PR) (startT 5 as) := by
  rintro as PR PX ⟨r, bs, N, rfl, hr, hs, hB, hN, k⟩
  have sz := sizeLine_val
  have hrow := inR_row hr hs hB
  unfold rd_law_there_a
  walk_at "tl"
  refine ⟨by omega, by omega, ?_⟩
  refine forT_p (α := Nat × Option T) (fun x => [some (fz (ruleT r)), some (fz (.tup (bs.map T.int))), some (fz (.int N)), some ⟨.own, false, truT (inR r bs) x.1⟩, ofT x.2]) (fun i x => x.1 = i) (0, none) (by rfl) rfl (fun i t x ht hI => ?_) (fun x hI => ?_)
  · obtain ⟨j, o⟩ := x
    simp only at hI
    subst hI
    obtain ⟨hi, rfl⟩ := rngT_get ht
    have hd := hrow (j : Int) (by omega)
    unfold dueB at hd
    walk_at "tl"
    refine ⟨_, atI_laT hB.ne, ?_⟩
    walk_at "tl"
    have hl : (((rngI 0 j).map (inR r bs)).map T.bl).length + 1 ≤ sizeLine := by rw [List.length_map, List.length_map, rngI_len]; omega
    refine cnd_2 (fun g => ?_) (fun g => ?_)
    · walk_at "tl"
      rw [if_pos g] at hd
      refine ⟨hl, ⟨(j + 1, some (.int j)), ?_, rfl⟩⟩
      rw [← hd, tru_snoc]
      rfl
    · walk_at "tl"
      rw [if_neg g] at hd
      refine i_barred_by hr hs (by omega) (by omega) (by omega) ?_
      walk_at "tl"
      refine ⟨hl, ⟨(j + 1, some (.int j)), ?_, rfl⟩⟩
      rw [← hd, tru_snoc]
      rfl
  · obtain ⟨j, o⟩ := x
    rw [rngT_len] at hI
    simp only [Int.toNat_natCast] at hI
    subst hI
    walk_at "tl"
    exact k
/-- the paper of what is there -/
def papByS : TSp := fun as PR PX => ∃ (f : Int → Bool) (N : Nat) (l t : Int), as = [fz (truT f N), fz (.int l), fz (.int t)] ∧ 0 ≤ l ∧ 0 ≤ t ∧ l + t ≤ N ∧ N ≤ 1000000 ∧ PR (.val false (pap l t (hdL f l) (rsL f l t))) [truT f N, .int l, .int t]
def sp_law_paper_b : TSp := fun as PR PX => papByS as PR PX ∨ ∃ (f : Int → Bool) (N : Nat) (t : Int), as = [fz (truT f N), fz (.int (-1)), fz (.int t)] ∧ 0 ≤ t ∧ t ≤ N ∧ 0 < N ∧ N ≤ 1000000 ∧ ∀ rs : List Int, PR (.val false (pap (-1) t [] rs)) [truT f N, .int (-1), .int t]
def rd_law_paper_b : TTS := ttSeq (ttSet 3 (ttC1 tupleT (ttLc (tiRng1 (tlcons (tv 1) (tlnil))) (tgN 4) (ttB (ttIx (tv 0) (tv 4))) (tv 4) [4])))
  (ttRet (ttTup (tlcons (tv 1) (tlcons (tv 2) (tlcons (tv 3) (tlcons (ttC1 tupleT (ttLc (tiRng2 (tlcons (tv 1) (tlcons (ttBin addT (tv 1) (tv 2)) (tlnil)))) (tgN 4) (ttB (ttIx (tv 0) (tv 4))) (tv 4) [4])) (tlnil)))))))
theorem ln_papByS : ∀ as PR PX, papByS as PR PX → as.length = 3 := by
  rintro as PR PX ⟨f, N, l, t, rfl, _⟩
  rfl
theorem ln_law_paper_b : ∀ as PR PX, sp_law_paper_b as PR PX → as.length = 3 := by
  rintro as PR PX (h | ⟨f, N, t, rfl, _⟩)
  · exact ln_papByS as PR PX h
  · rfl
theorem tru_m1 {f : Int → Bool} {N : Nat} (h : 0 < N) : ∃ b : Bool, atI (((rngI 0 N).map f).map T.bl) (-1) = some (.bl b) := by
  have hl : (((rngI 0 N).map f).map T.bl).length = N := by rw [List.length_map, List.length_map, rngI_len]
  have hne : (((rngI 0 N).map f).map T.bl) ≠ [] := List.length_pos_iff.mp (by omega)
  obtain ⟨b, _, e⟩ := List.mem_map.mp (List.getLast_mem hne)
  exact ⟨b, by rw [atI_m1 hne, ← e]⟩
theorem i_law_paperR {f : Int → Bool} {N : Nat} {l t : Int} {PR : R → List T → Prop} {PX : String → List T → Prop} (l0 : 0 ≤ l) (t0 : 0 ≤ t) (h1 : l + t ≤ N) (h2 : N ≤ 1000000) (k : PR (.val false (pap l t (hdL f l) (rsL f l t))) [truT f N, .int l, .int t]) :
    sp_law_paper_b [fz (truT f N), fz (.int l), fz (.int t)] PR PX := .inl ⟨f, N, l, t, rfl, l0, t0, h1, h2, k⟩
theorem ok_law_paper_b : ∀ as PR PX, sp_law_paper_b as PR PX → rd_law_paper_b (endsT as PR) (startT 5 as) := by
  rintro as PR PX (⟨f, N, l, t, rfl, l0, t0, h1, h2, k⟩ | ⟨f, N, t, rfl, t0, h1, h0, h2, k⟩)
  rotate_left
  · have sz := sizeLine_val
    obtain ⟨b, hb⟩ := tru_m1 (f := f) h0
    unfold rd_law_paper_b
    walk_at "tl"
    refine lcT_p (fun _ => none) (by walk_at "fz") (Nat.zero_le _) (fun o ho => by cases ho) ?_
    first
      | rw [show List.filterMap (fun _ => (none : Option T)) (rngT 0 (-1 : Int).toNat) = [] from rfl]
      | rw [show List.filterMap (fun _ => (none : Option T)) (rngT 0 0) = [] from rfl]
    walk_at "tl"
    refine ⟨by omega, ?_⟩
    rw [rngT_eq, show -1 + t - -1 = t by omega]
    refine lcT_fi (xs := rngI (-1) t.toNat) (fun n => if n = -1 then b else f n) id (by walk_at "fz") (by rw [rngI_len]; omega) (fun o ho => ?_) ?_
    · have := rngI_mem.mp ho
      by_cases e : o = -1
      · subst e
        walk_at "tl"
        refine ⟨_, hb, ?_⟩
        walk_at "tl"
        refine cnd_b (fun g => ?_) (fun g => ?_)
        · walk_at "tl"
          exact intF_y (by rw [if_pos rfl]; exact g)
        · walk_at "tl"
          exact intF_n (by rw [if_pos rfl]; exact g)
      · walk_at "tl"
        refine ⟨_, tru_at (by omega) (by omega), ?_⟩
        walk_at "tl"
        refine cnd_b (fun g => ?_) (fun g => ?_)
        · walk_at "tl"
          exact intF_y (by rw [if_neg e]; exact g)
        · walk_at "tl"
          exact intF_n (by rw [if_neg e]; exact g)
    rw [List.map_id]
    walk_at "tl"
    exact ⟨by omega, k _⟩
  have sz := sizeLine_val
  unfold rd_law_paper_b
  walk_at "tl"
  refine ⟨by omega, ?_⟩
  rw [rngT_eq]
  refine lcT_fi f id (by walk_at "fz") (by rw [rngI_len]; omega) (fun o ho => ?_) ?_
  · have := rngI_mem.mp ho
    walk_at "tl"
    refine ⟨_, tru_at (by omega) (by omega), ?_⟩
    walk_at "tl"
    refine cnd_b (fun g => ?_) (fun g => ?_)
    · walk_at "tl"
      exact intF_y g
    · walk_at "tl"
      exact intF_n g
  rw [List.map_id]
  walk_at "tl"
  refine ⟨by omega, ?_⟩
  rw [rngT_eq, show l + t - l = t by omega]
  refine lcT_fi f id (by walk_at "fz") (by rw [rngI_len]; omega) (fun o ho => ?_) ?_
  · have := rngI_mem.mp ho
    walk_at "tl"
    refine ⟨_, tru_at (by omega) (by omega), ?_⟩
    walk_at "tl"
    refine cnd_b (fun g => ?_) (fun g => ?_)
    · walk_at "tl"
      exact intF_y g
    · walk_at "tl"
      exact intF_n g
  rw [List.map_id]
  walk_at "tl"
  exact ⟨by omega, k⟩
end Lib

namespace Lib
open PySem L2 TL
def bk (f : Int → Bool) (t : Int) : Nat → Nat
  | 0 => 0
  | m + 1 => if f m = f (m + t) then bk f t m else m + 1
theorem bk_s {f : Int → Bool} {t : Int} {m : Nat} : bk f t (m + 1) = if f m = f (m + t) then bk f t m else m + 1 := rfl
theorem bk_le {f : Int → Bool} {t : Int} : ∀ {m : Nat}, bk f t m ≤ m
  | 0 => Nat.le_refl _
  | m + 1 => by
    unfold bk
    split
    · exact Nat.le_succ_of_le bk_le
    · exact Nat.le_refl _
def sumF (f : Int → Bool) : Option Int := (rngI 1 60).find? fun t => decide (bk f t (400 - t).toNat ≤ 100)
def sumT (f : Int → Bool) : T := match sumF f with
  | some t => pap (bk f t (400 - t).toNat) t (hdL f (bk f t (400 - t).toNat)) (rsL f (bk f t (400 - t).toNat) t)
  | none => .non
def sp_law_back_a : TSp := fun as PR PX => ∃ (f : Int → Bool) (N : Nat) (t : Int), as = [fz (truT f N), fz (.int t)] ∧ 1 ≤ t ∧ t ≤ N ∧ N ≤ 100000 ∧ PR (.val false (.int (bk f t (N - t).toNat))) [truT f N, .int t]
def rd_law_back_a : TTS := ttSeq (ttSet 2 (ttBin subT (ttC1 lenT (tv 0)) (tv 1)))
  (ttSeq (ttWhile (ttAnd (ttB (ttBin (gtT) (tv 2) (tk (.int 0)))) (ttB (ttBin (eqT) (ttIx (tv 0) (ttBin subT (tv 2) (tk (.int 1)))) (ttIx (tv 0) (ttBin addT (ttBin subT (tv 2) (tk (.int 1))) (tv 1)))))) (ttSet 2 (ttBin subT (tv 2) (tk (.int 1)))))
  (ttRet (tv 2)))
theorem ln_law_back_a : ∀ as PR PX, sp_law_back_a as PR PX → as.length = 2 := by
  rintro as PR PX ⟨f, N, t, rfl, _⟩
  rfl
theorem i_back {f : Int → Bool} {N : Nat} {t : Int} {PR : R → List T → Prop} {PX : String → List T → Prop} (t1 : 1 ≤ t) (h1 : t ≤ N) (h2 : N ≤ 100000) (k : PR (.val false (.int (bk f t (N - t).toNat))) [truT f N, .int t]) : sp_law_back_a [fz (truT f N), fz (.int t)] PR PX := ⟨f, N, t, rfl, t1, h1, h2, k⟩
theorem ok_law_back_a : ∀ as PR PX, sp_law_back_a as PR PX → rd_law_back_a (endsT as PR) (startT 3 as) := by
  rintro as PR PX ⟨f, N, t, rfl, t1, h1, h2, k⟩
  unfold rd_law_back_a
  walk_at "tl"
  rw [List.length_map, List.length_map, rngI_len]
  refine while_b (α := Nat) (fun m => [some (fz (truT f N)), some (fz (.int t)), some (fz (.int m))]) (fun m => bk f t m = bk f t (N - t).toNat ∧ m ≤ (N - t).toNat) (fun m => m) (N - t).toNat ?_ ⟨rfl, Nat.le_refl _⟩ (fun m hm => ?_)
  · rw [Int.toNat_of_nonneg (by omega)]
  obtain ⟨hm, hml⟩ := hm
  walk_at "tl"
  refine cnd_2 (fun g => ?_) (fun g => ?_)
  rotate_left
  · walk_at "tl"
    have : m = 0 := by omega
    subst this
    rw [← hm] at k
    exact k
  obtain ⟨j, rfl⟩ : ∃ j, m = j + 1 := ⟨m - 1, by omega⟩
  rw [bk_s] at hm
  walk_at "tl"
  rw [show ((j + 1 : Nat) : Int) - 1 = j by omega]
  refine ⟨_, tru_at (by omega) (by omega), _, tru_at (by omega) (by omega), ?_⟩
  walk_at "tl"
  refine cnd_2 (fun q => ?_) (fun q => ?_)
  · rw [if_pos q] at hm
    walk_at "tl"
    exact ⟨j, by rw [show ((j + 1 : Nat) : Int) - 1 = j by omega], ⟨hm, by omega⟩, by omega⟩
  · rw [if_neg q] at hm
    walk_at "tl"
    rw [← hm] at k
    exact k
def sp_law_sum_paper_a : TSp := fun as PR PX => ∃ (bs : List Int), as = [fz (.tup (bs.map T.int))] ∧ Beg .sums bs ∧ PR (.val false (sumT (inR .sums bs))) [.tup (bs.map T.int)]
def rd_law_sum_paper_a : TTS := ttSeq (ttSet 1 (ttCall sp_law_there_a nox (taF (ttTup (tlcons (tk (.str "sums")) (tlnil))) (taF (tv 0) (taF (tk (.int 400)) (taNil))))))
  (ttSeq (ttFor (tiRng2 (tlcons (tk (.int 1)) (tlcons (tk (.int 61)) (tlnil)))) (tgN 2) (ttSeq (ttSet 3 (ttCall sp_law_back_a nox (taF (tv 1) (taF (tv 2) (taNil)))))
  (ttIfS (ttB (ttBin (leT) (tv 3) (tk (.int 100)))) (ttRet (ttCall sp_law_paper_b nox (taF (tv 1) (taF (tv 3) (taF (tv 2) (taNil)))))) (ttNext))))
  (ttRet (tk .non)))
theorem ln_law_sum_paper_a : ∀ as PR PX, sp_law_sum_paper_a as PR PX → as.length = 1 := by
  rintro as PR PX ⟨bs, rfl, _⟩
  rfl
theorem i_sum_paper {bs : List Int} {PR : R → List T → Prop} {PX : String → List T → Prop} (hB : Beg .sums bs) (k : PR (.val false (sumT (inR .sums bs))) [.tup (bs.map T.int)]) : sp_law_sum_paper_a [fz (.tup (bs.map T.int))] PR PX := ⟨bs, rfl, hB, k⟩
theorem find_rng {p : Int → Bool} {i : Nat} {N : Nat} (h : ∀ j : Nat, j < i → p (1 + j) = false) (hi : i < N) (hp : p (1 + i) = true) : (rngI 1 N).find? p = some (1 + i) := by
  refine find_yes (i := i) ?_ ?_ hp
  · rw [List.find?_eq_none]
    intro x hx
    obtain ⟨j, hj, e⟩ := List.mem_iff_getElem.mp hx
    rw [List.length_take] at hj
    have : x = 1 + (j : Int) := by
      rw [← e, List.getElem_take]
      unfold rngI
      simp
    rw [this, h j (by omega)]
    exact Bool.false_ne_true
  · unfold rngI
    simp [hi]
theorem find_rng0 {p : Int → Bool} {N : Nat} (h : ∀ j : Nat, j < N → p (1 + j) = false) : (rngI 1 N).find? p = none := by
  rw [List.find?_eq_none]
  intro x hx
  have := rngI_mem.mp hx
  have h := h (x - 1).toNat (by omega)
  rw [show 1 + ((x - 1).toNat : Int) = x by omega] at h
  rw [h]
  exact Bool.false_ne_true
theorem ok_law_sum_paper_a : ∀ as PR PX, sp_law_sum_paper_a as PR PX → rd_law_sum_paper_a (endsT as PR) (startT 4 as) := by
  rintro as PR PX ⟨bs, rfl, hB, k⟩
  unfold rd_law_sum_paper_a
  walk_at "tl"
  have sz := sizeLine_val
  refine ⟨by omega, i_there (r := .sums) (N := 400) trivial trivial hB (by omega) ?_⟩
  generalize inR .sums bs = f at *
  unfold sumT sumF at k
  walk_at "tl"
  refine forT_p (α := Bool × Option T × Option T) (fun (b, x2, x3) => [some (fz (.tup (bs.map T.int))), some ⟨if b = true then .own else .frz, false, truT f 400⟩, ofT x2, ofT x3]) (fun i _ => ∀ j : Nat, j < i → decide (bk f (1 + j) (400 - (1 + (j : Int))).toNat ≤ 100) = false) (true, none, none) rfl (fun j hj => by omega) (fun i y x ht hI => ?_) (fun x hI => ?_)
  · obtain ⟨b, x2, x3⟩ := x
    obtain ⟨hi, rfl⟩ := rngT_get ht
    have hi : i < 60 := by simpa using hi
    cases b
    all_goals
      walk_at "tl"
      refine i_back (N := 400) (by omega) (by omega) (by omega) ?_
      rw [show ((400 : Nat) : Int) = 400 from rfl]
      walk_at "tl"
      refine cnd_2 (fun g => ?_) (fun g => ?_)
      · rw [find_rng (p := fun t => decide (bk f t (400 - t).toNat ≤ 100)) hI hi (decide_eq_true (by omega))] at k
        have := bk_le (f := f) (t := 1 + (i : Int)) (m := (400 - (1 + (i : Int))).toNat)
        walk_at "tl"
        refine i_law_paperR (by omega) (by omega) (by omega) (by omega) ?_
        walk_at "tl"
        exact k
      · walk_at "tl"
        refine ⟨(false, some _, some _), rfl, fun j hj => ?_⟩
        by_cases e : j = i
        · rw [e]; exact decide_eq_false (by omega)
        · exact hI j (by omega)
  · obtain ⟨b, x2, x3⟩ := x
    rw [rngT_len] at hI
    rw [find_rng0 (p := fun t => decide (bk f t (400 - t).toNat ≤ 100)) fun j hj => hI j (by simpa using hj)] at k
    walk_at "tl"
    exact k
end Lib

namespace Lib
open PySem L2 TL
/-- what the told paper of sums is -/
theorem sumT_some {f : Int → Bool} {u : Int} (h : sumF f = some u) : sumT f = pap (bk f u (400 - u).toNat) u (hdL f (bk f u (400 - u).toNat)) (rsL f (bk f u (400 - u).toNat) u) ∧ 1 ≤ u ∧ u ≤ 60 ∧ bk f u (400 - u).toNat ≤ 100 := by
  have h2 := rngI_mem.mp (List.mem_of_find?_eq_some h)
  have h3 := List.find?_some h
  exact ⟨by unfold sumT; rw [h], h2.1, by omega, by simpa using h3⟩
theorem sumT_none {f : Int → Bool} (h : sumF f = none) : sumT f = .non := by unfold sumT; rw [h]
end Lib

namespace Lib
open PySem L2 TL
def sp_grown_a : TSp := sp_law_there_a
def rd_grown_a : TTS := ttSeq (ttSet 3 (ttLst (tlnil)))
  (ttSeq (ttFor (tiRng1 (tlcons (tv 2) (tlnil))) (tgN 4) (ttIfS (ttB (ttBin (leT) (tv 4) (ttIx (tv 1) (ttU negT (tk (.int 1)))))) (ttDrop (ttMut true 3 (tlcons (ttBin (inT false) (tv 4) (tv 1)) (tlnil)) appendG)) (ttDrop (ttMut true 3 (tlcons (ttNotV (ttCall sp_is_barred_a nox (taF (tv 0) (taV 3 (taF (tv 4) (taNil)))))) (tlnil)) appendG))))
  (ttRet (tv 3)))
theorem ln_grown_a : ∀ as PR PX, sp_grown_a as PR PX → as.length = 3 := ln_law_there_a
theorem i_grownR {r : Rl} {bs : List Int} {N : Nat} {PR : R → List T → Prop} {PX : String → List T → Prop} (hr : RlOk r) (hs : SG r) (hB : Beg r bs) (h : N ≤ 100000) (k : PR (.val true (truT (inR r bs) N)) [ruleT r, .tup (bs.map T.int), .int N]) :
    sp_grown_a [fz (ruleT r), fz (.tup (bs.map T.int)), fz (.int N)] PR PX := ⟨r, bs, N, rfl, hr, hs, hB, h, k⟩
theorem ok_grown_a : ∀ as PR PX, sp_grown_a as PR PX → rd_grown_a (endsT as PR) (startT 5 as) := by
  rintro as PR PX ⟨r, bs, N, rfl, hr, hs, hB, hN, k⟩
  have sz := sizeLine_val
  have hrow := inR_row hr hs hB
  unfold rd_grown_a
  walk_at "tl"
  refine ⟨by omega, by omega, ?_⟩
  refine forT_p (α := Nat × Option T) (fun x => [some (fz (ruleT r)), some (fz (.tup (bs.map T.int))), some (fz (.int N)), some ⟨.own, false, truT (inR r bs) x.1⟩, ofT x.2]) (fun i x => x.1 = i) (0, none) (by rfl) rfl (fun i t x ht hI => ?_) (fun x hI => ?_)
  · obtain ⟨j, o⟩ := x
    simp only at hI
    subst hI
    obtain ⟨hi, rfl⟩ := rngT_get ht
    have hd := hrow (j : Int) (by omega)
    unfold dueB at hd
    walk_at "tl"
    refine ⟨_, atI_laT hB.ne, ?_⟩
    walk_at "tl"
    have hl : (((rngI 0 j).map (inR r bs)).map T.bl).length + 1 ≤ sizeLine := by rw [List.length_map, List.length_map, rngI_len]; omega
    refine cnd_2 (fun g => ?_) (fun g => ?_)
    · walk_at "tl"
      rw [if_pos g] at hd
      refine ⟨hl, ⟨(j + 1, some (.int j)), ?_, rfl⟩⟩
      rw [← hd, tru_snoc]
      rfl
    · walk_at "tl"
      rw [if_neg g] at hd
      refine i_is_barred hr hs (by omega) (by omega) (by omega) ?_
      walk_at "tl"
      refine ⟨hl, ⟨(j + 1, some (.int j)), ?_, rfl⟩⟩
      rw [← hd, tru_snoc]
      rfl
  · obtain ⟨j, o⟩ := x
    rw [rngT_len] at hI
    simp only [Int.toNat_natCast] at hI
    subst hI
    walk_at "tl"
    exact k
def sp_least_lead_a : TSp := sp_law_back_a
def rd_least_lead_a : TTS := ttSeq (ttSet 2 (ttBin subT (ttC1 lenT (tv 0)) (tv 1)))
  (ttSeq (ttWhile (ttAnd (ttB (ttBin (gtT) (tv 2) (tk (.int 0)))) (ttB (ttBin (eqT) (ttIx (tv 0) (ttBin subT (tv 2) (tk (.int 1)))) (ttIx (tv 0) (ttBin addT (ttBin subT (tv 2) (tk (.int 1))) (tv 1)))))) (ttSet 2 (ttBin subT (tv 2) (tk (.int 1)))))
  (ttRet (tv 2)))
theorem ln_least_lead_a : ∀ as PR PX, sp_least_lead_a as PR PX → as.length = 2 := ln_law_back_a
theorem i_leastlead {f : Int → Bool} {N : Nat} {t : Int} {PR : R → List T → Prop} {PX : String → List T → Prop} (t1 : 1 ≤ t) (h1 : t ≤ N) (h2 : N ≤ 100000) (k : PR (.val false (.int (bk f t (N - t).toNat))) [truT f N, .int t]) : sp_least_lead_a [fz (truT f N), fz (.int t)] PR PX := ⟨f, N, t, rfl, t1, h1, h2, k⟩
theorem ok_least_lead_a : ∀ as PR PX, sp_least_lead_a as PR PX → rd_least_lead_a (endsT as PR) (startT 3 as) := by
  rintro as PR PX ⟨f, N, t, rfl, t1, h1, h2, k⟩
  unfold rd_least_lead_a
  walk_at "tl"
  rw [List.length_map, List.length_map, rngI_len]
  refine while_b (α := Nat) (fun m => [some (fz (truT f N)), some (fz (.int t)), some (fz (.int m))]) (fun m => bk f t m = bk f t (N - t).toNat ∧ m ≤ (N - t).toNat) (fun m => m) (N - t).toNat ?_ ⟨rfl, Nat.le_refl _⟩ (fun m hm => ?_)
  · rw [Int.toNat_of_nonneg (by omega)]
  obtain ⟨hm, hml⟩ := hm
  walk_at "tl"
  refine cnd_2 (fun g => ?_) (fun g => ?_)
  rotate_left
  · walk_at "tl"
    have : m = 0 := by omega
    subst this
    rw [← hm] at k
    exact k
  obtain ⟨j, rfl⟩ : ∃ j, m = j + 1 := ⟨m - 1, by omega⟩
  rw [bk_s] at hm
  walk_at "tl"
  rw [show ((j + 1 : Nat) : Int) - 1 = j by omega]
  refine ⟨_, tru_at (by omega) (by omega), _, tru_at (by omega) (by omega), ?_⟩
  walk_at "tl"
  refine cnd_2 (fun q => ?_) (fun q => ?_)
  · rw [if_pos q] at hm
    walk_at "tl"
    exact ⟨j, by rw [show ((j + 1 : Nat) : Int) - 1 = j by omega], ⟨hm, by omega⟩, by omega⟩
  · rw [if_neg q] at hm
    walk_at "tl"
    rw [← hm] at k
    exact k
def sp_paper_by_b : TSp := papByS
def rd_paper_by_b : TTS := ttSeq (ttSet 3 (ttLc (tiRng1 (tlcons (tv 1) (tlnil))) (tgN 5) (ttB (ttIx (tv 0) (tv 5))) (tv 5) [5]))
  (ttSeq (ttSet 4 (ttLc (tiRng2 (tlcons (tv 1) (tlcons (ttBin addT (tv 1) (tv 2)) (tlnil)))) (tgN 5) (ttB (ttIx (tv 0) (tv 5))) (tv 5) [5]))
  (ttRet (ttTup (tlcons (tv 1) (tlcons (tv 2) (tlcons (ttC1 tupleT (tv 3)) (tlcons (ttC1 tupleT (tv 4)) (tlnil))))))))
theorem ln_paper_by_b : ∀ as PR PX, sp_paper_by_b as PR PX → as.length = 3 := ln_papByS
theorem i_paper_byR {f : Int → Bool} {N : Nat} {l t : Int} {PR : R → List T → Prop} {PX : String → List T → Prop} (l0 : 0 ≤ l) (t0 : 0 ≤ t) (h1 : l + t ≤ N) (h2 : N ≤ 1000000) (k : PR (.val false (pap l t (hdL f l) (rsL f l t))) [truT f N, .int l, .int t]) :
    sp_paper_by_b [fz (truT f N), fz (.int l), fz (.int t)] PR PX := ⟨f, N, l, t, rfl, l0, t0, h1, h2, k⟩
theorem ok_paper_by_b : ∀ as PR PX, sp_paper_by_b as PR PX → rd_paper_by_b (endsT as PR) (startT 6 as) := by
  rintro as PR PX ⟨f, N, l, t, rfl, l0, t0, h1, h2, k⟩
  have sz := sizeLine_val
  unfold rd_paper_by_b
  walk_at "tl"
  refine ⟨by omega, ?_⟩
  rw [rngT_eq]
  refine lcT_fi f id (by walk_at "fz") (by rw [rngI_len]; omega) (fun o ho => ?_) ?_
  · have := rngI_mem.mp ho
    walk_at "tl"
    refine ⟨_, tru_at (by omega) (by omega), ?_⟩
    walk_at "tl"
    refine cnd_b (fun g => ?_) (fun g => ?_)
    · walk_at "tl"
      exact intF_y g
    · walk_at "tl"
      exact intF_n g
  rw [List.map_id]
  walk_at "tl"
  refine ⟨by omega, ?_⟩
  rw [rngT_eq, show l + t - l = t by omega]
  refine lcT_fi f id (by walk_at "fz") (by rw [rngI_len]; omega) (fun o ho => ?_) ?_
  · have := rngI_mem.mp ho
    walk_at "tl"
    refine ⟨_, tru_at (by omega) (by omega), ?_⟩
    walk_at "tl"
    refine cnd_b (fun g => ?_) (fun g => ?_)
    · walk_at "tl"
      exact intF_y g
    · walk_at "tl"
      exact intF_n g
  rw [List.map_id]
  walk_at "tl"
  exact ⟨by omega, k⟩
def sp_rounds_of_sums_a : TSp := sp_law_sum_paper_a
def rd_rounds_of_sums_a : TTS := ttSeq (ttSet 1 (ttCall sp_grown_a nox (taF (ttTup (tlcons (tk (.str "sums")) (tlnil))) (taF (tv 0) (taF (tk (.int 400)) (taNil))))))
  (ttSeq (ttFor (tiRng2 (tlcons (tk (.int 1)) (tlcons (ttBin addT (tk (.int 60)) (tk (.int 1))) (tlnil)))) (tgN 2) (ttSeq (ttSet 3 (ttCall sp_least_lead_a nox (taF (tv 1) (taF (tv 2) (taNil)))))
  (ttIfS (ttB (ttBin (leT) (tv 3) (tk (.int 100)))) (ttRet (ttCall sp_paper_by_b nox (taF (tv 1) (taF (tv 3) (taF (tv 2) (taNil)))))) (ttNext))))
  (ttRet (tk .non)))
theorem ln_rounds_of_sums_a : ∀ as PR PX, sp_rounds_of_sums_a as PR PX → as.length = 1 := ln_law_sum_paper_a
theorem i_rounds_of_sums {bs : List Int} {PR : R → List T → Prop} {PX : String → List T → Prop} (hB : Beg .sums bs) (k : PR (.val false (sumT (inR .sums bs))) [.tup (bs.map T.int)]) : sp_rounds_of_sums_a [fz (.tup (bs.map T.int))] PR PX := ⟨bs, rfl, hB, k⟩
theorem ok_rounds_of_sums_a : ∀ as PR PX, sp_rounds_of_sums_a as PR PX → rd_rounds_of_sums_a (endsT as PR) (startT 4 as) := by
  rintro as PR PX ⟨bs, rfl, hB, k⟩
  unfold rd_rounds_of_sums_a
  walk_at "tl"
  have sz := sizeLine_val
  refine ⟨by omega, i_grownR (r := .sums) (N := 400) trivial trivial hB (by omega) ?_⟩
  generalize inR .sums bs = f at *
  unfold sumT sumF at k
  walk_at "tl"
  refine forT_p (α := Bool × Option T × Option T) (fun (b, x2, x3) => [some (fz (.tup (bs.map T.int))), some ⟨if b = true then .own else .frz, false, truT f 400⟩, ofT x2, ofT x3]) (fun i _ => ∀ j : Nat, j < i → decide (bk f (1 + j) (400 - (1 + (j : Int))).toNat ≤ 100) = false) (true, none, none) rfl (fun j hj => by omega) (fun i y x ht hI => ?_) (fun x hI => ?_)
  · obtain ⟨b, x2, x3⟩ := x
    obtain ⟨hi, rfl⟩ := rngT_get ht
    have hi : i < 60 := by simpa using hi
    cases b
    all_goals
      walk_at "tl"
      refine i_leastlead (N := 400) (by omega) (by omega) (by omega) ?_
      rw [show ((400 : Nat) : Int) = 400 from rfl]
      walk_at "tl"
      refine cnd_2 (fun g => ?_) (fun g => ?_)
      · rw [find_rng (p := fun t => decide (bk f t (400 - t).toNat ≤ 100)) hI hi (decide_eq_true (by omega))] at k
        have := bk_le (f := f) (t := 1 + (i : Int)) (m := (400 - (1 + (i : Int))).toNat)
        walk_at "tl"
        refine i_paper_byR (by omega) (by omega) (by omega) (by omega) ?_
        walk_at "tl"
        exact k
      · walk_at "tl"
        refine ⟨(false, some _, some _), rfl, fun j hj => ?_⟩
        by_cases e : j = i
        · rw [e]; exact decide_eq_false (by omega)
        · exact hI j (by omega)
  · obtain ⟨b, x2, x3⟩ := x
    rw [rngT_len] at hI
    rw [find_rng0 (p := fun t => decide (bk f t (400 - t).toNat ≤ 100)) fun j hj => hI j (by simpa using hj)] at k
    walk_at "tl"
    exact k
end Lib

namespace Lib
open PySem L2 TL
def is3F : Nat → Nat → Bool
  | 0, _ => true
  | f + 1, n => if n = 0 then true else if n % 3 = 2 then false else is3F f (n / 3)
def is3 (n : Int) : Bool := is3F n.toNat n.toNat
def barIt (f : List Nat) (n m : Nat) : Nat := f.foldl (fun m x => m ||| 1 <<< (2 * n - x)) m
def grStep (bs : List Int) (z : Int) (s : List Nat × Nat) (n : Nat) : List Nat × Nat := if (decide ((n : Int) ∈ bs) || (decide (z < n) && !s.2.testBit n)) = true then (s.1 ++ [n], barIt s.1 n s.2) else s
def grFold (bs : List Int) (z : Int) (n : Nat) : List Nat × Nat := (List.range n).foldl (grStep bs z) ([], 0)
structure GrI (bs : List Int) (z : Int) (i : Nat) (ks : List Key) : Prop where
  km : ∀ q : Nat, kMem (Sum.inl (q : Int)) ks = (grFold bs z i).2.testBit q
  ln : ks.length ≤ 2000 * i
structure GrJ (bs : List Int) (z : Int) (i j : Nat) (ks : List Key) : Prop where
  km : ∀ q : Nat, kMem (Sum.inl (q : Int)) ks = (barIt ((grFold bs z i).1.take j) i (grFold bs z i).2).testBit q
  ln : ks.length ≤ 2000 * i + j
end Lib

namespace Lib
open PySem L2 TL
def thrN (n : Nat) : Nat := if h : n = 0 then 0 else n % 2 + 3 * thrN (n / 2)
termination_by n
decreasing_by omega
def thr (n : Int) : Int := thrN n.toNat
theorem thr_0 {n : Int} (h : n ≤ 0) : thr n = 0 := by
  unfold thr
  rw [show n.toNat = 0 by omega, thrN]
  rfl
theorem thr_s {n : Int} (h : 0 < n) : thr n = n % 2 + 3 * thr (n / 2) := by
  unfold thr
  rw [thrN, dif_neg (by omega), show (n / 2).toNat = n.toNat / 2 by omega]
  have : ((n.toNat % 2 : Nat) : Int) = n % 2 := by omega
  omega
structure Gd (c : Int) (ns : List Int) : Prop where
  c1 : 1 ≤ c
  z : ns[0]? = some 0
  pw : ns.Pairwise (· < ·)
  bd : ∀ x ∈ ns, 0 ≤ x ∧ x < c
  len : (ns.length : Int) ≤ c
  cov : ∀ r, 0 ≤ r → r < c → r ∉ ns → ∃ a ∈ ns, ∃ b ∈ ns, a < b ∧ (2 * b - a) % c = r
  apart : ∀ a ∈ ns, ∀ b ∈ ns, ∀ d ∈ ns, (a + d) % c = 2 * b % c → a = b ∧ d = b
end Lib

namespace Lib
open PySem L2 TL
abbrev tupP (p : Int × Int) : T := .tup [.int p.1, .int p.2]
def IsCov (c : Int) (ns : List Int) (r : Int) (p : Int × Int) : Prop := p.1 ∈ ns ∧ p.2 ∈ ns ∧ p.1 < p.2 ∧ (2 * p.2 - p.1) % c = r
def miss (c : Int) (ns : List Int) : List Int := (rngI 0 c.toNat).filter fun r => !decide (r ∈ ns)
def plcD (f c : Int) (ns : List Int) (p : Int) : Int := f + ns.getD (p % ns.length).toNat 0 + c * thr (p / ns.length)
structure PapOk (c : Int) (ns : List Int) : Prop where
  c0 : 0 < c
  c1 : c < 2 ^ 60
  l0 : 0 < ns.length
  l1 : ns.length ≤ 2000
end Lib

namespace Lib
open PySem L2 TL
structure PrI (c : Int) (ns : List Int) (ks : List Key) (ts : List T) : Prop where
  len : ks.length = ts.length
  ok : ∀ r t, dGetT ks ts (Sum.inl r) = some t → ∃ p, t = tupP p ∧ IsCov c ns r p
theorem miss_mem {c r : Int} {ns : List Int} (hc : 0 ≤ c) : r ∈ miss c ns ↔ 0 ≤ r ∧ r < c ∧ r ∉ ns := by
  unfold miss
  rw [List.mem_filter, rngI_mem, Int.zero_add, Int.toNat_of_nonneg hc, Bool.not_eq_true', decide_eq_false_iff_not, and_assoc]
--GR
end Lib

namespace Lib
open PySem L2 TL
theorem thr_even {t : Int} (h : 0 ≤ t) : thr (2 * t) = 3 * thr t := by
  rcases Int.lt_or_eq_of_le h with q | q
  · rw [thr_s (by omega), show 2 * t % 2 = 0 by omega, show 2 * t / 2 = t by omega]
    omega
  · rw [← q, thr_0 (by omega), thr_0 (by omega)]
    omega
theorem thr_odd {t : Int} (h : 0 ≤ t) : thr (2 * t + 1) = 3 * thr t + 1 := by
  rw [thr_s (by omega), show (2 * t + 1) % 2 = 1 by omega, show (2 * t + 1) / 2 = t by omega]
  omega
theorem thr_up : ∀ (k : Nat) (t : Int), 0 ≤ t → t ≤ k → thr t < thr (t + 1)
  | k, t, h0, hk => by
    obtain ⟨s, e⟩ : ∃ s, t = 2 * s ∨ t = 2 * s + 1 := ⟨t / 2, by omega⟩
    rcases e with e | e
    · subst e
      rw [thr_even (by omega), thr_odd (by omega)]
      omega
    · match k with
      | 0 => omega
      | k + 1 =>
        have ih := thr_up k s (by omega) (by omega)
        subst e
        rw [thr_odd (by omega), show 2 * s + 1 + 1 = 2 * (s + 1) by omega, thr_even (by omega)]
        omega
theorem thr_lt {t : Int} (h : 0 ≤ t) : thr t < thr (t + 1) := thr_up t.toNat t h (by omega)
def tbN (n : Nat) : Nat := if h : n = 0 then 0 else 2 * tbN (n / 3) + (if is3 ((n / 3 : Nat) : Int) = true then n % 3 else 0)
termination_by n
decreasing_by omega
def tb (n : Int) : Int := tbN n.toNat
theorem plc_split {f c : Int} {ns : List Int} {t j : Int} (hl : 0 < ns.length) (hj : 0 ≤ j) (hj2 : j < ns.length) : plcD f c ns (ns.length * t + j) = f + ns.getD j.toNat 0 + c * thr t := by
  unfold plcD
  rw [show ((ns.length : Int) * t + j) % ns.length = j by rw [Int.add_comm, Int.add_mul_emod_self_left, Int.emod_eq_of_lt hj hj2], show ((ns.length : Int) * t + j) / ns.length = t by rw [Int.add_comm, Int.add_mul_ediv_left _ _ (by omega), Int.ediv_eq_zero_of_lt hj hj2]; omega]
theorem pl_split (ns : List Int) (hl : 0 < ns.length) (p : Int) (hp : 0 ≤ p) : ∃ t j : Int, p = ns.length * t + j ∧ 0 ≤ t ∧ 0 ≤ j ∧ j < ns.length :=
  ⟨p / ns.length, p % ns.length, by rw [Int.mul_ediv_add_emod], Int.ediv_nonneg hp (by omega), Int.emod_nonneg _ (by omega), Int.emod_lt_of_pos _ (by omega)⟩
theorem Gd.l0 {c : Int} {ns : List Int} (h : Gd c ns) : 0 < ns.length := (List.getElem?_eq_some_iff.mp h.z).1
theorem Gd.g0 {c : Int} {ns : List Int} (h : Gd c ns) : ns.getD 0 0 = 0 := by rw [List.getD_eq_getElem?_getD, h.z]; rfl
theorem Gd.at_bd {c : Int} {ns : List Int} (h : Gd c ns) {j : Nat} (hj : j < ns.length) : 0 ≤ ns.getD j 0 ∧ ns.getD j 0 < c := by
  rw [List.getD_eq_getElem?_getD, List.getElem?_eq_getElem hj]
  exact h.bd _ (List.getElem_mem _)
theorem Gd.at_lt {c : Int} {ns : List Int} (h : Gd c ns) {i j : Nat} (hij : i < j) (hj : j < ns.length) : ns.getD i 0 < ns.getD j 0 := by
  rw [List.getD_eq_getElem?_getD, List.getElem?_eq_getElem (show i < ns.length by omega), List.getD_eq_getElem?_getD, List.getElem?_eq_getElem hj]
  exact List.pairwise_iff_getElem.mp h.pw i j (by omega) hj hij
theorem plc_lt {f c p : Int} {ns : List Int} (h : Gd c ns) (hp : 0 ≤ p) : plcD f c ns p < plcD f c ns (p + 1) := by
  obtain ⟨t, j, rfl, ht, hj, hj2⟩ := pl_split ns h.l0 p hp
  rw [plc_split h.l0 hj hj2]
  by_cases q : j + 1 < ns.length
  · rw [show (ns.length : Int) * t + j + 1 = ns.length * t + (j + 1) by omega, plc_split h.l0 (by omega) q]
    have := h.at_lt (i := j.toNat) (j := (j + 1).toNat) (by omega) (by omega)
    omega
  · rw [show (ns.length : Int) * t + j + 1 = ns.length * (t + 1) + 0 by rw [Int.mul_add]; omega, plc_split h.l0 (by omega) (by have := h.l0; omega), show (0 : Int).toNat = 0 from rfl, h.g0]
    have h1 := (h.at_bd (j := j.toNat) (by omega)).2
    have h2 := thr_lt ht
    have h3 : c * (thr t + 1) ≤ c * thr (t + 1) := Int.mul_le_mul_of_nonneg_left (by omega) (by have := h.c1; omega)
    rw [Int.mul_add] at h3
    omega
theorem plc_mono {f c p : Int} {ns : List Int} (h : Gd c ns) (hp : 0 ≤ p) : ∀ k : Nat, plcD f c ns p + k ≤ plcD f c ns (p + k)
  | 0 => by simp
  | k + 1 => by
    have h1 := plc_mono (f := f) h hp k
    have h2 := plc_lt (f := f) h (p := p + k) (by omega)
    rw [show p + ((k + 1 : Nat) : Int) = p + k + 1 by omega]
    omega
/-- the first place that is not below n -/
structure IsMany (f c : Int) (ns : List Int) (n p : Int) : Prop where
  p0 : 0 ≤ p
  ge : n ≤ plcD f c ns p
  lt : 0 < p → plcD f c ns (p - 1) < n
theorem IsMany.le {f c n p : Int} {ns : List Int} (h : Gd c ns) (h1 : IsMany f c ns n p) (hf : f ≤ n) : p ≤ n - f := by
  rcases Int.lt_or_eq_of_le h1.p0 with q | q
  · have a := h1.lt q
    have m := plc_mono (f := f) h (p := 0) (by omega) (p - 1).toNat
    rw [show 0 + ((p - 1).toNat : Int) = p - 1 by omega] at m
    have e : f ≤ plcD f c ns 0 := by
      have := plc_split (f := f) (c := c) (ns := ns) (t := 0) (j := 0) h.l0 (by omega) (by have := h.l0; omega)
      rw [show (ns.length : Int) * 0 + 0 = 0 by omega] at this
      rw [this, show (0 : Int).toNat = 0 from rfl, h.g0, thr_0 (by omega)]
      omega
    omega
  · omega
end Lib

namespace Lib
open PySem L2 TL
end Lib

namespace Lib
open PySem L2 TL
theorem Gd.ok {c : Int} {ns : List Int} (h : Gd c ns) (hc : c ≤ 2000) : PapOk c ns := by
  have h1 := h.c1
  have h2 := h.len
  have h3 := (List.getElem?_eq_some_iff.mp h.z).1
  exact ⟨by omega, by omega, h3, by omega⟩
end Lib

namespace Lib
open PySem L2 TL
theorem keep_map {r : Rl} {xs : List Int} {f : Int → Int} (hr : RlOk r) (hs : xs.Pairwise (· < ·)) (hf : ∀ a b, a < b → f a < f b) (hp : Pos r xs) (hq : Pos r (xs.map f)) (h : ∀ n, Brd r (xs.map f) (f n) ↔ Brd r xs n) : keepB r (xs.map f) = keepB r xs := by
  have hs' : (xs.map f).Pairwise (· < ·) := by rw [List.pairwise_map]; exact hs.imp fun q => hf _ _ q
  rw [Bool.eq_iff_iff, keep_all hs' hr hq, keep_all hs hr hp]
  constructor
  · exact fun q n hn hb => q _ (List.mem_map.mpr ⟨n, hn, rfl⟩) ((h n).mpr hb)
  · intro q n hn hb
    obtain ⟨m, hm, rfl⟩ := List.mem_map.mp hn
    exact q m hm ((h m).mp hb)
theorem Pos.non {r : Rl} {xs : List Int} (h : isS r = false) : Pos r xs := fun e => by rw [h] at e; cases e
theorem brd_move {r : Rl} {xs : List Int} {c n : Int} (h : isS r = false) : Brd r (xs.map fun x => x + c) (n + c) ↔ Brd r xs n := by
  have mm : ∀ y, y ∈ xs.map (fun x => x + c) ↔ y - c ∈ xs := fun y => by
    rw [List.mem_map]
    exact ⟨fun ⟨x, hx, e⟩ => by rw [← e, show x + c - c = x by omega]; exact hx, fun hx => ⟨_, hx, by omega⟩⟩
  have m2 : ∀ {x}, x ∈ xs → x + c ∈ xs.map (fun x => x + c) := fun hx => List.mem_map.mpr ⟨_, hx, rfl⟩
  unfold Brd
  cases r with
  | evens =>
    constructor
    · rintro ⟨w, x, y, rfl, hx, hy, hl, e⟩
      exact ⟨_, _, _, rfl, (mm x).mp hx, (mm y).mp hy, by omega, by omega⟩
    · rintro ⟨w, x, y, rfl, hx, hy, hl, e⟩
      exact ⟨_, _, _, rfl, m2 hx, m2 hy, by omega, by omega⟩
  | sums => cases h
  | pairs =>
    constructor
    · rintro ⟨w, x, y, z, rfl, hx, hy, hz, hl, h2, e⟩
      exact ⟨_, _, _, _, rfl, (mm x).mp hx, (mm y).mp hy, (mm z).mp hz, by omega, by omega, by omega⟩
    · rintro ⟨w, x, y, z, rfl, hx, hy, hz, hl, h2, e⟩
      exact ⟨_, _, _, _, rfl, m2 hx, m2 hy, m2 hz, by omega, by omega, by omega⟩
  | gaps ss =>
    constructor
    · rintro ⟨w, x, rfl, hx, e⟩
      exact ⟨_, _, rfl, (mm x).mp hx, by rw [show n - (x - c) = n + c - x by omega]; exact e⟩
    · rintro ⟨w, x, rfl, hx, e⟩
      exact ⟨_, _, rfl, m2 hx, by rw [show n + c - (x + c) = n - x by omega]; exact e⟩
theorem keep_move {r : Rl} {xs : List Int} {c : Int} (hr : RlOk r) (hs : xs.Pairwise (· < ·)) (h : isS r = false) : keepB r (xs.map fun x => x + c) = keepB r xs :=
  keep_map hr hs (fun a b q => by omega) (Pos.non h) (Pos.non h) fun n => brd_move h
end Lib

namespace Lib
open PySem L2 TL
abbrev mv (c : Int) (xs : List Int) : List Int := xs.map fun x => x + c
theorem mv_pw {c : Int} {xs : List Int} (h : xs.Pairwise (· < ·)) : (mv c xs).Pairwise (· < ·) := by
  unfold mv
  rw [List.pairwise_map]
  exact h.imp fun q => by omega
theorem Beg.mv {r : Rl} {bs : List Int} {c : Nat} (hr : RlOk r) (hS : isS r = false) (h : Beg r bs) (hc : la bs + c ≤ 60) : Beg r (Lib.mv c bs) := by
  refine ⟨by simpa [Lib.mv] using h.ne, mv_pw h.pw, fun x hx => ?_, Pos.non hS, by rw [List.length_map]; exact h.len, by rw [keep_move hr h.pw hS]; exact h.keep⟩
  obtain ⟨y, hy, rfl⟩ := List.mem_map.mp hx
  have := h.bd y hy
  have := la_ge h.pw hy
  omega
end Lib

namespace Lib
open PySem L2 TL
end Lib

namespace Lib
open PySem L2 TL
structure Ptd (n lo hi : Int) : Prop where
  l0 : 0 ≤ lo
  h0 : 0 ≤ hi
  le : lo ≤ hi
  e : 2 * hi - lo = n
  l3 : is3 lo = true
  h3 : is3 hi = true
  lt : is3 n = false → lo < hi
end Lib

namespace Lib
open PySem L2 TL
structure Ris (m : Int) (xs : List Int) : Prop where
  pw : xs.Pairwise (· < ·)
  ne : xs ≠ []
  bd : ∀ x ∈ xs, 0 ≤ x ∧ x ≤ m
theorem Ris.snoc {m n : Int} {xs : List Int} {x : Int} (h : Ris m xs) (h1 : m < x) (h2 : x ≤ n) (h0 : 0 ≤ x) : Ris n (xs ++ [x]) :=
  ⟨pw_snoc h.pw fun y hy => Int.lt_of_le_of_lt (h.bd y hy).2 h1, by simp, fun y hy => by
    rcases List.mem_append.mp hy with hy | hy
    · have := h.bd y hy
      omega
    · have := List.mem_singleton.mp hy
      omega⟩
theorem Ris.mono {m n : Int} {xs : List Int} (h : Ris m xs) (h1 : m ≤ n) : Ris n xs := ⟨h.pw, h.ne, fun y hy => ⟨(h.bd y hy).1, Int.le_trans (h.bd y hy).2 h1⟩⟩
/-- a drawn set keeps the rule of pairs -/
structure Gld (most : Int) (xs : List Int) : Prop where
  ne : xs ≠ []
  pw : xs.Pairwise (· < ·)
  len : (xs.length : Int) ≤ most
  keep : keepB .pairs xs = true
structure Gds (xs gs : List Int) : Prop where
  pw : xs.Pairwise (· < ·)
  keep : keepB .pairs xs = true
  sub : ∀ x ∈ xs, ∀ y ∈ xs, x < y → y - x ∈ gs
theorem Gds.snoc {xs gs : List Int} {n : Int} (h : Gds xs gs) (hn : ∀ x ∈ xs, x < n) (hg : ∀ x ∈ xs, n - x ∉ gs) : Gds (xs ++ [n]) (gs ++ xs.map fun x => n - x) := by
  refine ⟨List.pairwise_append.mpr ⟨h.pw, List.pairwise_singleton _ _, fun x hx y hy => ?_⟩, ?_, fun x hx y hy hlt => ?_⟩
  · rw [List.mem_singleton] at hy
    rw [hy]; exact hn x hx
  · rw [keep_snoc, h.keep, Bool.true_and, decide_eq_true_eq, bars_nil h.pw]
    rintro ⟨w, x, y, z, rfl, hx, hy, hz, hxy, hyz, e⟩
    refine hg z hz ?_
    rw [show n - z = y - x by omega]
    exact h.sub x hx y hy hxy
  · rw [List.mem_append, List.mem_singleton] at hx hy
    rcases hx with hx | rfl
    · rcases hy with hy | rfl
      · exact List.mem_append_left _ (h.sub x hx y hy hlt)
      · exact List.mem_append_right _ (List.mem_map.mpr ⟨x, hx, rfl⟩)
    · rcases hy with hy | rfl
      · have := hn y hy; omega
      · omega
end Lib

namespace Lib
open PySem L2 TL
end Lib

namespace Lib
open PySem L2 TL
def AptP (c : Int) (ns : List Int) : Prop := ∀ a ∈ ns, ∀ b ∈ ns, ∀ d ∈ ns, (a + d) % c = 2 * b % c → a = b ∧ d = b
instance {c : Int} {ns : List Int} : Decidable (AptP c ns) := by unfold AptP; infer_instance
def CovA (c : Int) (ns : List Int) : Prop := ∀ r ∈ miss c ns, ∃ a ∈ ns, ∃ b ∈ ns, a < b ∧ (2 * b - a) % c = r
theorem covA_iff {c : Int} {ns : List Int} (hc : 0 ≤ c) : CovA c ns ↔ ∀ r, 0 ≤ r → r < c → r ∉ ns → ∃ a ∈ ns, ∃ b ∈ ns, a < b ∧ (2 * b - a) % c = r :=
  ⟨fun h r h0 h1 h2 => h r ((miss_mem hc).mpr ⟨h0, h1, h2⟩), fun h r hr => by
    obtain ⟨h0, h1, h2⟩ := (miss_mem hc).mp hr
    exact h r h0 h1 h2⟩
end Lib

namespace Lib
open PySem L2 TL
structure Nms (c : Int) (ns : List Int) : Prop where
  c1 : 1 ≤ c
  z : ns[0]? = some 0
  pw : ns.Pairwise (· < ·)
  bd : ∀ x ∈ ns, 0 ≤ x ∧ x < c
theorem Nms.len {c : Int} {ns : List Int} (h : Nms c ns) : (ns.length : Int) ≤ c := by
  have h1 := rng_len (a := 0) (b := c) (h.pw.imp fun q => by omega) h.bd
  have := h.c1
  split at h1 <;> omega
theorem Nms.gd {c : Int} {ns : List Int} (h : Nms c ns) : Gd c ns ↔ AptP c ns ∧ CovA c ns := by
  have := h.c1
  exact ⟨fun q => ⟨q.apart, (covA_iff (by omega)).mpr q.cov⟩, fun ⟨q1, q2⟩ => ⟨h.c1, h.z, h.pw, h.bd, h.len, (covA_iff (by omega)).mp q2, q1⟩⟩
def nsOf (bs : List Int) (c : Int) : List Int := ((rowL .evens bs (bs.getD 0 0 + c).toNat).map fun x => x - bs.getD 0 0)
/-- the paper of a beginning's row: its round the least -/
structure PapOf (bs : List Int) (c : Int) : Prop where
  lo : la bs - bs.getD 0 0 < c
  hi : c ≤ 100
  gd : Gd c (nsOf bs c)
  least : ∀ d, la bs - bs.getD 0 0 < d → d < c → ¬Gd d (nsOf bs d)
end Lib

namespace Lib
open PySem L2 TL
end Lib

namespace Lib
open PySem L2 TL
structure Bad (r : Rl) (bs : List Int) : Prop where
  len : bs.length ≤ 2000
  bad : keepB r bs = false
def sp_need_beginning_ax : TSp := fun as PR PX => ∃ r xs, as = [fz (ruleT r), fz (.tup (xs.map T.int))] ∧ RlOk r ∧ xs.length ≤ 2000 ∧ (keepB r xs = true → PR (.val false .non) [ruleT r, .tup (xs.map T.int)]) ∧ (keepB r xs = false → PX "Broken" [ruleT r, .tup (xs.map T.int)])
def rd_need_beginning_ax (XT : String → TSt → Prop) : TTS := ttIfS (ttNot (ttB (ttCall sp_keeps_a nox (taF (tv 0) (taF (tv 1) (taNil)))))) (ttRaise "Broken" XT) (ttNext)
theorem ln_need_beginning_ax : ∀ as PR PX, sp_need_beginning_ax as PR PX → as.length = 2 := by
  rintro as PR PX ⟨r, xs, rfl, _⟩
  rfl
theorem ok_need_beginning_ax : ∀ as PR PX, sp_need_beginning_ax as PR PX → rd_need_beginning_ax (xtT as PX) (endsT as PR) (startT 2 as) := by
  rintro as PR PX ⟨r, xs, rfl, hr, hl, k1, k2⟩
  unfold rd_need_beginning_ax
  walk_at "tl"
  refine i_keeps hr hl ?_
  walk_at "tl"
  refine cnd_b (fun h => ?_) (fun h => ?_)
  · walk_at "tl"
    exact k1 h
  · walk_at "tl"
    exact k2 h
end Lib


namespace Lib
open PySem L2 TL
def sp_law_is_barred_a : TSp := fun as PR PX => ∃ (r : Rl) (xs : List Int) (n : Int), as = [fz (ruleT r), ag 1 (.lst (xs.map T.int)), fz (.int n)] ∧ RlOk r ∧ SG r ∧ xs.Pairwise (· < ·) ∧ xs.length ≤ 1000 ∧ PR (.val false (.bl (!decide (barsR r xs n = [])))) [ruleT r, .lst (xs.map T.int), .int n]
def rd_law_is_barred_a : TTS := ttSeq (ttIfS (ttB (ttBin (eqT) (ttIx (tv 0) (tk (.int 0))) (tk (.str "sums")))) (ttRet (ttC1 anyT (ttLc (tiSeq (sl 1)) (tgN 4) (ttYes) (ttBin (inT false) (ttBin subT (tv 2) (tv 4)) (tv 1)) [4]))) (ttNext))
  (ttRet (ttC1 anyT (ttLc (tiSeq (sf (ttIx (tv 0) (tk (.int 1))))) (tgN 3) (ttYes) (ttBin (inT false) (ttBin subT (tv 2) (tv 3)) (tv 1)) [3])))
theorem ln_law_is_barred_a : ∀ as PR PX, sp_law_is_barred_a as PR PX → as.length = 3 := by
  rintro as PR PX ⟨r, xs, n, rfl, _⟩
  rfl
theorem ok_law_is_barred_a : ∀ as PR PX, sp_law_is_barred_a as PR PX → rd_law_is_barred_a (endsT as PR) (startT 5 as) := by
  rintro as PR PX ⟨r, xs, n, rfl, hr, hs, hp, hl, k⟩
  have sz := sizeLine_val
  unfold rd_law_is_barred_a
  cases r with
  | evens => exact hs.elim
  | pairs => exact hs.elim
  | sums =>
    have e : ((xs.map fun o => decide (n - o ∈ xs)).any _root_.id) = !decide (barsR .sums xs n = []) := by
      rw [Bool.eq_iff_iff, Bool.not_eq_true', decide_eq_false_iff_not, bars_nil hp, Classical.not_not, List.any_map, List.any_eq_true]
      constructor
      · rintro ⟨x, hx, h⟩
        have h : n - x ∈ xs := by simpa using h
        rcases Int.le_total x (n - x) with g | g
        · exact ⟨_, x, n - x, rfl, hx, h, g, by omega⟩
        · exact ⟨_, n - x, x, rfl, h, hx, g, by omega⟩
      · rintro ⟨w, x, y, rfl, hx, hy, hxy, e⟩
        exact ⟨x, hx, by rw [Function.comp_apply, show n - x = y by omega]; simpa using hy⟩
    walk_at "tl"
    refine lcT_mb (fun o => decide (n - o ∈ xs)) (by walk_at "fz") (by omega) (fun o ho => ?_) ?_
    · walk_at "tl"
    walk_at "tl"
    rw [e]
    exact k
  | gaps ss =>
    have e : ((ss.map fun o => decide (n - o ∈ xs)).any _root_.id) = !decide (barsR (.gaps ss) xs n = []) := by
      rw [Bool.eq_iff_iff, Bool.not_eq_true', decide_eq_false_iff_not, bars_nil hp, Classical.not_not, List.any_map, List.any_eq_true]
      constructor
      · rintro ⟨s, hs, h⟩
        have h : n - s ∈ xs := by simpa using h
        exact ⟨_, n - s, rfl, h, by rw [show n - (n - s) = s by omega]; exact hs⟩
      · rintro ⟨w, x, rfl, hx, hs⟩
        exact ⟨n - x, hs, by rw [Function.comp_apply, show n - (n - x) = x by omega]; simpa using hx⟩
    walk_at "tl"
    refine lcT_mb (fun o => decide (n - o ∈ xs)) (by walk_at "fz") (by have := hr.l1; omega) (fun o ho => ?_) ?_
    · walk_at "tl"
    walk_at "tl"
    rw [e]
    exact k
theorem beg_snoc {r : Rl} {xs : List Int} {n : Int} (h : Beg r xs) (hl : xs.length < 12) (hn : ∀ x ∈ xs, x < n) (h6 : n ≤ 60) (hb : barsR r xs n = []) : Beg r (xs ++ [n]) := by
  have h0 : 0 ≤ n := by have := (h.bd _ (la_mem h.ne)).1; have := hn _ (la_mem h.ne); omega
  refine ⟨by simp, pw_snoc h.pw hn, fun x hx => ?_, fun e x hx => ?_, by simp; omega, by rw [keep_snoc, h.keep, decide_eq_true hb]; rfl⟩
  · rcases List.mem_append.mp hx with q | q
    · exact h.bd x q
    · rw [List.mem_singleton.mp q]; omega
  · rcases List.mem_append.mp hx with q | q
    · exact h.pos e x q
    · rw [List.mem_singleton.mp q]
      have := h.pos e _ (la_mem h.ne); have := hn _ (la_mem h.ne); omega
def sp_law_begin_c : TSp := fun as PR PX => ∃ (a b c : Int) (r : Rl), as = [plA a b c, fz (ruleT r)] ∧ RlOk r ∧ SG r ∧ ∀ bs a b c, Beg r bs → PR (.val false (.tup (bs.map T.int))) [pl a b c, ruleT r]
def rd_law_begin_c : TTS := ttSeq (ttSet 2 (ttBin addT (ttC1 intC (ttBin (eqT) (ttIx (tv 1) (tk (.int 0))) (tk (.str "sums")))) (ttCall sp_law_next_a nox (taV 0 (taF (ttIx (ttLst (tlcons (tk (.int 10)) (tlcons (tk (.int 30)) (tlcons (tk (.int 60)) (tlnil))))) (ttCall sp_law_next_a nox (taV 0 (taF (tk (.int 3)) (taNil))))) (taNil))))))
  (ttSeq (ttSet 3 (ttLst (tlcons (tv 2) (tlnil))))
  (ttSeq (ttSet 4 (ttBin addT (tk (.int 1)) (ttCall sp_law_next_a nox (taV 0 (taF (tk (.int 12)) (taNil))))))
  (ttSeq (ttFor (tiRng1 (tlcons (ttCall sp_law_next_a nox (taV 0 (taF (tk (.int 12)) (taNil)))) (tlnil))) (tgN 5) (ttSeq (ttSet 2 (ttBin addT (ttBin addT (tv 2) (tk (.int 1))) (ttCall sp_law_next_a nox (taV 0 (taF (tv 4) (taNil))))))
  (ttIfS (ttAnd (ttB (ttBin (leT) (tv 2) (tk (.int 60)))) (ttNot (ttB (ttCall sp_law_is_barred_a nox (taF (tv 1) (taV 3 (taF (tv 2) (taNil)))))))) (ttDrop (ttMut true 3 (tlcons (tv 2) (tlnil)) appendG)) (ttNext))))
  (ttRet (ttC1 tupleT (tv 3))))))
theorem ln_law_begin_c : ∀ as PR PX, sp_law_begin_c as PR PX → as.length = 2 := by
  rintro as PR PX ⟨a, b, c, r, rfl, _⟩
  rfl
theorem i_begin_c {a b c : Int} {r : Rl} {PR : R → List T → Prop} {PX : String → List T → Prop} (hr : RlOk r) (hs : SG r) (k : ∀ bs a b c, Beg r bs → PR (.val false (.tup (bs.map T.int))) [pl a b c, ruleT r]) : sp_law_begin_c [plA a b c, fz (ruleT r)] PR PX := ⟨a, b, c, r, rfl, hr, hs, k⟩
theorem ok_law_begin_c : ∀ as PR PX, sp_law_begin_c as PR PX → rd_law_begin_c (endsT as PR) (startT 6 as) := by
  rintro as PR PX ⟨a, b, c, r, rfl, hr, hs, k⟩
  have sz := sizeLine_val
  unfold rd_law_begin_c
  walk_at "g"
  refine ⟨by omega, i_next_a (by decide) (by decide) (fun d a b c d0 d1 => ?_)⟩
  walk_at "g"
  obtain ⟨w, hw, w0, w1⟩ := pickI (is := [10, 30, 60]) (p := fun n => 2 ≤ n ∧ n ≤ 60) d0 d1 (by decide)
  refine ⟨_, hw, i_next_a (by omega) (by omega) (fun e a b c e0 e1 => ?_)⟩
  walk_at "g"
  generalize hst : b2i (isS r) + e = st
  have hs0 : 0 ≤ st ∧ (isS r = true → 1 ≤ st) ∧ st ≤ 60 := by
    rw [← hst]
    unfold b2i
    cases isS r <;> simp <;> omega
  refine ⟨by omega, i_next_a (by decide) (by decide) (fun f a b c f0 f1 => ?_)⟩
  walk_at "tl"
  refine i_next_a (by decide) (by decide) (fun m a b c m0 m1 => ?_)
  walk_at "tl"
  refine ⟨by omega, ?_⟩
  refine forT_p (α := Int × Int × Int × Int × List Int × Option T) (fun (a, b, c, n, xs, x5) => [some (plA a b c), some (fz (ruleT r)), some (fz (.int n)), some ⟨.own, false, .lst (xs.map T.int)⟩, some (fz (.int (1 + f))), ofT x5]) (fun i (_, _, _, n, xs, _) => Beg r xs ∧ (∀ x ∈ xs, x ≤ n) ∧ xs.length ≤ i + 1) (a, b, c, st, [st], none) rfl
    ⟨⟨by simp, List.pairwise_singleton .., fun x hx => by rw [List.mem_singleton.mp hx]; omega, fun e x hx => by rw [List.mem_singleton.mp hx]; exact hs0.2.1 e, by simp, keep_one⟩, fun x hx => by rw [List.mem_singleton.mp hx]; exact Int.le_refl _, by simp⟩ (fun i t x ht hI => ?_) (fun x hI => ?_)
  · obtain ⟨a, b, c, n, xs, x5⟩ := x
    obtain ⟨h1, h2, h3⟩ := hI
    obtain ⟨hi, rfl⟩ := rngT_get ht
    have h3 : xs.length ≤ i + 1 := h3
    have h1l := h1.len
    walk_at "tl"
    refine i_next_a (by omega) (Int.lt_of_le_of_lt (show 1 + f ≤ 13 by omega) (by decide)) (fun d a b c d0 d1 => ?_)
    walk_at "tl"
    generalize hN : n + 1 + d = N
    refine cnd_2 (fun g => ?_) (fun g => ?_)
    · walk_at "tl"
      refine ⟨r, xs, N, rfl, hr, hs, h1.pw, by omega, ?_⟩
      walk_at "tl"
      refine cnd_2 (fun q => ?_) (fun q => ?_)
      · walk_at "tl"
        refine ⟨by rw [List.length_map]; omega, ⟨(a, b, c, N, xs ++ [N], some _), by rw [List.map_append]; rfl, ?_⟩⟩
        refine ⟨beg_snoc h1 (by omega) (fun x hx => by have := h2 x hx; omega) g q, fun x hx => ?_, by simp; omega⟩
        rcases List.mem_append.mp hx with z | z
        · show x ≤ N; have := h2 x z; omega
        · rw [List.mem_singleton.mp z]; exact Int.le_refl _
      · walk_at "tl"
        exact ⟨(a, b, c, N, xs, some _), rfl, h1, fun x hx => (show x ≤ N by have := h2 x hx; omega), Nat.le_succ_of_le h3⟩
    · walk_at "tl"
      exact ⟨(a, b, c, N, xs, some _), rfl, h1, fun x hx => (show x ≤ N by have := h2 x hx; omega), Nat.le_succ_of_le h3⟩
  · obtain ⟨a, b, c, n, xs, x5⟩ := x
    walk_at "tl"
    exact k xs _ _ _ hI.1
end Lib

namespace Lib
open PySem L2 TL
theorem ints_of : ∀ {ts : List T}, ts.all isIntT = true → ∃ xs : List Int, ts = xs.map T.int
  | [], _ => ⟨[], rfl⟩
  | t :: ts, h => by
    rw [List.all_cons, Bool.and_eq_true] at h
    obtain ⟨xs, rfl⟩ := ints_of h.2
    cases t with
    | int i => exact ⟨i :: xs, rfl⟩
    | _ => cases h.1
end Lib

namespace Lib
open PySem L2 TL
end Lib

namespace Lib
open PySem L2 TL
end Lib

namespace Lib
open PySem L2 TL
end Lib

namespace Lib
open PySem L2 TL
def sp_met_again_a : TSp := fun _ _ _ => False
def rd_met_again_a : TTS := ttSeq (ttSet 2 (ttIx (ttIx (tv 0) (tk (.int 1))) (ttU negT (tk (.int 1)))))
  (ttSeq (ttSet 3 (ttCall sp_grown_a nox (taF (tv 0) (taF (tv 1) (taF (ttBin addT (ttBin addT (ttIx (tv 1) (ttU negT (tk (.int 1)))) (tk (.int 1))) (tv 2)) (taNil))))))
  (ttSeq (ttSet 4 (ttDictB))
  (ttSeq (ttSet 5 (ttC1 tupleT (ttSl (tv 3) (toS (ttU negT (tv 2))) (toN))))
  (ttSeq (ttWhile (ttB (ttBin (inB true) (tv 5) (tv 4))) (ttSeq (ttSetIxB 4 (ttC1 lenT (tv 3)) (tv 5))
  (ttSeq (ttDrop (ttMut true 3 (tlcons (ttNotV (ttCall sp_is_barred_a nox (taF (tv 0) (taV 3 (taF (ttC1 lenT (tv 3)) (taNil)))))) (tlnil)) appendG))
  (ttSet 5 (ttC1 tupleT (ttSl (tv 3) (toS (ttU negT (tv 2))) (toN)))))))
  (ttRet (ttTup (tlcons (tv 3) (tlcons (ttBin subT (ttC1 lenT (tv 3)) (ttIxB (tv 4) (tv 5))) (tlnil)))))))))
theorem ln_met_again_a : ∀ as PR PX, sp_met_again_a as PR PX → as.length = 2 := fun _ _ _ h => h.elim
theorem ok_met_again_a : ∀ as PR PX, sp_met_again_a as PR PX → rd_met_again_a (endsT as PR) (startT 6 as) := fun _ _ _ h => h.elim
def sp_rounds_of_gaps_a : TSp := fun _ _ _ => False
def rd_rounds_of_gaps_a : TTS := ttSeq (ttAsg (ttCall sp_met_again_a nox (taF (tv 0) (taF (tv 1) (taNil)))) (tgTup 2 (tgsCons (tgN 2) (tgsCons (tgN 5) (tgsNil)))))
  (ttSeq (ttSet 2 (ttCall sp_grown_a nox (taF (tv 0) (taF (tv 1) (taF (ttBin addT (ttC1 lenT (tv 2)) (tv 5)) (taNil))))))
  (ttSeq (ttSet 3 (ttSl (tv 2) (toS (ttU negT (tv 5))) (toN)))
  (ttSeq (ttSet 4 (ttC1 minLT (ttLc (tiRng2 (tlcons (tk (.int 1)) (tlcons (ttBin addT (tv 5) (tk (.int 1))) (tlnil)))) (tgN 6) (ttAnd (ttB (ttBin (eqT) (ttBin modT (tv 5) (tv 6)) (tk (.int 0)))) (ttB (ttBin (eqT) (tv 3) (ttBin addT (ttSl (tv 3) (toS (tv 6)) (toN)) (ttSl (tv 3) (toN) (toS (tv 6))))))) (tv 6) [6])))
  (ttRet (ttCall sp_paper_by_b nox (taF (tv 2) (taF (ttCall sp_least_lead_a nox (taF (tv 2) (taF (tv 4) (taNil)))) (taF (tv 4) (taNil)))))))))
theorem ln_rounds_of_gaps_a : ∀ as PR PX, sp_rounds_of_gaps_a as PR PX → as.length = 2 := fun _ _ _ h => h.elim
theorem ok_rounds_of_gaps_a : ∀ as PR PX, sp_rounds_of_gaps_a as PR PX → rd_rounds_of_gaps_a (endsT as PR) (startT 7 as) := fun _ _ _ h => h.elim
def sp_rounds_ax : TSp := fun as PR PX => ∃ xs : List Int, as = [fz (ruleT .sums), fz (.tup (xs.map T.int))] ∧ xs.length ≤ 2000 ∧ (Beg .sums xs ∧ PR (.val false (sumT (inR .sums xs))) [ruleT .sums, .tup (xs.map T.int)] ∨ keepB .sums xs = false ∧ PX "Broken" [ruleT .sums, .tup (xs.map T.int)])
def rd_rounds_ax (XT : String → TSt → Prop) : TTS := ttSeq (ttDrop (ttCall sp_need_beginning_ax XT (taF (tv 0) (taF (tv 1) (taNil)))))
  (ttSeq (ttIfS (ttB (ttBin (eqT) (ttIx (tv 0) (tk (.int 0))) (tk (.str "gaps")))) (ttRet (ttCall sp_rounds_of_gaps_a nox (taF (tv 0) (taF (tv 1) (taNil))))) (ttNext))
  (ttRet (ttCall sp_rounds_of_sums_a nox (taF (tv 1) (taNil)))))
theorem ln_rounds_ax : ∀ as PR PX, sp_rounds_ax as PR PX → as.length = 2 := by
  rintro as PR PX ⟨xs, rfl, _⟩
  rfl
theorem i_rounds_x {xs : List Int} {PR : R → List T → Prop} {PX : String → List T → Prop} (hB : Beg .sums xs) (k : PR (.val false (sumT (inR .sums xs))) [ruleT .sums, .tup (xs.map T.int)]) : sp_rounds_ax [fz (ruleT .sums), fz (.tup (xs.map T.int))] PR PX := ⟨xs, rfl, by have := hB.len; omega, .inl ⟨hB, k⟩⟩
theorem ok_rounds_ax : ∀ as PR PX, sp_rounds_ax as PR PX → rd_rounds_ax (xtT as PX) (endsT as PR) (startT 2 as) := by
  rintro as PR PX ⟨xs, rfl, hl, h⟩
  unfold rd_rounds_ax
  walk_at "tl"
  refine ⟨.sums, xs, rfl, trivial, hl, fun hk => ?_, fun hk => ?_⟩
  · rcases h with ⟨hB, k⟩ | ⟨hb, _⟩
    · walk_at "tl"
      refine i_rounds_of_sums hB ?_
      walk_at "tl"
      exact k
    · rw [hk] at hb; cases hb
  · rcases h with ⟨hB, _⟩ | ⟨_, k⟩
    · rw [hB.keep] at hk; cases hk
    · walk_at "tl"
      exact k
def sp_law_refused_b : TSp := fun as PR PX => ∃ xs : List Int, as = [fz (.tup (xs.map T.int))] ∧ xs.length ≤ 2000 ∧ keepB .sums xs = false ∧ PR (.val false (.bl true)) [.tup (xs.map T.int)]
def rd_law_refused_b : TTS := ttSeq (ttSet 1 (tk (.bl false)))
  (ttSeq (ttTry 2 ["Broken"] (fun XT => ttDrop (ttCall sp_rounds_ax XT (taF (ttTup (tlcons (tk (.str "sums")) (tlnil))) (taF (tv 0) (taNil)))))
  (fun c ev => ttSet 1 (ttAndV (ttIsE 2 ev (isSub c ["Broken"])) (ttAndV (ttIsE 2 ev (isSub c ["ValueError"])) (ttNotV (ttIsE 2 ev (isSub c ["NoPaper"])))))))
  (ttRet (tv 1)))
theorem ln_law_refused_b : ∀ as PR PX, sp_law_refused_b as PR PX → as.length = 1 := by
  rintro as PR PX ⟨xs, rfl, _⟩
  rfl
theorem ok_law_refused_b : ∀ as PR PX, sp_law_refused_b as PR PX → rd_law_refused_b (endsT as PR) (startT 3 as) := by
  rintro as PR PX ⟨xs, rfl, hl, hk, k⟩
  have sz := sizeLine_val
  unfold rd_law_refused_b
  walk_at "tl"
  refine ⟨by omega, ⟨xs, rfl, hl, .inr ⟨hk, ?_⟩⟩⟩
  walk_at "tl"
  refine tryX_i (by decide) fun a => ?_
  walk_at "tl"
  refine cndB_t (by decide) ?_
  walk_at "tl"
  refine cndB_t (by decide) ?_
  walk_at "tl"
  rw [show isSub "Broken" ["NoPaper"] = false by decide]
  exact k
def sp_law_right_c : TSp := fun as PR PX => ∃ f : Int → Bool, as = [fz (sumT f), fz (sumT f)] ∧ PR (.val false (.bl true)) [sumT f, sumT f]
def rd_law_right_c : TTS := ttSeq (ttIfS (ttOr (ttB (ttBin (isT false) (tv 0) (tk .non))) (ttB (ttBin (isT false) (tv 1) (tk .non)))) (ttRet (ttAndV (ttBin (isT false) (tv 0) (tk .non)) (ttBin (isT false) (tv 1) (tk .non)))) (ttNext))
  (ttSeq (ttIfS (ttOr (ttNot (ttB (ttIsi "tuple" (tv 0)))) (ttOr (ttB (ttBin (neT) (ttC1 lenT (tv 0)) (tk (.int 4)))) (ttB (ttBin (neT) (tv 0) (tv 1))))) (ttRet (tk (.bl false))) (ttNext))
  (ttSeq (ttSet 2 (ttBin addT (ttBin addT (ttLst (tlcons (ttIx (tv 0) (tk (.int 0))) (tlcons (ttIx (tv 0) (tk (.int 1))) (tlnil)))) (ttC1 listT (ttIx (tv 0) (tk (.int 2))))) (ttC1 listT (ttIx (tv 0) (tk (.int 3))))))
  (ttRet (ttC1 allT (ttLc (tiSeq (sl 2)) (tgN 3) (ttYes) (ttCall sp_law_sound_a nox (taF (tv 3) (taNil))) [3])))))
theorem ln_law_right_c : ∀ as PR PX, sp_law_right_c as PR PX → as.length = 2 := by
  rintro as PR PX ⟨f, rfl, _⟩
  rfl
theorem eo_papR {l t : Int} {h r : List Int} : eqOk (pap l t h r) = true := (ok1_tup (d := 1) fun t ht => by
  simp only [List.mem_cons, List.not_mem_nil, or_false] at ht
  rcases ht with rfl | rfl | rfl | rfl
  · exact ok1_int
  · exact ok1_int
  · exact ok1_tup ok1_ints
  · exact ok1_tup ok1_ints).eqOk (by decide)
theorem ok_law_right_c : ∀ as PR PX, sp_law_right_c as PR PX → rd_law_right_c (endsT as PR) (startT 4 as) := by
  rintro as PR PX ⟨f, rfl, k⟩
  have sz := sizeLine_val
  unfold rd_law_right_c
  cases e : sumF f with
  | none =>
    rw [sumT_none e] at k ⊢
    walk_at "tl"
    exact k
  | some u =>
    obtain ⟨e2, u1, u2, u3⟩ := sumT_some e
    have w1 : (hdL f (bk f u (400 - u).toNat)).length ≤ (bk f u (400 - u).toNat : Int).toNat := Nat.le_trans (List.length_filter_le _ _) (by rw [rngI_len]; omega)
    have w2 : (rsL f (bk f u (400 - u).toNat) u).length ≤ u.toNat := Nat.le_trans (List.length_filter_le _ _) (by rw [rngI_len]; omega)
    rw [e2] at k ⊢
    generalize hdL f _ = hd at *
    generalize rsL f _ u = rs at *
    generalize bk f u (400 - u).toNat = L at *
    walk_at "tl"
    refine cnd_T (by rfl) ?_
    walk_at "tl"
    rw [q_ne_self eo_papR]
    walk_at "tl"
    have e3 : T.int ↑L :: T.int u :: (hd.map T.int ++ rs.map T.int) = ((L : Int) :: u :: (hd ++ rs)).map T.int := by simp
    rw [List.length_map, List.length_map, e3]
    have hlen : ((L : Int) :: u :: (hd ++ rs)).length ≤ 1000 := by simp only [List.length_cons, List.length_append]; omega
    generalize (L : Int) :: u :: (hd ++ rs) = zs at *
    refine ⟨by omega, by omega, by omega, ?_⟩
    refine lcT_mb (fun _ => true) (by walk_at "fz") (by omega) (fun x _ => ?_) ?_
    · walk_at "tl"
      refine ⟨x, rfl, ?_⟩
      walk_at "tl"
    walk_at "tl"
    rw [show ((zs.map fun _ => true).all _root_.id) = true by simp]
    exact k
theorem eo_sumT {f : Int → Bool} : eqOk (sumT f) = true := by
  unfold sumT
  split
  · exact eo_papR
  · exact eo_non
theorem keep_sum {xs : List Int} {x y : Int} (hp : xs.Pairwise (· < ·)) (x1 : 1 ≤ x) (y1 : 1 ≤ y) (hx : x ∈ xs) (hy : y ∈ xs) (hz : x + y ∈ xs) : keepB .sums xs = false := by
  obtain ⟨i, hi, e⟩ := List.mem_iff_getElem.mp hz
  have hg : xs[i]? = some (x + y) := by rw [List.getElem?_eq_getElem hi, e]
  refine keep_take hp hi ?_
  rw [show xs.getD i 0 = x + y by rw [List.getD_eq_getElem?_getD, hg]; rfl]
  have mx : x ∈ xs.take i := (sorted_take hp hg).mpr ⟨hx, by omega⟩
  have my : y ∈ xs.take i := (sorted_take hp hg).mpr ⟨hy, by omega⟩
  rcases Int.le_total x y with g | g
  · exact ⟨_, x, y, rfl, mx, my, g, rfl⟩
  · exact ⟨_, y, x, rfl, my, mx, g, by omega⟩
def sp_law_k47 : TSp := fun as PR PX => ∃ ns : List Int, as = [fz (.scr ns)] ∧ ns.length ≤ 63 ∧ ∀ ts, PR (.val false (.bl true)) ts
def rd_law_k47 : TTS := ttSeq (ttFor (tiSeq (sf (ttBin addT (ttLst (tlcons (tk (.int 0)) (tlnil))) (ttSl (tv 0) (toN) (toS (tk (.int 6))))))) (tgN 1) (ttSeq (ttSet 2 (ttCall sp_law_pool_a nox (taF (tv 1) (taNil))))
  (ttSeq (ttSet 3 (ttCall sp_law_begin_c nox (taV 2 (taF (ttTup (tlcons (tk (.str "sums")) (tlnil))) (taNil)))))
  (ttSeq (ttSet 4 (ttCall sp_law_sum_paper_a nox (taF (tv 3) (taNil))))
  (ttSeq (ttIfS (ttOr (ttNot (ttB (ttCall sp_law_right_c nox (taF (ttCall sp_rounds_ax nox (taF (ttTup (tlcons (tk (.str "sums")) (tlnil))) (taF (tv 3) (taNil)))) (taF (tv 4) (taNil)))))) (ttB (ttBin (neT) (ttCall sp_rounds_ax nox (taF (ttTup (tlcons (tk (.str "sums")) (tlnil))) (taF (tv 3) (taNil)))) (tv 4)))) (ttRet (tk (.bl false))) (ttNext))
  (ttSeq (ttSet 5 (ttBin addT (tk (.int 1)) (ttCall sp_law_next_a nox (taV 2 (taF (tk (.int 30)) (taNil))))))
  (ttSeq (ttSet 6 (ttBin addT (tk (.int 1)) (ttCall sp_law_next_a nox (taV 2 (taF (tk (.int 30)) (taNil))))))
  (ttSeq (ttSet 7 (ttBin addT (ttLc (tiRng1 (tlcons (ttCall sp_law_next_a nox (taV 2 (taF (tk (.int 10)) (taNil)))) (tlnil))) (tgN 8) (ttYes) (ttBin addT (tk (.int 1)) (ttCall sp_law_next_a nox (taV 2 (taF (tk (.int 60)) (taNil))))) [8]) (ttLst (tlcons (tv 5) (tlcons (tv 6) (tlcons (ttBin addT (tv 5) (tv 6)) (tlnil)))))))
  (ttIfS (ttNot (ttB (ttCall sp_law_refused_b nox (taF (ttC1 tupleT (ttC1 sortSetA (tv 7))) (taNil))))) (ttRet (tk (.bl false))) (ttNext))))))))))
  (ttRet (tk (.bl true)))
theorem ln_law_k47 : ∀ as PR PX, sp_law_k47 as PR PX → as.length = 1 := by
  rintro as PR PX ⟨ns, rfl, _⟩
  rfl
theorem top_law_k47 (ns : List Int) (h : ns.length ≤ 63) : sp_law_k47 [⟨.frz, false, .scr ns⟩] (fun r _ => r = .val false (.bl true)) fun _ _ => False := ⟨ns, rfl, h, fun _ => rfl⟩
theorem ok_law_k47 : ∀ as PR PX, sp_law_k47 as PR PX → rd_law_k47 (endsT as PR) (startT 9 as) := by
  rintro as PR PX ⟨ns, rfl, hn, k⟩
  have sz := sizeLine_val
  unfold rd_law_k47
  walk_at "tl"
  refine ⟨by omega, by have := cut_len (xs := ns.map T.int) (lo := none) (hi := some 6); rw [List.length_map] at this; omega, ?_⟩
  refine forT_p (α := Option T × Option T × Option T × Option T × Option T × Option T × Option T) (fun (x1, x2, x3, x4, x5, x6, x7) => [some (fz (.scr ns)), ofT x1, ofO x2, ofT x3, ofT x4, ofT x5, ofT x6, ofO x7, none]) (fun _ _ => True) (none, none, none, none, none, none, none) rfl trivial (fun i t x ht _ => ?_) (fun x _ => ?_)
  rotate_left
  · obtain ⟨x1, x2, x3, x4, x5, x6, x7⟩ := x
    walk_at "tl"
    exact k _
  obtain ⟨x1, x2, x3, x4, x5, x6, x7⟩ := x
  obtain ⟨n, rfl⟩ := cells_mem (List.mem_of_getElem? ht)
  walk_at "tl"
  refine i_pool_a fun a b c => ?_
  walk_at "tl"
  walk_at "z"
  refine i_begin_c (r := .sums) trivial trivial fun bs a b c hB => ?_
  walk_at "tl"
  refine i_sum_paper hB ?_
  walk_at "tl"
  walk_at "z"
  refine i_rounds_x hB ?_
  walk_at "tl"
  refine ⟨_, rfl, ?_⟩
  walk_at "tl"
  walk_at "z"
  refine i_rounds_x hB ?_
  walk_at "tl"
  rw [q_ne_self eo_sumT]
  walk_at "tl"
  refine i_next_a (by decide) (by decide) (fun d1 a b c e0 e1 => ?_)
  walk_at "tl"
  refine i_next_a (by decide) (by decide) (fun d2 a b c f0 f1 => ?_)
  walk_at "tl"
  refine i_next_a (by decide) (by decide) (fun m a b c m0 m1 => ?_)
  walk_at "tl"
  refine ⟨by omega, ?_⟩
  refine lcT_f (α := Int × Int × Int) (fun (a, b, c) => [some (fz (.scr ns)), some (fz (.int n)), some ⟨.own, false, pl a b c⟩, some (fz (.tup (bs.map T.int))), some (fz (sumT (inR .sums bs))), some (fz (.int (1 + d1))), some (fz (.int (1 + d2))), ofO x7, none])
      (fun i acc _ => ∃ xs : List Int, acc = xs.map T.int ∧ xs.length = i) (a, b, c) (by walk_at "fz") rfl ⟨[], rfl, rfl⟩ (fun i x acc y hx hI => ?_) (fun acc y hI => ?_)
  · obtain ⟨a, b, c⟩ := y
    obtain ⟨hi, rfl⟩ := rngT_get hx
    obtain ⟨xs, rfl, hxl⟩ := hI
    walk_at "tl"
    refine i_next_a (by decide) (by decide) (fun d a b c e0 e1 => ?_)
    walk_at "tl"
    exact ⟨by rw [List.length_map]; omega, (a, b, c), rfl, xs ++ [1 + d], by rw [List.map_append]; rfl, by simp [hxl]⟩
  obtain ⟨a, b, c⟩ := y
  obtain ⟨xs, rfl, hxl⟩ := hI
  rw [rngT_len] at hxl
  walk_at "tl"
  have e3 : xs.map T.int ++ [T.int (1 + d1), T.int (1 + d2), T.int (1 + d1 + (1 + d2))] = (xs ++ [1 + d1, 1 + d2, 1 + d1 + (1 + d2)]).map T.int := by simp
  rw [List.length_map, e3, q_sortSetA1]
  refine ⟨by omega, by omega, by simp only [List.length_append, List.length_cons, List.length_nil]; omega, fun ms hms hmm => ?_⟩
  walk_at "tl"
  have hml := nodup_len (l := ms) (m := xs ++ [1 + d1, 1 + d2, 1 + d1 + (1 + d2)]) (hms.imp fun h => Int.ne_of_lt h) fun x hx => (hmm x).mp hx
  simp only [List.length_append, List.length_cons, List.length_nil] at hml
  have hk := keep_sum (x := 1 + d1) (y := 1 + d2) hms (by omega) (by omega) ((hmm _).mpr (by simp)) ((hmm _).mpr (by simp)) ((hmm _).mpr (by simp))
  refine ⟨ms, rfl, by omega, hk, ?_⟩
  walk_at "tl"
  exact ⟨(some _, some _, some _, some _, some _, some _, some _), rfl⟩
end Lib

namespace Wk
open PySem PySem.Spec PyProof.Rows L2 TL Lib
def topS (i : Nat) : Stmt := PySem.Challenge.pw_shungrow_k47_papers_of_sums_told.main.body.getD i (.Pass ⟨0, 0, 0, 0⟩)
abbrev Cs : List String := ["Broken"]
structure Bi (K : PySem.W.Frag) (mg : Str → Option Value) (cls : String → Addr) : Prop where
  x_Broken : ExF K mg cls "Broken" "Broken"
  x_NoPaper : ExG K mg cls "NoPaper" "NoPaper"
  q_Broken : ∀ c, Cs.contains c = true → PySem.W.kitOne K (.ref (cls c)) (.ref (cls "Broken")) = some (isSub c ["Broken"])
  q_NoPaper : ∀ c, Cs.contains c = true → PySem.W.kitOne K (.ref (cls c)) (.ref (cls "NoPaper")) = some (isSub c ["NoPaper"])
  q_ValueError : ∀ c, Cs.contains c = true → PySem.W.kitOne K (.ref (cls c)) (.type "ValueError") = some (isSub c ["ValueError"])
  xc : ∀ c, Cs.contains c = true → ExcC K (cls c)
  hx : ∀ c, Cs.contains c = true → PySem.W.exmOne K (.ref (cls c)) (.ref (cls "ShunError")) = some true
  gS : mg "ShunError" = some (.ref (cls "ShunError"))
  b_ValueError : mg "ValueError" = none
  b_all : mg "all" = none
  b_any : mg "any" = none
  b_bool : mg "bool" = none
  b_enumerate : mg "enumerate" = none
  b_int : mg "int" = none
  b_isinstance : mg "isinstance" = none
  b_len : mg "len" = none
  b_list : mg "list" = none
  b_max : mg "max" = none
  b_min : mg "min" = none
  b_range : mg "range" = none
  b_set : mg "set" = none
  b_sorted : mg "sorted" = none
  b_tuple : mg "tuple" = none
  g_FAR : ∃ v u, mg "FAR" = some u ∧ RelV v u ∧ ∀ F, Rep K F (.int 400) v
  g_MOST_LEAD : ∃ v u, mg "MOST_LEAD" = some u ∧ RelV v u ∧ ∀ F, Rep K F (.int 100) v
  g_MOST_TURN : ∃ v u, mg "MOST_TURN" = some u ∧ RelV v u ∧ ∀ F, Rep K F (.int 60) v
abbrev s_law_pool_a : Stmt := topS 27
abbrev N_law_pool_a : List Str := ["cell"]
theorem sc_law_pool_a : FnScope N_law_pool_a ["cell"] (defScope s_law_pool_a) := ⟨rfl, rfl, rfl, by decide +kernel, rfl, by decide +kernel, by decide +kernel⟩
abbrev s_law_next_a : Stmt := topS 28
abbrev N_law_next_a : List Str := ["pool", "base", "mixed", "stir", "digit"]
theorem sc_law_next_a : FnScope N_law_next_a ["pool", "base"] (defScope s_law_next_a) := ⟨rfl, rfl, rfl, by decide +kernel, rfl, by decide +kernel, by decide +kernel⟩
abbrev s_law_is_barred_a : Stmt := topS 30
abbrev N_law_is_barred_a : List Str := ["rule", "some", "number", "step", "one"]
theorem sc_law_is_barred_a : FnScope N_law_is_barred_a ["rule", "some", "number"] (defScope s_law_is_barred_a) := ⟨rfl, rfl, rfl, by decide +kernel, rfl, by decide +kernel, by decide +kernel⟩
abbrev s_law_begin_c : Stmt := topS 31
abbrev N_law_begin_c : List Str := ["pool", "rule", "number", "found", "far", "turn"]
theorem sc_law_begin_c : FnScope N_law_begin_c ["pool", "rule"] (defScope s_law_begin_c) := ⟨rfl, rfl, rfl, by decide +kernel, rfl, by decide +kernel, by decide +kernel⟩
abbrev s_law_barred_by_a : Stmt := topS 36
abbrev N_law_barred_by_a : List Str := ["rule", "there", "number", "pairs", "one", "step"]
theorem sc_law_barred_by_a : FnScope N_law_barred_by_a ["rule", "there", "number"] (defScope s_law_barred_by_a) := ⟨rfl, rfl, rfl, by decide +kernel, rfl, by decide +kernel, by decide +kernel⟩
abbrev s_law_there_a : Stmt := topS 32
abbrev N_law_there_a : List Str := ["rule", "begin", "bound", "found", "number"]
theorem sc_law_there_a : FnScope N_law_there_a ["rule", "begin", "bound"] (defScope s_law_there_a) := ⟨rfl, rfl, rfl, by decide +kernel, rfl, by decide +kernel, by decide +kernel⟩
abbrev s_law_back_a : Stmt := topS 34
abbrev N_law_back_a : List Str := ["there", "turn", "lead"]
theorem sc_law_back_a : FnScope N_law_back_a ["there", "turn"] (defScope s_law_back_a) := ⟨rfl, rfl, rfl, by decide +kernel, rfl, by decide +kernel, by decide +kernel⟩
abbrev s_law_paper_b : Stmt := topS 33
abbrev N_law_paper_b : List Str := ["there", "lead", "turn", "head", "number"]
theorem sc_law_paper_b : FnScope N_law_paper_b ["there", "lead", "turn"] (defScope s_law_paper_b) := ⟨rfl, rfl, rfl, by decide +kernel, rfl, by decide +kernel, by decide +kernel⟩
abbrev s_law_sum_paper_a : Stmt := topS 35
abbrev N_law_sum_paper_a : List Str := ["begin", "there", "turn", "lead"]
theorem sc_law_sum_paper_a : FnScope N_law_sum_paper_a ["begin"] (defScope s_law_sum_paper_a) := ⟨rfl, rfl, rfl, by decide +kernel, rfl, by decide +kernel, by decide +kernel⟩
abbrev s_even_bars_a : Stmt := topS 1
abbrev N_even_bars_a : List Str := ["some", "number", "found", "y"]
theorem sc_even_bars_a : FnScope N_even_bars_a ["some", "number"] (defScope s_even_bars_a) := ⟨rfl, rfl, rfl, by decide +kernel, rfl, by decide +kernel, by decide +kernel⟩
abbrev s_sum_bars_a : Stmt := topS 2
abbrev N_sum_bars_a : List Str := ["some", "number", "x"]
theorem sc_sum_bars_a : FnScope N_sum_bars_a ["some", "number"] (defScope s_sum_bars_a) := ⟨rfl, rfl, rfl, by decide +kernel, rfl, by decide +kernel, by decide +kernel⟩
abbrev s_pair_bars_a : Stmt := topS 3
abbrev N_pair_bars_a : List Str := ["some", "number", "found", "at", "y", "x"]
theorem sc_pair_bars_a : FnScope N_pair_bars_a ["some", "number"] (defScope s_pair_bars_a) := ⟨rfl, rfl, rfl, by decide +kernel, rfl, by decide +kernel, by decide +kernel⟩
abbrev s_all_bars_a : Stmt := topS 4
abbrev N_all_bars_a : List Str := ["rule", "some", "number", "step"]
theorem sc_all_bars_a : FnScope N_all_bars_a ["rule", "some", "number"] (defScope s_all_bars_a) := ⟨rfl, rfl, rfl, by decide +kernel, rfl, by decide +kernel, by decide +kernel⟩
abbrev s_bar_a : Stmt := topS 5
abbrev N_bar_a : List Str := ["rule", "some", "number", "found"]
theorem sc_bar_a : FnScope N_bar_a ["rule", "some", "number"] (defScope s_bar_a) := ⟨rfl, rfl, rfl, by decide +kernel, rfl, by decide +kernel, by decide +kernel⟩
abbrev s_break_of_a : Stmt := topS 6
abbrev N_break_of_a : List Str := ["rule", "some", "place", "number", "found"]
theorem sc_break_of_a : FnScope N_break_of_a ["rule", "some"] (defScope s_break_of_a) := ⟨rfl, rfl, rfl, by decide +kernel, rfl, by decide +kernel, by decide +kernel⟩
abbrev s_keeps_a : Stmt := topS 7
abbrev N_keeps_a : List Str := ["rule", "some"]
theorem sc_keeps_a : FnScope N_keeps_a ["rule", "some"] (defScope s_keeps_a) := ⟨rfl, rfl, rfl, by decide +kernel, rfl, by decide +kernel, by decide +kernel⟩
abbrev s_need_beginning_ax : Stmt := topS 13
abbrev N_need_beginning_ax : List Str := ["rule", "begin"]
theorem sc_need_beginning_ax : FnScope N_need_beginning_ax ["rule", "begin"] (defScope s_need_beginning_ax) := ⟨rfl, rfl, rfl, by decide +kernel, rfl, by decide +kernel, by decide +kernel⟩
abbrev s_is_barred_a : Stmt := topS 18
abbrev N_is_barred_a : List Str := ["rule", "there", "number", "one", "step"]
theorem sc_is_barred_a : FnScope N_is_barred_a ["rule", "there", "number"] (defScope s_is_barred_a) := ⟨rfl, rfl, rfl, by decide +kernel, rfl, by decide +kernel, by decide +kernel⟩
abbrev s_grown_a : Stmt := topS 19
abbrev N_grown_a : List Str := ["rule", "begin", "bound", "there", "number"]
theorem sc_grown_a : FnScope N_grown_a ["rule", "begin", "bound"] (defScope s_grown_a) := ⟨rfl, rfl, rfl, by decide +kernel, rfl, by decide +kernel, by decide +kernel⟩
abbrev s_least_lead_a : Stmt := topS 20
abbrev N_least_lead_a : List Str := ["there", "turn", "lead"]
theorem sc_least_lead_a : FnScope N_least_lead_a ["there", "turn"] (defScope s_least_lead_a) := ⟨rfl, rfl, rfl, by decide +kernel, rfl, by decide +kernel, by decide +kernel⟩
abbrev s_paper_by_b : Stmt := topS 21
abbrev N_paper_by_b : List Str := ["there", "lead", "turn", "head", "rests", "number"]
theorem sc_paper_by_b : FnScope N_paper_by_b ["there", "lead", "turn"] (defScope s_paper_by_b) := ⟨rfl, rfl, rfl, by decide +kernel, rfl, by decide +kernel, by decide +kernel⟩
abbrev s_rounds_of_sums_a : Stmt := topS 24
abbrev N_rounds_of_sums_a : List Str := ["begin", "there", "turn", "lead"]
theorem sc_rounds_of_sums_a : FnScope N_rounds_of_sums_a ["begin"] (defScope s_rounds_of_sums_a) := ⟨rfl, rfl, rfl, by decide +kernel, rfl, by decide +kernel, by decide +kernel⟩
abbrev s_met_again_a : Stmt := topS 22
abbrev N_met_again_a : List Str := ["rule", "begin", "most", "there", "known", "window"]
theorem sc_met_again_a : FnScope N_met_again_a ["rule", "begin"] (defScope s_met_again_a) := ⟨rfl, rfl, rfl, by decide +kernel, rfl, by decide +kernel, by decide +kernel⟩
abbrev s_rounds_of_gaps_a : Stmt := topS 23
abbrev N_rounds_of_gaps_a : List Str := ["rule", "begin", "there", "last", "turn", "far", "part"]
theorem sc_rounds_of_gaps_a : FnScope N_rounds_of_gaps_a ["rule", "begin"] (defScope s_rounds_of_gaps_a) := ⟨rfl, rfl, rfl, by decide +kernel, rfl, by decide +kernel, by decide +kernel⟩
abbrev s_rounds_ax : Stmt := topS 25
abbrev N_rounds_ax : List Str := ["rule", "begin"]
theorem sc_rounds_ax : FnScope N_rounds_ax ["rule", "begin"] (defScope s_rounds_ax) := ⟨rfl, rfl, rfl, by decide +kernel, rfl, by decide +kernel, by decide +kernel⟩
abbrev s_law_refused_b : Stmt := topS 37
abbrev N_law_refused_b : List Str := ["begin", "found", "e"]
theorem sc_law_refused_b : FnScope N_law_refused_b ["begin"] (defScope s_law_refused_b) := ⟨rfl, rfl, rfl, by decide +kernel, rfl, by decide +kernel, by decide +kernel⟩
abbrev s_law_sound_a : Stmt := topS 29
abbrev N_law_sound_a : List Str := ["thing"]
theorem sc_law_sound_a : FnScope N_law_sound_a ["thing"] (defScope s_law_sound_a) := ⟨rfl, rfl, rfl, by decide +kernel, rfl, by decide +kernel, by decide +kernel⟩
abbrev s_law_right_c : Stmt := topS 38
abbrev N_law_right_c : List Str := ["found", "due", "some", "number"]
theorem sc_law_right_c : FnScope N_law_right_c ["found", "due"] (defScope s_law_right_c) := ⟨rfl, rfl, rfl, by decide +kernel, rfl, by decide +kernel, by decide +kernel⟩
abbrev s_law_k47 : Stmt := topS 39
abbrev N_law_k47 : List Str := ["script", "cell", "pool", "begin", "due", "one", "other", "more", "turn"]
theorem sc_law_k47 : FnScope N_law_k47 ["script"] (defScope s_law_k47) := ⟨rfl, rfl, rfl, by decide +kernel, rfl, by decide +kernel, by decide +kernel⟩
section
variable {P : Program} {w : World} {K : PySem.W.Frag} {mg : Str → Option Value} {base : Heap} {cls : String → Addr} {f : Addr} {fd : FuncData}
theorem fn_law_pool_a (Fn : Fun K "_law_pool" "_law_pool" s_law_pool_a f fd) (Z : Bi K mg cls) : FnOk P w K mg base CX0 1 f fd ["cell"] (liftSp K cls sp_law_pool_a) := by
  have nd := sc_law_pool_a.nd
  refine def0 (N := N_law_pool_a) (ps := ["cell"]) (k := 0) (t := rd_law_pool_a) Fn sc_law_pool_a ln_law_pool_a (fun cdv A outer s H E B hr => ?_) (fun as PR PX h => ok_law_pool_a as PR PX h)
  have hu65 := Room.units65 hr
  exact tpss_one (tps_ret (tpe_lst (tpl_cons (tpe_cn (c_max2 rfl) (by rfl) Z.b_max (by decide +kernel) (tpl_cons (tpe_int) (tpl_cons (tpe_bin o_sub (tpe_v 0) (tpe_bin o_pow (tpe_int) (tpe_int))) (tpl_nil)))) (tpl_cons (tpe_bin o_mod (tpe_v 0) (tpe_bin o_pow (tpe_int) (tpe_int))) (tpl_cons (tpe_int) (tpl_nil))))))
theorem fn_law_next_a (Fn : Fun K "_law_next" "_law_next" s_law_next_a f fd) (Z : Bi K mg cls) : FnOk P w K mg base CX0 1 f fd ["pool", "base"] (liftSp K cls sp_law_next_a) := by
  have nd := sc_law_next_a.nd
  refine def0 (N := N_law_next_a) (ps := ["pool", "base"]) (k := 0) (t := rd_law_next_a) Fn sc_law_next_a ln_law_next_a (fun cdv A outer s H E B hr => ?_) (fun as PR PX h => ok_law_next_a as PR PX h)
  have hu65 := Room.units65 hr
  exact tpss_cons (tps_if (tpt_cmp o_gt (tpe_ix hr.units (tpe_v 0) (tpe_int) (fun _ _ => rfl)) (tpe_int) (nomark _)) (tpss_cons (tps_set (i := 4) nd rfl (Or.inl rfl) (tpe_bin o_mod (tpe_ix hr.units (tpe_v 0) (tpe_int) (fun _ _ => rfl)) (tpe_v 1)))
      (tpss_cons (tps_setIx (i := 0) hr.units rfl (by first | exact Or.inl rfl | exact Or.inr (Or.inl rfl) | exact Or.inr (Or.inr rfl)) (tpe_bin o_fdiv (tpe_ix hr.units (tpe_v 0) (tpe_int) (fun _ _ => rfl)) (tpe_v 1)) (tpe_int))
      (tpss_one (tps_ret (tpe_v 4))))) (tpss_nil))
      (tpss_cons (tps_setIx (i := 0) hr.units rfl (by first | exact Or.inl rfl | exact Or.inr (Or.inl rfl) | exact Or.inr (Or.inr rfl)) (tpe_bin o_add (tpe_ix hr.units (tpe_v 0) (tpe_int) (fun _ _ => rfl)) (tpe_int)) (tpe_int))
      (tpss_cons (tps_set (i := 2) nd rfl (Or.inl rfl) (tpe_bin o_mod (tpe_bin o_add (tpe_ix hr.units (tpe_v 0) (tpe_int) (fun _ _ => rfl)) (tpe_bin o_mul (tpe_int) (tpe_ix hr.units (tpe_v 0) (tpe_int) (fun _ _ => rfl)))) (tpe_int)))
      (tpss_cons (tps_set (i := 3) nd rfl (Or.inl rfl) (tpe_bin o_mod (tpe_bin o_mul (tpe_bin o_add (tpe_v 2) (tpe_int)) (tpe_bin o_add (tpe_v 2) (tpe_int))) (tpe_int)))
      (tpss_one (tps_ret (tpe_bin o_mod (tpe_bin o_fdiv (tpe_bin o_mod (tpe_bin o_mul (tpe_v 3) (tpe_v 3)) (tpe_int)) (tpe_int)) (tpe_v 1)))))))
theorem fn_law_is_barred_a (Fn : Fun K "_law_is_barred" "_law_is_barred" s_law_is_barred_a f fd) (Z : Bi K mg cls) : FnOk P w K mg base CX0 1 f fd ["rule", "some", "number"] (liftSp K cls sp_law_is_barred_a) := by
  have nd := sc_law_is_barred_a.nd
  refine def0 (N := N_law_is_barred_a) (ps := ["rule", "some", "number"]) (k := 0) (t := rd_law_is_barred_a) Fn sc_law_is_barred_a ln_law_is_barred_a (fun cdv A outer s H E B hr => ?_) (fun as PR PX h => ok_law_is_barred_a as PR PX h)
  have hu65 := Room.units65 hr
  exact tpss_cons (tps_if (tpt_cmp (o_eq hr.units) (tpe_ix hr.units (tpe_v 0) (tpe_int) (fun _ _ => rfl)) (tpe_str) (nomark _)) (tpss_one (tps_ret (tpe_c1 (c_any rfl) (by rfl) Z.b_any (by decide +kernel) (tpe_lc (own := [("one", 4)]) rfl nd (tpi_seq (tpx_l 1)) (blkOk_by (own := [("one", 4)]) (N := N_law_is_barred_a) (sc := defScope s_law_is_barred_a) (by decide +kernel)) (by decide) (fun _ _ _ _ _ => tpg_n (i := 4) nd rfl (by first | exact Or.inl rfl | exact Or.inr rfl)) (fun _ _ _ _ _ => tpts_nil) (fun _ _ _ _ _ => tpe_cmp (o_in hu65) (tpe_bin o_sub (tpe_v 2) (tpe_v 4)) (tpe_v 1) (by rfl)))))) (tpss_nil))
      (tpss_one (tps_ret (tpe_c1 (c_any rfl) (by rfl) Z.b_any (by decide +kernel) (tpe_lc (own := [("step", 3)]) rfl nd (tpi_seq (tpx_f (tpe_ix hr.units (tpe_v 0) (tpe_int) (fun _ _ => rfl)))) (blkOk_by (own := [("step", 3)]) (N := N_law_is_barred_a) (sc := defScope s_law_is_barred_a) (by decide +kernel)) (by decide) (fun _ _ _ _ _ => tpg_n (i := 3) nd rfl (by first | exact Or.inl rfl | exact Or.inr rfl)) (fun _ _ _ _ _ => tpts_nil) (fun _ _ _ _ _ => tpe_cmp (o_in hu65) (tpe_bin o_sub (tpe_v 2) (tpe_v 3)) (tpe_v 1) (by rfl))))))
theorem fn_law_begin_c (Fn : Fun K "_law_begin" "_law_begin" s_law_begin_c f fd) (Z : Bi K mg cls) (C_law_is_barred_a : TL.Cal P w K mg base CX0 cls "_law_is_barred" ["rule", "some", "number"] 1 sp_law_is_barred_a) (C_law_next_a : TL.Cal P w K mg base CX0 cls "_law_next" ["pool", "base"] 1 sp_law_next_a) : FnOk P w K mg base CX0 2 f fd ["pool", "rule"] (liftSp K cls sp_law_begin_c) := by
  have nd := sc_law_begin_c.nd
  refine def0 (N := N_law_begin_c) (ps := ["pool", "rule"]) (k := 1) (t := rd_law_begin_c) Fn sc_law_begin_c ln_law_begin_c (fun cdv A outer s H E B hr => ?_) (fun as PR PX h => ok_law_begin_c as PR PX h)
  have hu65 := Room.units65 hr
  exact tpss_cons (tps_set (i := 2) nd rfl (Or.inl rfl) (tpe_bin o_add (tpe_ct1 c_int (by rfl) Z.b_int (by decide +kernel) (tpe_cmp (o_eq hr.units) (tpe_ix hr.units (tpe_v 1) (tpe_int) (fun _ _ => rfl)) (tpe_str) (nomark _))) (tpe_calls C_law_next_a (hr.mono (by decide)) (by rfl) (tpa_v 0 (tpa_f (tpe_ix hr.units (tpe_lst (tpl_cons (tpe_int) (tpl_cons (tpe_int) (tpl_cons (tpe_int) (tpl_nil))))) (tpe_calls C_law_next_a (hr.mono (by decide)) (by rfl) (tpa_v 0 (tpa_f (tpe_int) (tpa_nil)))) (fun _ _ => rfl)) (tpa_nil))))))
      (tpss_cons (tps_set (i := 3) nd rfl (Or.inl rfl) (tpe_lst (tpl_cons (tpe_v 2) (tpl_nil))))
      (tpss_cons (tps_set (i := 4) nd rfl (Or.inl rfl) (tpe_bin o_add (tpe_int) (tpe_calls C_law_next_a (hr.mono (by decide)) (by rfl) (tpa_v 0 (tpa_f (tpe_int) (tpa_nil))))))
      (tpss_cons (tps_for PassesOwn.never rfl (tpi_rng1 (by rfl) Z.b_range (tpl_cons (tpe_calls C_law_next_a (hr.mono (by decide)) (by rfl) (tpa_v 0 (tpa_f (tpe_int) (tpa_nil)))) (tpl_nil))) (tpg_n (i := 5) nd rfl (Or.inl rfl)) (tpss_cons (tps_set (i := 2) nd rfl (Or.inl rfl) (tpe_bin o_add (tpe_bin o_add (tpe_v 2) (tpe_int)) (tpe_calls C_law_next_a (hr.mono (by decide)) (by rfl) (tpa_v 0 (tpa_f (tpe_v 4) (tpa_nil))))))
      (tpss_one (tps_if ((tpw_and (tpt_cmp o_le (tpe_v 2) (tpe_int) (nomark _)) (tpw_and1 (tpt_not (tpt_val (tpe_calls C_law_is_barred_a (hr.mono (by decide)) (by rfl) (tpa_f (tpe_v 1) (tpa_v 3 (tpa_f (tpe_v 2) (tpa_nil))))))))).pt) (tpss_one (tps_expr (tpe_mutL (i := 3) m_append PySem.F.slot_list_append PySem.F.type_list_append rfl (by first | exact Or.inl rfl | exact Or.inr (Or.inl rfl) | exact Or.inr (Or.inr rfl)) (tpl_cons (tpe_v 2) (tpl_nil))))) (tpss_nil)))))
      (tpss_one (tps_ret (tpe_ct1 c_tuple (by rfl) Z.b_tuple (by decide +kernel) (tpe_v 3)))))))
theorem fn_law_barred_by_a (Fn : Fun K "_law_barred_by" "_law_barred_by" s_law_barred_by_a f fd) (Z : Bi K mg cls) : FnOk P w K mg base CX0 1 f fd ["rule", "there", "number"] (liftSp K cls sp_law_barred_by_a) := by
  have nd := sc_law_barred_by_a.nd
  refine def0 (N := N_law_barred_by_a) (ps := ["rule", "there", "number"]) (k := 0) (t := rd_law_barred_by_a) Fn sc_law_barred_by_a ln_law_barred_by_a (fun cdv A outer s H E B hr => ?_) (fun as PR PX h => ok_law_barred_by_a as PR PX h)
  have hu65 := Room.units65 hr
  exact tpss_cons (tps_if (tpt_cmp (o_eq hr.units) (tpe_ix hr.units (tpe_v 0) (tpe_int) (fun _ _ => rfl)) (tpe_str) (nomark _)) (tpss_cons (tps_setLc (i := 3) (y := "pairs") (own := [("one", 4)]) rfl nd rfl rfl (sw_true rfl rfl rfl (by decide +kernel)) (tpi_rng2 (by rfl) Z.b_range (tpl_cons (tpe_int) (tpl_cons (tpe_bin o_add (tpe_bin o_fdiv (tpe_v 2) (tpe_int)) (tpe_int)) (tpl_nil)))) (blkOk_by (own := [("one", 4)]) (N := N_law_barred_by_a) (sc := defScope s_law_barred_by_a) (by decide +kernel)) (by decide) (fun _ _ _ _ _ => tpg_n (i := 4) nd rfl (by first | exact Or.inl rfl | exact Or.inr rfl)) (fun _ _ _ _ _ => tpts_one (tpt_val (tpe_ix hr.units (tpe_v 1) (tpe_v 4) (fun _ _ => rfl)))) (fun _ _ _ _ _ => tpe_v 4))
      (tpss_one (tps_ret (tpe_c1 (c_any rfl) (by rfl) Z.b_any (by decide +kernel) (tpe_lc (own := [("one", 4)]) rfl nd (tpi_seq (tpx_l 3)) (blkOk_by (own := [("one", 4)]) (N := N_law_barred_by_a) (sc := defScope s_law_barred_by_a) (by decide +kernel)) (by decide) (fun _ _ _ _ _ => tpg_n (i := 4) nd rfl (by first | exact Or.inl rfl | exact Or.inr rfl)) (fun _ _ _ _ _ => tpts_nil) (fun _ _ _ _ _ => tpe_ix hr.units (tpe_v 1) (tpe_bin o_sub (tpe_v 2) (tpe_v 4)) (fun _ _ => rfl))))))) (tpss_nil))
      (tpss_one (tps_ret (tpe_c1 (c_any rfl) (by rfl) Z.b_any (by decide +kernel) (tpe_lc (own := [("step", 5)]) rfl nd (tpi_seq (tpx_f (tpe_ix hr.units (tpe_v 0) (tpe_int) (fun _ _ => rfl)))) (blkOk_by (own := [("step", 5)]) (N := N_law_barred_by_a) (sc := defScope s_law_barred_by_a) (by decide +kernel)) (by decide) (fun _ _ _ _ _ => tpg_n (i := 5) nd rfl (by first | exact Or.inl rfl | exact Or.inr rfl)) (fun _ _ _ _ _ => tpts_nil) (fun _ _ _ _ _ => tpe_and (tpe_cmp o_le (tpe_v 5) (tpe_v 2) (nomark _)) (tpe_one (tpe_ix hr.units (tpe_v 1) (tpe_bin o_sub (tpe_v 2) (tpe_v 5)) (fun _ _ => rfl))))))))
theorem fn_law_there_a (Fn : Fun K "_law_there" "_law_there" s_law_there_a f fd) (Z : Bi K mg cls) (C_law_barred_by_a : TL.Cal P w K mg base CX0 cls "_law_barred_by" ["rule", "there", "number"] 1 sp_law_barred_by_a) : FnOk P w K mg base CX0 2 f fd ["rule", "begin", "bound"] (liftSp K cls sp_law_there_a) := by
  have nd := sc_law_there_a.nd
  refine def0 (N := N_law_there_a) (ps := ["rule", "begin", "bound"]) (k := 1) (t := rd_law_there_a) Fn sc_law_there_a ln_law_there_a (fun cdv A outer s H E B hr => ?_) (fun as PR PX h => ok_law_there_a as PR PX h)
  have hu65 := Room.units65 hr
  exact tpss_cons (tps_set (i := 3) nd rfl (Or.inl rfl) (tpe_lst (tpl_nil)))
      (tpss_cons (tps_for PassesOwn.never rfl (tpi_rng1 (by rfl) Z.b_range (tpl_cons (tpe_v 2) (tpl_nil))) (tpg_n (i := 4) nd rfl (Or.inl rfl)) (tpss_one (tps_if (tpt_cmp o_le (tpe_v 4) (tpe_ix hr.units (tpe_v 1) (tpe_neg (tpe_int)) (fun _ _ => rfl)) (nomark _)) (tpss_one (tps_expr (tpe_mutL (i := 3) m_append PySem.F.slot_list_append PySem.F.type_list_append rfl (by first | exact Or.inl rfl | exact Or.inr (Or.inl rfl) | exact Or.inr (Or.inr rfl)) (tpl_cons (tpe_cmp (o_in hu65) (tpe_v 4) (tpe_v 1) (by rfl)) (tpl_nil))))) (tpss_one (tps_expr (tpe_mutL (i := 3) m_append PySem.F.slot_list_append PySem.F.type_list_append rfl (by first | exact Or.inl rfl | exact Or.inr (Or.inl rfl) | exact Or.inr (Or.inr rfl)) (tpl_cons (tpe_not (tpe_calls C_law_barred_by_a (hr.mono (by decide)) (by rfl) (tpa_f (tpe_v 0) (tpa_v 3 (tpa_f (tpe_v 4) (tpa_nil)))))) (tpl_nil))))))))
      (tpss_one (tps_ret (tpe_v 3))))
theorem fn_law_back_a (Fn : Fun K "_law_back" "_law_back" s_law_back_a f fd) (Z : Bi K mg cls) : FnOk P w K mg base CX0 1 f fd ["there", "turn"] (liftSp K cls sp_law_back_a) := by
  have nd := sc_law_back_a.nd
  refine def0 (N := N_law_back_a) (ps := ["there", "turn"]) (k := 0) (t := rd_law_back_a) Fn sc_law_back_a ln_law_back_a (fun cdv A outer s H E B hr => ?_) (fun as PR PX h => ok_law_back_a as PR PX h)
  have hu65 := Room.units65 hr
  exact tpss_cons (tps_set (i := 2) nd rfl (Or.inl rfl) (tpe_bin o_sub (tpe_c1 c_len (by rfl) Z.b_len (by decide +kernel) (tpe_v 0)) (tpe_v 1)))
      (tpss_cons (tps_while PassesOwn.never ((tpw_and (tpt_cmp o_gt (tpe_v 2) (tpe_int) (nomark _)) (tpw_and1 (tpt_cmp (o_eq hr.units) (tpe_ix hr.units (tpe_v 0) (tpe_bin o_sub (tpe_v 2) (tpe_int)) (fun _ _ => rfl)) (tpe_ix hr.units (tpe_v 0) (tpe_bin o_add (tpe_bin o_sub (tpe_v 2) (tpe_int)) (tpe_v 1)) (fun _ _ => rfl)) (nomark _)))).pt) (tpss_one (tps_set (i := 2) nd rfl (Or.inl rfl) (tpe_bin o_sub (tpe_v 2) (tpe_int)))))
      (tpss_one (tps_ret (tpe_v 2))))
theorem fn_law_paper_b (Fn : Fun K "_law_paper" "_law_paper" s_law_paper_b f fd) (Z : Bi K mg cls) : FnOk P w K mg base CX0 1 f fd ["there", "lead", "turn"] (liftSp K cls sp_law_paper_b) := by
  have nd := sc_law_paper_b.nd
  refine def0 (N := N_law_paper_b) (ps := ["there", "lead", "turn"]) (k := 0) (t := rd_law_paper_b) Fn sc_law_paper_b ln_law_paper_b (fun cdv A outer s H E B hr => ?_) (fun as PR PX h => ok_law_paper_b as PR PX h)
  have hu65 := Room.units65 hr
  exact tpss_cons (tps_set (i := 3) nd rfl (Or.inl rfl) (tpe_ct1 c_tuple (by rfl) Z.b_tuple (by decide +kernel) (tpe_lc (own := [("number", 4)]) rfl nd (tpi_rng1 (by rfl) Z.b_range (tpl_cons (tpe_v 1) (tpl_nil))) (blkOk_by (own := [("number", 4)]) (N := N_law_paper_b) (sc := defScope s_law_paper_b) (by decide +kernel)) (by decide) (fun _ _ _ _ _ => tpg_n (i := 4) nd rfl (by first | exact Or.inl rfl | exact Or.inr rfl)) (fun _ _ _ _ _ => tpts_one (tpt_val (tpe_ix hr.units (tpe_v 0) (tpe_v 4) (fun _ _ => rfl)))) (fun _ _ _ _ _ => tpe_v 4))))
      (tpss_one (tps_ret (tpe_tup (tpl_cons (tpe_v 1) (tpl_cons (tpe_v 2) (tpl_cons (tpe_v 3) (tpl_cons (tpe_ct1 c_tuple (by rfl) Z.b_tuple (by decide +kernel) (tpe_lc (own := [("number", 4)]) rfl nd (tpi_rng2 (by rfl) Z.b_range (tpl_cons (tpe_v 1) (tpl_cons (tpe_bin o_add (tpe_v 1) (tpe_v 2)) (tpl_nil)))) (blkOk_by (own := [("number", 4)]) (N := N_law_paper_b) (sc := defScope s_law_paper_b) (by decide +kernel)) (by decide) (fun _ _ _ _ _ => tpg_n (i := 4) nd rfl (by first | exact Or.inl rfl | exact Or.inr rfl)) (fun _ _ _ _ _ => tpts_one (tpt_val (tpe_ix hr.units (tpe_v 0) (tpe_v 4) (fun _ _ => rfl)))) (fun _ _ _ _ _ => tpe_v 4))) (tpl_nil))))))))
theorem fn_law_sum_paper_a (Fn : Fun K "_law_sum_paper" "_law_sum_paper" s_law_sum_paper_a f fd) (Z : Bi K mg cls) (C_law_back_a : TL.Cal P w K mg base CX0 cls "_law_back" ["there", "turn"] 1 sp_law_back_a) (C_law_paper_b : TL.Cal P w K mg base CX0 cls "_law_paper" ["there", "lead", "turn"] 1 sp_law_paper_b) (C_law_there_a : TL.Cal P w K mg base CX0 cls "_law_there" ["rule", "begin", "bound"] 2 sp_law_there_a) : FnOk P w K mg base CX0 3 f fd ["begin"] (liftSp K cls sp_law_sum_paper_a) := by
  have nd := sc_law_sum_paper_a.nd
  refine def0 (N := N_law_sum_paper_a) (ps := ["begin"]) (k := 2) (t := rd_law_sum_paper_a) Fn sc_law_sum_paper_a ln_law_sum_paper_a (fun cdv A outer s H E B hr => ?_) (fun as PR PX h => ok_law_sum_paper_a as PR PX h)
  have hu65 := Room.units65 hr
  exact tpss_cons (tps_set (i := 1) nd rfl (Or.inl rfl) (tpe_calls C_law_there_a (hr.mono (by decide)) (by rfl) (tpa_f (tpe_tup (tpl_cons (tpe_str) (tpl_nil))) (tpa_f (tpe_v 0) (tpa_f (tpe_int) (tpa_nil))))))
      (tpss_cons (tps_for PassesOwn.never rfl (tpi_rng2 (by rfl) Z.b_range (tpl_cons (tpe_int) (tpl_cons (tpe_int) (tpl_nil)))) (tpg_n (i := 2) nd rfl (Or.inl rfl)) (tpss_cons (tps_set (i := 3) nd rfl (Or.inl rfl) (tpe_calls C_law_back_a (hr.mono (by decide)) (by rfl) (tpa_f (tpe_v 1) (tpa_f (tpe_v 2) (tpa_nil)))))
      (tpss_one (tps_if (tpt_cmp o_le (tpe_v 3) (tpe_int) (nomark _)) (tpss_one (tps_ret (tpe_calls C_law_paper_b (hr.mono (by decide)) (by rfl) (tpa_f (tpe_v 1) (tpa_f (tpe_v 3) (tpa_f (tpe_v 2) (tpa_nil))))))) (tpss_nil)))))
      (tpss_one (tps_ret (tpe_non))))
theorem fn_even_bars_a (Fn : Fun K "even_bars" "even_bars" s_even_bars_a f fd) (Z : Bi K mg cls) : FnOk P w K mg base CX0 1 f fd ["some", "number"] (liftSp K cls sp_even_bars_a) := by
  have nd := sc_even_bars_a.nd
  refine def0 (N := N_even_bars_a) (ps := ["some", "number"]) (k := 0) (t := rd_even_bars_a) Fn sc_even_bars_a ln_even_bars_a (fun cdv A outer s H E B hr => ?_) (fun as PR PX h => ok_even_bars_a as PR PX h)
  have hu65 := Room.units65 hr
  exact tpss_cons (tps_set (i := 2) nd rfl (Or.inl rfl) (tpe_lst (tpl_nil)))
      (tpss_cons (tps_for PassesOwn.never rfl (tpi_seq (tpx_l 0)) (tpg_n (i := 3) nd rfl (Or.inl rfl)) (tpss_one (tps_if ((tpw_and (tpt_cmp (o_in hu65) (tpe_bin o_sub (tpe_bin o_mul (tpe_int) (tpe_v 3)) (tpe_v 1)) (tpe_v 0) (by rfl)) (tpw_and1 (tpt_cmp o_lt (tpe_bin o_sub (tpe_bin o_mul (tpe_int) (tpe_v 3)) (tpe_v 1)) (tpe_v 3) (nomark _)))).pt) (tpss_one (tps_expr (tpe_mutL (i := 2) m_append PySem.F.slot_list_append PySem.F.type_list_append rfl (by first | exact Or.inl rfl | exact Or.inr (Or.inl rfl) | exact Or.inr (Or.inr rfl)) (tpl_cons (tpe_tup (tpl_cons (tpe_bin o_sub (tpe_bin o_mul (tpe_int) (tpe_v 3)) (tpe_v 1)) (tpl_cons (tpe_v 3) (tpl_nil)))) (tpl_nil))))) (tpss_nil))))
      (tpss_one (tps_ret (tpe_v 2))))
theorem fn_sum_bars_a (Fn : Fun K "sum_bars" "sum_bars" s_sum_bars_a f fd) (Z : Bi K mg cls) : FnOk P w K mg base CX0 1 f fd ["some", "number"] (liftSp K cls sp_sum_bars_a) := by
  have nd := sc_sum_bars_a.nd
  refine def0 (N := N_sum_bars_a) (ps := ["some", "number"]) (k := 0) (t := rd_sum_bars_a) Fn sc_sum_bars_a ln_sum_bars_a (fun cdv A outer s H E B hr => ?_) (fun as PR PX h => ok_sum_bars_a as PR PX h)
  have hu65 := Room.units65 hr
  exact tpss_one (tps_ret (tpe_lc (own := [("x", 2)]) rfl nd (tpi_seq (tpx_l 0)) (blkOk_by (own := [("x", 2)]) (N := N_sum_bars_a) (sc := defScope s_sum_bars_a) (by decide +kernel)) (by decide) (fun _ _ _ _ _ => tpg_n (i := 2) nd rfl (by first | exact Or.inl rfl | exact Or.inr rfl)) (fun _ _ _ _ _ => tpts_one ((tpw_and (tpt_cmp o_le (tpe_v 2) (tpe_bin o_sub (tpe_v 1) (tpe_v 2)) (nomark _)) (tpw_and1 (tpt_cmp (o_in hu65) (tpe_bin o_sub (tpe_v 1) (tpe_v 2)) (tpe_v 0) (by rfl)))).pt)) (fun _ _ _ _ _ => tpe_tup (tpl_cons (tpe_v 2) (tpl_cons (tpe_bin o_sub (tpe_v 1) (tpe_v 2)) (tpl_nil))))))
theorem fn_pair_bars_a (Fn : Fun K "pair_bars" "pair_bars" s_pair_bars_a f fd) (Z : Bi K mg cls) : FnOk P w K mg base CX0 1 f fd ["some", "number"] (liftSp K cls sp_pair_bars_a) := by
  have nd := sc_pair_bars_a.nd
  refine def0 (N := N_pair_bars_a) (ps := ["some", "number"]) (k := 0) (t := rd_pair_bars_a) Fn sc_pair_bars_a ln_pair_bars_a (fun cdv A outer s H E B hr => ?_) (fun as PR PX h => ok_pair_bars_a as PR PX h)
  have hu65 := Room.units65 hr
  exact tpss_cons (tps_set (i := 2) nd rfl (Or.inl rfl) (tpe_lst (tpl_nil)))
      (tpss_cons (tps_for PassesOwn.never rfl (tpi_enum (by rfl) Z.b_enumerate (tpx_l 0)) (tpg_tup rfl (tpgs_cons (tpg_n (i := 3) nd rfl (Or.inl rfl)) (tpgs_cons (tpg_n (i := 4) nd rfl (Or.inl rfl)) (tpgs_nil)))) (tpss_one (tps_for PassesOwn.never rfl (tpi_seq (tpx_f (tpe_sl (tpe_v 0) (tpo_n) (tpo_s (tpe_v 3))))) (tpg_n (i := 5) nd rfl (Or.inl rfl)) (tpss_one (tps_if ((tpw_and (tpt_cmp o_ge (tpe_bin o_sub (tpe_bin o_add (tpe_v 1) (tpe_v 5)) (tpe_v 4)) (tpe_v 4) (nomark _)) (tpw_and1 (tpt_cmp (o_in hu65) (tpe_bin o_sub (tpe_bin o_add (tpe_v 1) (tpe_v 5)) (tpe_v 4)) (tpe_v 0) (by rfl)))).pt) (tpss_one (tps_expr (tpe_mutL (i := 2) m_append PySem.F.slot_list_append PySem.F.type_list_append rfl (by first | exact Or.inl rfl | exact Or.inr (Or.inl rfl) | exact Or.inr (Or.inr rfl)) (tpl_cons (tpe_tup (tpl_cons (tpe_v 5) (tpl_cons (tpe_v 4) (tpl_cons (tpe_bin o_sub (tpe_bin o_add (tpe_v 1) (tpe_v 5)) (tpe_v 4)) (tpl_nil))))) (tpl_nil))))) (tpss_nil))))))
      (tpss_one (tps_ret (tpe_v 2))))
theorem fn_all_bars_a (Fn : Fun K "all_bars" "all_bars" s_all_bars_a f fd) (Z : Bi K mg cls) (C_even_bars_a : TL.Cal P w K mg base CX0 cls "even_bars" ["some", "number"] 1 sp_even_bars_a) (C_pair_bars_a : TL.Cal P w K mg base CX0 cls "pair_bars" ["some", "number"] 1 sp_pair_bars_a) (C_sum_bars_a : TL.Cal P w K mg base CX0 cls "sum_bars" ["some", "number"] 1 sp_sum_bars_a) : FnOk P w K mg base CX0 2 f fd ["rule", "some", "number"] (liftSp K cls sp_all_bars_a) := by
  have nd := sc_all_bars_a.nd
  refine def0 (N := N_all_bars_a) (ps := ["rule", "some", "number"]) (k := 1) (t := rd_all_bars_a) Fn sc_all_bars_a ln_all_bars_a (fun cdv A outer s H E B hr => ?_) (fun as PR PX h => ok_all_bars_a as PR PX h)
  have hu65 := Room.units65 hr
  exact tpss_cons (tps_if (tpt_cmp (o_eq hr.units) (tpe_ix hr.units (tpe_v 0) (tpe_int) (fun _ _ => rfl)) (tpe_str) (nomark _)) (tpss_one (tps_ret (tpe_c1 (c_sortedR hr.units) (by rfl) Z.b_sorted (by decide +kernel) (tpe_calls C_even_bars_a (hr.mono (by decide)) (by rfl) (tpa_f (tpe_v 1) (tpa_f (tpe_v 2) (tpa_nil))))))) (tpss_nil))
      (tpss_cons (tps_if (tpt_cmp (o_eq hr.units) (tpe_ix hr.units (tpe_v 0) (tpe_int) (fun _ _ => rfl)) (tpe_str) (nomark _)) (tpss_one (tps_ret (tpe_c1 (c_sortedR hr.units) (by rfl) Z.b_sorted (by decide +kernel) (tpe_calls C_sum_bars_a (hr.mono (by decide)) (by rfl) (tpa_f (tpe_v 1) (tpa_f (tpe_v 2) (tpa_nil))))))) (tpss_nil))
      (tpss_cons (tps_if (tpt_cmp (o_eq hr.units) (tpe_ix hr.units (tpe_v 0) (tpe_int) (fun _ _ => rfl)) (tpe_str) (nomark _)) (tpss_one (tps_ret (tpe_c1 (c_sortedR hr.units) (by rfl) Z.b_sorted (by decide +kernel) (tpe_calls C_pair_bars_a (hr.mono (by decide)) (by rfl) (tpa_f (tpe_v 1) (tpa_f (tpe_v 2) (tpa_nil))))))) (tpss_nil))
      (tpss_one (tps_ret (tpe_c1 (c_sortedR hr.units) (by rfl) Z.b_sorted (by decide +kernel) (tpe_lc (own := [("step", 3)]) rfl nd (tpi_seq (tpx_f (tpe_ix hr.units (tpe_v 0) (tpe_int) (fun _ _ => rfl)))) (blkOk_by (own := [("step", 3)]) (N := N_all_bars_a) (sc := defScope s_all_bars_a) (by decide +kernel)) (by decide) (fun _ _ _ _ _ => tpg_n (i := 3) nd rfl (by first | exact Or.inl rfl | exact Or.inr rfl)) (fun _ _ _ _ _ => tpts_one (tpt_cmp (o_in hu65) (tpe_bin o_sub (tpe_v 2) (tpe_v 3)) (tpe_v 1) (by rfl))) (fun _ _ _ _ _ => tpe_tup (tpl_cons (tpe_bin o_sub (tpe_v 2) (tpe_v 3)) (tpl_nil)))))))))
theorem fn_bar_a (Fn : Fun K "bar" "bar" s_bar_a f fd) (Z : Bi K mg cls) (C_all_bars_a : TL.Cal P w K mg base CX0 cls "all_bars" ["rule", "some", "number"] 2 sp_all_bars_a) : FnOk P w K mg base CX0 3 f fd ["rule", "some", "number"] (liftSp K cls sp_bar_a) := by
  have nd := sc_bar_a.nd
  refine def0 (N := N_bar_a) (ps := ["rule", "some", "number"]) (k := 2) (t := rd_bar_a) Fn sc_bar_a ln_bar_a (fun cdv A outer s H E B hr => ?_) (fun as PR PX h => ok_bar_a as PR PX h)
  have hu65 := Room.units65 hr
  exact tpss_cons (tps_set (i := 3) nd rfl (Or.inl rfl) (tpe_calls C_all_bars_a (hr.mono (by decide)) (by rfl) (tpa_f (tpe_v 0) (tpa_f (tpe_v 1) (tpa_f (tpe_v 2) (tpa_nil))))))
      (tpss_cons (tps_if (tpt_cmp (o_eq hr.units) (tpe_v 3) (tpe_lst (tpl_nil)) (nomark _)) (tpss_one (tps_ret (tpe_non))) (tpss_nil))
      (tpss_one (tps_ret (tpe_ix hr.units (tpe_v 3) (tpe_int) (fun _ _ => rfl)))))
theorem fn_break_of_a (Fn : Fun K "break_of" "break_of" s_break_of_a f fd) (Z : Bi K mg cls) (C_bar_a : TL.Cal P w K mg base CX0 cls "bar" ["rule", "some", "number"] 3 sp_bar_a) : FnOk P w K mg base CX0 4 f fd ["rule", "some"] (liftSp K cls sp_break_of_a) := by
  have nd := sc_break_of_a.nd
  refine def0 (N := N_break_of_a) (ps := ["rule", "some"]) (k := 3) (t := rd_break_of_a) Fn sc_break_of_a ln_break_of_a (fun cdv A outer s H E B hr => ?_) (fun as PR PX h => ok_break_of_a as PR PX h)
  have hu65 := Room.units65 hr
  exact tpss_cons (tps_for PassesOwn.never rfl (tpi_enum (by rfl) Z.b_enumerate (tpx_l 1)) (tpg_tup rfl (tpgs_cons (tpg_n (i := 2) nd rfl (Or.inl rfl)) (tpgs_cons (tpg_n (i := 3) nd rfl (Or.inl rfl)) (tpgs_nil)))) (tpss_cons (tps_set (i := 4) nd rfl (Or.inl rfl) (tpe_calls C_bar_a (hr.mono (by decide)) (by rfl) (tpa_f (tpe_v 0) (tpa_f (tpe_sl (tpe_v 1) (tpo_n) (tpo_s (tpe_v 2))) (tpa_f (tpe_v 3) (tpa_nil))))))
      (tpss_one (tps_if (tpt_cmp o_isnot (tpe_v 4) (tpe_non) (nomark _)) (tpss_one (tps_ret (tpe_tup (tpl_cons (tpe_v 2) (tpl_cons (tpe_v 4) (tpl_nil)))))) (tpss_nil)))))
      (tpss_one (tps_ret (tpe_non)))
theorem fn_keeps_a (Fn : Fun K "keeps" "keeps" s_keeps_a f fd) (Z : Bi K mg cls) (C_break_of_a : TL.Cal P w K mg base CX0 cls "break_of" ["rule", "some"] 4 sp_break_of_a) : FnOk P w K mg base CX0 5 f fd ["rule", "some"] (liftSp K cls sp_keeps_a) := by
  have nd := sc_keeps_a.nd
  refine def0 (N := N_keeps_a) (ps := ["rule", "some"]) (k := 4) (t := rd_keeps_a) Fn sc_keeps_a ln_keeps_a (fun cdv A outer s H E B hr => ?_) (fun as PR PX h => ok_keeps_a as PR PX h)
  have hu65 := Room.units65 hr
  exact tpss_one (tps_ret (tpe_cmp o_is (tpe_calls C_break_of_a (hr.mono (by decide)) (by rfl) (tpa_f (tpe_v 0) (tpa_f (tpe_v 1) (tpa_nil)))) (tpe_non) (nomark _)))
theorem fn_need_beginning_ax (Fn : Fun K "need_beginning" "need_beginning" s_need_beginning_ax f fd) (Z : Bi K mg cls) (C_keeps_a : TL.Cal P w K mg base CX0 cls "keeps" ["rule", "some"] 5 sp_keeps_a) : FnOk P w K mg base (L2.CX P w) 6 f fd ["rule", "begin"] (liftSp K cls sp_need_beginning_ax) := by
  have nd := sc_need_beginning_ax.nd
  refine defX (N := N_need_beginning_ax) (ps := ["rule", "begin"]) (k := 5) (t := rd_need_beginning_ax) Fn sc_need_beginning_ax ln_need_beginning_ax (fun cdv A outer s H E B XT hr hE => ?_) (fun as PR PX h => ok_need_beginning_ax as PR PX h)
  have hu65 := Room.units65 hr
  have T : Thr (cxOf (L2.CX P w) P w K mg base N_need_beginning_ax "need_beginning" (defScope s_need_beginning_ax) f cdv A outer s H E) B cls XT := ⟨_, takes_of rfl rfl rfl rfl, fun c F H σ τ I h => hE c F H σ τ I h⟩
  exact tpss_one (tps_if (tpt_not (tpt_val (tpe_calls C_keeps_a (hr.mono (by decide)) (by rfl) (tpa_f (tpe_v 0) (tpa_f (tpe_v 1) (tpa_nil)))))) (tpss_one (tps_raise rfl T Z.x_Broken (by rfl))) (tpss_nil))
theorem fn_is_barred_a (Fn : Fun K "is_barred" "is_barred" s_is_barred_a f fd) (Z : Bi K mg cls) : FnOk P w K mg base CX0 1 f fd ["rule", "there", "number"] (liftSp K cls sp_is_barred_a) := by
  have nd := sc_is_barred_a.nd
  refine def0 (N := N_is_barred_a) (ps := ["rule", "there", "number"]) (k := 0) (t := rd_is_barred_a) Fn sc_is_barred_a ln_is_barred_a (fun cdv A outer s H E B hr => ?_) (fun as PR PX h => ok_is_barred_a as PR PX h)
  have hu65 := Room.units65 hr
  exact tpss_cons (tps_if (tpt_cmp (o_eq hr.units) (tpe_ix hr.units (tpe_v 0) (tpe_int) (fun _ _ => rfl)) (tpe_str) (nomark _)) (tpss_one (tps_ret (tpe_c1 (c_any rfl) (by rfl) Z.b_any (by decide +kernel) (tpe_lc (own := [("step", 4)]) rfl nd (tpi_seq (tpx_f (tpe_ix hr.units (tpe_v 0) (tpe_int) (fun _ _ => rfl)))) (blkOk_by (own := [("step", 4)]) (N := N_is_barred_a) (sc := defScope s_is_barred_a) (by decide +kernel)) (by decide) (fun _ _ _ _ _ => tpg_n (i := 4) nd rfl (by first | exact Or.inl rfl | exact Or.inr rfl)) (fun _ _ _ _ _ => tpts_nil) (fun _ _ _ _ _ => tpe_and (tpe_cmp o_le (tpe_v 4) (tpe_v 2) (nomark _)) (tpe_one (tpe_ix hr.units (tpe_v 1) (tpe_bin o_sub (tpe_v 2) (tpe_v 4)) (fun _ _ => rfl)))))))) (tpss_nil))
      (tpss_one (tps_ret (tpe_c1 (c_any rfl) (by rfl) Z.b_any (by decide +kernel) (tpe_lc (own := [("one", 3)]) rfl nd (tpi_rng2 (by rfl) Z.b_range (tpl_cons (tpe_int) (tpl_cons (tpe_bin o_add (tpe_bin o_fdiv (tpe_v 2) (tpe_int)) (tpe_int)) (tpl_nil)))) (blkOk_by (own := [("one", 3)]) (N := N_is_barred_a) (sc := defScope s_is_barred_a) (by decide +kernel)) (by decide) (fun _ _ _ _ _ => tpg_n (i := 3) nd rfl (by first | exact Or.inl rfl | exact Or.inr rfl)) (fun _ _ _ _ _ => tpts_nil) (fun _ _ _ _ _ => tpe_and (tpe_ix hr.units (tpe_v 1) (tpe_v 3) (fun _ _ => rfl)) (tpe_one (tpe_ix hr.units (tpe_v 1) (tpe_bin o_sub (tpe_v 2) (tpe_v 3)) (fun _ _ => rfl))))))))
theorem fn_grown_a (Fn : Fun K "grown" "grown" s_grown_a f fd) (Z : Bi K mg cls) (C_is_barred_a : TL.Cal P w K mg base CX0 cls "is_barred" ["rule", "there", "number"] 1 sp_is_barred_a) : FnOk P w K mg base CX0 2 f fd ["rule", "begin", "bound"] (liftSp K cls sp_grown_a) := by
  have nd := sc_grown_a.nd
  refine def0 (N := N_grown_a) (ps := ["rule", "begin", "bound"]) (k := 1) (t := rd_grown_a) Fn sc_grown_a ln_grown_a (fun cdv A outer s H E B hr => ?_) (fun as PR PX h => ok_grown_a as PR PX h)
  have hu65 := Room.units65 hr
  exact tpss_cons (tps_set (i := 3) nd rfl (Or.inl rfl) (tpe_lst (tpl_nil)))
      (tpss_cons (tps_for PassesOwn.never rfl (tpi_rng1 (by rfl) Z.b_range (tpl_cons (tpe_v 2) (tpl_nil))) (tpg_n (i := 4) nd rfl (Or.inl rfl)) (tpss_one (tps_if (tpt_cmp o_le (tpe_v 4) (tpe_ix hr.units (tpe_v 1) (tpe_neg (tpe_int)) (fun _ _ => rfl)) (nomark _)) (tpss_one (tps_expr (tpe_mutL (i := 3) m_append PySem.F.slot_list_append PySem.F.type_list_append rfl (by first | exact Or.inl rfl | exact Or.inr (Or.inl rfl) | exact Or.inr (Or.inr rfl)) (tpl_cons (tpe_cmp (o_in hu65) (tpe_v 4) (tpe_v 1) (by rfl)) (tpl_nil))))) (tpss_one (tps_expr (tpe_mutL (i := 3) m_append PySem.F.slot_list_append PySem.F.type_list_append rfl (by first | exact Or.inl rfl | exact Or.inr (Or.inl rfl) | exact Or.inr (Or.inr rfl)) (tpl_cons (tpe_not (tpe_calls C_is_barred_a (hr.mono (by decide)) (by rfl) (tpa_f (tpe_v 0) (tpa_v 3 (tpa_f (tpe_v 4) (tpa_nil)))))) (tpl_nil))))))))
      (tpss_one (tps_ret (tpe_v 3))))
theorem fn_least_lead_a (Fn : Fun K "least_lead" "least_lead" s_least_lead_a f fd) (Z : Bi K mg cls) : FnOk P w K mg base CX0 1 f fd ["there", "turn"] (liftSp K cls sp_least_lead_a) := by
  have nd := sc_least_lead_a.nd
  refine def0 (N := N_least_lead_a) (ps := ["there", "turn"]) (k := 0) (t := rd_least_lead_a) Fn sc_least_lead_a ln_least_lead_a (fun cdv A outer s H E B hr => ?_) (fun as PR PX h => ok_least_lead_a as PR PX h)
  have hu65 := Room.units65 hr
  exact tpss_cons (tps_set (i := 2) nd rfl (Or.inl rfl) (tpe_bin o_sub (tpe_c1 c_len (by rfl) Z.b_len (by decide +kernel) (tpe_v 0)) (tpe_v 1)))
      (tpss_cons (tps_while PassesOwn.never ((tpw_and (tpt_cmp o_gt (tpe_v 2) (tpe_int) (nomark _)) (tpw_and1 (tpt_cmp (o_eq hr.units) (tpe_ix hr.units (tpe_v 0) (tpe_bin o_sub (tpe_v 2) (tpe_int)) (fun _ _ => rfl)) (tpe_ix hr.units (tpe_v 0) (tpe_bin o_add (tpe_bin o_sub (tpe_v 2) (tpe_int)) (tpe_v 1)) (fun _ _ => rfl)) (nomark _)))).pt) (tpss_one (tps_set (i := 2) nd rfl (Or.inl rfl) (tpe_bin o_sub (tpe_v 2) (tpe_int)))))
      (tpss_one (tps_ret (tpe_v 2))))
theorem fn_paper_by_b (Fn : Fun K "paper_by" "paper_by" s_paper_by_b f fd) (Z : Bi K mg cls) : FnOk P w K mg base CX0 1 f fd ["there", "lead", "turn"] (liftSp K cls sp_paper_by_b) := by
  have nd := sc_paper_by_b.nd
  refine def0 (N := N_paper_by_b) (ps := ["there", "lead", "turn"]) (k := 0) (t := rd_paper_by_b) Fn sc_paper_by_b ln_paper_by_b (fun cdv A outer s H E B hr => ?_) (fun as PR PX h => ok_paper_by_b as PR PX h)
  have hu65 := Room.units65 hr
  exact tpss_cons (tps_setLc (i := 3) (y := "head") (own := [("number", 5)]) rfl nd rfl rfl (sw_true rfl rfl rfl (by decide +kernel)) (tpi_rng1 (by rfl) Z.b_range (tpl_cons (tpe_v 1) (tpl_nil))) (blkOk_by (own := [("number", 5)]) (N := N_paper_by_b) (sc := defScope s_paper_by_b) (by decide +kernel)) (by decide) (fun _ _ _ _ _ => tpg_n (i := 5) nd rfl (by first | exact Or.inl rfl | exact Or.inr rfl)) (fun _ _ _ _ _ => tpts_one (tpt_val (tpe_ix hr.units (tpe_v 0) (tpe_v 5) (fun _ _ => rfl)))) (fun _ _ _ _ _ => tpe_v 5))
      (tpss_cons (tps_setLc (i := 4) (y := "rests") (own := [("number", 5)]) rfl nd rfl rfl (sw_true rfl rfl rfl (by decide +kernel)) (tpi_rng2 (by rfl) Z.b_range (tpl_cons (tpe_v 1) (tpl_cons (tpe_bin o_add (tpe_v 1) (tpe_v 2)) (tpl_nil)))) (blkOk_by (own := [("number", 5)]) (N := N_paper_by_b) (sc := defScope s_paper_by_b) (by decide +kernel)) (by decide) (fun _ _ _ _ _ => tpg_n (i := 5) nd rfl (by first | exact Or.inl rfl | exact Or.inr rfl)) (fun _ _ _ _ _ => tpts_one (tpt_val (tpe_ix hr.units (tpe_v 0) (tpe_v 5) (fun _ _ => rfl)))) (fun _ _ _ _ _ => tpe_v 5))
      (tpss_one (tps_ret (tpe_tup (tpl_cons (tpe_v 1) (tpl_cons (tpe_v 2) (tpl_cons (tpe_ct1 c_tuple (by rfl) Z.b_tuple (by decide +kernel) (tpe_v 3)) (tpl_cons (tpe_ct1 c_tuple (by rfl) Z.b_tuple (by decide +kernel) (tpe_v 4)) (tpl_nil)))))))))
theorem fn_rounds_of_sums_a (Fn : Fun K "rounds_of_sums" "rounds_of_sums" s_rounds_of_sums_a f fd) (Z : Bi K mg cls) (C_grown_a : TL.Cal P w K mg base CX0 cls "grown" ["rule", "begin", "bound"] 2 sp_grown_a) (C_least_lead_a : TL.Cal P w K mg base CX0 cls "least_lead" ["there", "turn"] 1 sp_least_lead_a) (C_paper_by_b : TL.Cal P w K mg base CX0 cls "paper_by" ["there", "lead", "turn"] 1 sp_paper_by_b) : FnOk P w K mg base CX0 3 f fd ["begin"] (liftSp K cls sp_rounds_of_sums_a) := by
  have nd := sc_rounds_of_sums_a.nd
  refine def0 (N := N_rounds_of_sums_a) (ps := ["begin"]) (k := 2) (t := rd_rounds_of_sums_a) Fn sc_rounds_of_sums_a ln_rounds_of_sums_a (fun cdv A outer s H E B hr => ?_) (fun as PR PX h => ok_rounds_of_sums_a as PR PX h)
  have hu65 := Room.units65 hr
  exact tpss_cons (tps_set (i := 1) nd rfl (Or.inl rfl) (tpe_calls C_grown_a (hr.mono (by decide)) (by rfl) (tpa_f (tpe_tup (tpl_cons (tpe_str) (tpl_nil))) (tpa_f (tpe_v 0) (tpa_f (tpe_const (by rfl) Z.g_FAR) (tpa_nil))))))
      (tpss_cons (tps_for PassesOwn.never rfl (tpi_rng2 (by rfl) Z.b_range (tpl_cons (tpe_int) (tpl_cons (tpe_bin o_add (tpe_const (by rfl) Z.g_MOST_TURN) (tpe_int)) (tpl_nil)))) (tpg_n (i := 2) nd rfl (Or.inl rfl)) (tpss_cons (tps_set (i := 3) nd rfl (Or.inl rfl) (tpe_calls C_least_lead_a (hr.mono (by decide)) (by rfl) (tpa_f (tpe_v 1) (tpa_f (tpe_v 2) (tpa_nil)))))
      (tpss_one (tps_if (tpt_cmp o_le (tpe_v 3) (tpe_const (by rfl) Z.g_MOST_LEAD) (nomark _)) (tpss_one (tps_ret (tpe_calls C_paper_by_b (hr.mono (by decide)) (by rfl) (tpa_f (tpe_v 1) (tpa_f (tpe_v 3) (tpa_f (tpe_v 2) (tpa_nil))))))) (tpss_nil)))))
      (tpss_one (tps_ret (tpe_non))))
theorem fn_met_again_a (Fn : Fun K "met_again" "met_again" s_met_again_a f fd) (Z : Bi K mg cls) (C_grown_a : TL.Cal P w K mg base CX0 cls "grown" ["rule", "begin", "bound"] 2 sp_grown_a) (C_is_barred_a : TL.Cal P w K mg base CX0 cls "is_barred" ["rule", "there", "number"] 1 sp_is_barred_a) : FnOk P w K mg base CX0 3 f fd ["rule", "begin"] (liftSp K cls sp_met_again_a) := by
  have nd := sc_met_again_a.nd
  refine def0 (N := N_met_again_a) (ps := ["rule", "begin"]) (k := 2) (t := rd_met_again_a) Fn sc_met_again_a ln_met_again_a (fun cdv A outer s H E B hr => ?_) (fun as PR PX h => ok_met_again_a as PR PX h)
  have hu65 := Room.units65 hr
  exact tpss_cons (tps_set (i := 2) nd rfl (Or.inl rfl) (tpe_ix hr.units (tpe_ix hr.units (tpe_v 0) (tpe_int) (fun _ _ => rfl)) (tpe_neg (tpe_int)) (fun _ _ => rfl)))
      (tpss_cons (tps_set (i := 3) nd rfl (Or.inl rfl) (tpe_calls C_grown_a (hr.mono (by decide)) (by rfl) (tpa_f (tpe_v 0) (tpa_f (tpe_v 1) (tpa_f (tpe_bin o_add (tpe_bin o_add (tpe_ix hr.units (tpe_v 1) (tpe_neg (tpe_int)) (fun _ _ => rfl)) (tpe_int)) (tpe_v 2)) (tpa_nil))))))
      (tpss_cons (tps_set (i := 4) nd rfl (Or.inl rfl) (tpe_dictB))
      (tpss_cons (tps_set (i := 5) nd rfl (Or.inl rfl) (tpe_ct1 c_tuple (by rfl) Z.b_tuple (by decide +kernel) (tpe_sl (tpe_v 3) (tpo_s (tpe_neg (tpe_v 2))) (tpo_n))))
      (tpss_cons (tps_while PassesOwn.never (tpt_cmp (o_notinB (Nat.lt_of_le_of_lt (Nat.add_le_add_left (by decide) _) hu65)) (tpe_v 5) (tpe_v 4) (by rfl)) (tpss_cons (tps_setIxB (i := 4) hr.units rfl (by first | exact Or.inl rfl | exact Or.inr (Or.inl rfl) | exact Or.inr (Or.inr rfl)) (tpe_c1 c_len (by rfl) Z.b_len (by decide +kernel) (tpe_v 3)) (tpe_v 5))
      (tpss_cons (tps_expr (tpe_mutL (i := 3) m_append PySem.F.slot_list_append PySem.F.type_list_append rfl (by first | exact Or.inl rfl | exact Or.inr (Or.inl rfl) | exact Or.inr (Or.inr rfl)) (tpl_cons (tpe_not (tpe_calls C_is_barred_a (hr.mono (by decide)) (by rfl) (tpa_f (tpe_v 0) (tpa_v 3 (tpa_f (tpe_c1 c_len (by rfl) Z.b_len (by decide +kernel) (tpe_v 3)) (tpa_nil)))))) (tpl_nil))))
      (tpss_one (tps_set (i := 5) nd rfl (Or.inl rfl) (tpe_ct1 c_tuple (by rfl) Z.b_tuple (by decide +kernel) (tpe_sl (tpe_v 3) (tpo_s (tpe_neg (tpe_v 2))) (tpo_n))))))))
      (tpss_one (tps_ret (tpe_tup (tpl_cons (tpe_v 3) (tpl_cons (tpe_bin o_sub (tpe_c1 c_len (by rfl) Z.b_len (by decide +kernel) (tpe_v 3)) (tpe_ixB hr.units (tpe_v 4) (tpe_v 5) (fun _ _ => rfl))) (tpl_nil))))))))))
theorem fn_rounds_of_gaps_a (Fn : Fun K "rounds_of_gaps" "rounds_of_gaps" s_rounds_of_gaps_a f fd) (Z : Bi K mg cls) (C_grown_a : TL.Cal P w K mg base CX0 cls "grown" ["rule", "begin", "bound"] 2 sp_grown_a) (C_least_lead_a : TL.Cal P w K mg base CX0 cls "least_lead" ["there", "turn"] 1 sp_least_lead_a) (C_met_again_a : TL.Cal P w K mg base CX0 cls "met_again" ["rule", "begin"] 3 sp_met_again_a) (C_paper_by_b : TL.Cal P w K mg base CX0 cls "paper_by" ["there", "lead", "turn"] 1 sp_paper_by_b) : FnOk P w K mg base CX0 4 f fd ["rule", "begin"] (liftSp K cls sp_rounds_of_gaps_a) := by
  have nd := sc_rounds_of_gaps_a.nd
  refine def0 (N := N_rounds_of_gaps_a) (ps := ["rule", "begin"]) (k := 3) (t := rd_rounds_of_gaps_a) Fn sc_rounds_of_gaps_a ln_rounds_of_gaps_a (fun cdv A outer s H E B hr => ?_) (fun as PR PX h => ok_rounds_of_gaps_a as PR PX h)
  have hu65 := Room.units65 hr
  exact tpss_cons (tps_asg (tpe_calls C_met_again_a (hr.mono (by decide)) (by rfl) (tpa_f (tpe_v 0) (tpa_f (tpe_v 1) (tpa_nil)))) (tpg_tup rfl (tpgs_cons (tpg_n (i := 2) nd rfl (Or.inl rfl)) (tpgs_cons (tpg_n (i := 5) nd rfl (Or.inr rfl)) (tpgs_nil)))))
      (tpss_cons (tps_set (i := 2) nd rfl (Or.inl rfl) (tpe_calls C_grown_a (hr.mono (by decide)) (by rfl) (tpa_f (tpe_v 0) (tpa_f (tpe_v 1) (tpa_f (tpe_bin o_add (tpe_c1 c_len (by rfl) Z.b_len (by decide +kernel) (tpe_v 2)) (tpe_v 5)) (tpa_nil))))))
      (tpss_cons (tps_set (i := 3) nd rfl (Or.inr rfl) (tpe_sl (tpe_v 2) (tpo_s (tpe_neg (tpe_v 5))) (tpo_n)))
      (tpss_cons (tps_set (i := 4) nd rfl (Or.inl rfl) (tpe_c1 (c_minL rfl) (by rfl) Z.b_min (by decide +kernel) (tpe_lc (own := [("part", 6)]) rfl nd (tpi_rng2 (by rfl) Z.b_range (tpl_cons (tpe_int) (tpl_cons (tpe_bin o_add (tpe_v 5) (tpe_int)) (tpl_nil)))) (blkOk_by (own := [("part", 6)]) (N := N_rounds_of_gaps_a) (sc := defScope s_rounds_of_gaps_a) (by decide +kernel)) (by decide) (fun _ _ _ _ _ => tpg_n (i := 6) nd rfl (by first | exact Or.inl rfl | exact Or.inr rfl)) (fun _ _ _ _ _ => tpts_one ((tpw_and (tpt_cmp (o_eq hr.units) (tpe_bin o_mod (tpe_v 5) (tpe_v 6)) (tpe_int) (nomark _)) (tpw_and1 (tpt_cmp (o_eq hr.units) (tpe_v 3) (tpe_bin o_add (tpe_sl (tpe_v 3) (tpo_s (tpe_v 6)) (tpo_n)) (tpe_sl (tpe_v 3) (tpo_n) (tpo_s (tpe_v 6)))) (nomark _)))).pt)) (fun _ _ _ _ _ => tpe_v 6))))
      (tpss_one (tps_ret (tpe_calls C_paper_by_b (hr.mono (by decide)) (by rfl) (tpa_f (tpe_v 2) (tpa_f (tpe_calls C_least_lead_a (hr.mono (by decide)) (by rfl) (tpa_f (tpe_v 2) (tpa_f (tpe_v 4) (tpa_nil)))) (tpa_f (tpe_v 4) (tpa_nil))))))))))
theorem fn_rounds_ax (Fn : Fun K "rounds" "rounds" s_rounds_ax f fd) (Z : Bi K mg cls) (C_need_beginning_ax : TL.Cal P w K mg base (L2.CX P w) cls "need_beginning" ["rule", "begin"] 6 sp_need_beginning_ax) (C_rounds_of_gaps_a : TL.Cal P w K mg base CX0 cls "rounds_of_gaps" ["rule", "begin"] 4 sp_rounds_of_gaps_a) (C_rounds_of_sums_a : TL.Cal P w K mg base CX0 cls "rounds_of_sums" ["begin"] 3 sp_rounds_of_sums_a) : FnOk P w K mg base (L2.CX P w) 7 f fd ["rule", "begin"] (liftSp K cls sp_rounds_ax) := by
  have nd := sc_rounds_ax.nd
  refine defX (N := N_rounds_ax) (ps := ["rule", "begin"]) (k := 6) (t := rd_rounds_ax) Fn sc_rounds_ax ln_rounds_ax (fun cdv A outer s H E B XT hr hE => ?_) (fun as PR PX h => ok_rounds_ax as PR PX h)
  have hu65 := Room.units65 hr
  have T : Thr (cxOf (L2.CX P w) P w K mg base N_rounds_ax "rounds" (defScope s_rounds_ax) f cdv A outer s H E) B cls XT := ⟨_, takes_of rfl rfl rfl rfl, fun c F H σ τ I h => hE c F H σ τ I h⟩
  exact tpss_cons (tps_expr (tpe_callX C_need_beginning_ax (hr.mono (by decide)) (by rfl) T (tpa_f (tpe_v 0) (tpa_f (tpe_v 1) (tpa_nil)))))
      (tpss_cons (tps_if (tpt_cmp (o_eq hr.units) (tpe_ix hr.units (tpe_v 0) (tpe_int) (fun _ _ => rfl)) (tpe_str) (nomark _)) (tpss_one (tps_ret (tpe_calls C_rounds_of_gaps_a (hr.mono (by decide)) (by rfl) (tpa_f (tpe_v 0) (tpa_f (tpe_v 1) (tpa_nil)))))) (tpss_nil))
      (tpss_one (tps_ret (tpe_calls C_rounds_of_sums_a (hr.mono (by decide)) (by rfl) (tpa_f (tpe_v 1) (tpa_nil))))))
theorem fn_law_refused_b (Fn : Fun K "_law_refused" "_law_refused" s_law_refused_b f fd) (Z : Bi K mg cls) (C_rounds_ax : TL.Cal P w K mg base (L2.CX P w) cls "rounds" ["rule", "begin"] 7 sp_rounds_ax) : FnOk P w K mg base CX0 8 f fd ["begin"] (liftSp K cls sp_law_refused_b) := by
  have nd := sc_law_refused_b.nd
  refine def0 (N := N_law_refused_b) (ps := ["begin"]) (k := 7) (t := rd_law_refused_b) Fn sc_law_refused_b ln_law_refused_b (fun cdv A outer s H E B hr => ?_) (fun as PR PX h => ok_law_refused_b as PR PX h)
  have hu65 := Room.units65 hr
  exact tpss_cons (tps_set (i := 1) nd rfl (Or.inl rfl) (tpe_bl))
      (tpss_cons (tps_try (i := 2) rfl rfl nd rfl rfl ⟨by rfl, by decide, .inl Z.gS⟩ takes0 Z.hx (fun B pn xe XT T => tpss_one (tps_expr (tpe_callX C_rounds_ax (hr.mono (by decide)) (by rfl) T (tpa_f (tpe_tup (tpl_cons (tpe_str) (tpl_nil))) (tpa_f (tpe_v 0) (tpa_nil))))))
      (fun B a oe c pn hc hz hv => tpss_one (tps_set (i := 1) nd rfl (Or.inl rfl) (tpe_and (tpe_isE (Z.xc c hc) hz hv (by rfl) Z.b_isinstance rfl (by first | exact Or.inl rfl | exact Or.inr (Or.inl rfl) | exact Or.inr (Or.inr rfl)) (cln_own (by rfl) Z.x_Broken.g) (Z.q_Broken c hc)) (tpe_and (tpe_isE (Z.xc c hc) hz hv (by rfl) Z.b_isinstance rfl (by first | exact Or.inl rfl | exact Or.inr (Or.inl rfl) | exact Or.inr (Or.inr rfl)) (cln_ty (by rfl) Z.b_ValueError (by decide +kernel)) (Z.q_ValueError c hc)) (tpe_one (tpe_not (tpe_isE (Z.xc c hc) hz hv (by rfl) Z.b_isinstance rfl (by first | exact Or.inl rfl | exact Or.inr (Or.inl rfl) | exact Or.inr (Or.inr rfl)) (cln_own (by rfl) Z.x_NoPaper.g) (Z.q_NoPaper c hc)))))))))
      (tpss_one (tps_ret (tpe_v 1))))
theorem fn_law_sound_a (Fn : Fun K "_law_sound" "_law_sound" s_law_sound_a f fd) (Z : Bi K mg cls) : FnOk P w K mg base CX0 1 f fd ["thing"] (liftSp K cls sp_law_sound_a) := by
  have nd := sc_law_sound_a.nd
  refine def0 (N := N_law_sound_a) (ps := ["thing"]) (k := 0) (t := rd_law_sound_a) Fn sc_law_sound_a ln_law_sound_a (fun cdv A outer s H E B hr => ?_) (fun as PR PX h => ok_law_sound_a as PR PX h)
  have hu65 := Room.units65 hr
  exact tpss_one (tps_ret (tpe_and (tpe_isi (by rfl) Z.b_isinstance (by rfl) Z.b_int (by decide +kernel) (tpe_v 0)) (tpe_one (tpe_not (tpe_isi (by rfl) Z.b_isinstance (by rfl) Z.b_bool (by decide +kernel) (tpe_v 0))))))
theorem fn_law_right_c (Fn : Fun K "_law_right" "_law_right" s_law_right_c f fd) (Z : Bi K mg cls) (C_law_sound_a : TL.Cal P w K mg base CX0 cls "_law_sound" ["thing"] 1 sp_law_sound_a) : FnOk P w K mg base CX0 2 f fd ["found", "due"] (liftSp K cls sp_law_right_c) := by
  have nd := sc_law_right_c.nd
  refine def0 (N := N_law_right_c) (ps := ["found", "due"]) (k := 1) (t := rd_law_right_c) Fn sc_law_right_c ln_law_right_c (fun cdv A outer s H E B hr => ?_) (fun as PR PX h => ok_law_right_c as PR PX h)
  have hu65 := Room.units65 hr
  exact tpss_cons (tps_if ((tpw_or (tpt_cmp o_is (tpe_v 0) (tpe_non) (nomark _)) (tpw_or1 (tpt_cmp o_is (tpe_v 1) (tpe_non) (nomark _)))).pt) (tpss_one (tps_ret (tpe_and (tpe_cmp o_is (tpe_v 0) (tpe_non) (nomark _)) (tpe_one (tpe_cmp o_is (tpe_v 1) (tpe_non) (nomark _)))))) (tpss_nil))
      (tpss_cons (tps_if ((tpw_or (tpt_not (tpt_val (tpe_isi (by rfl) Z.b_isinstance (by rfl) Z.b_tuple (by decide +kernel) (tpe_v 0)))) (tpw_or (tpt_cmp (o_ne hr.units) (tpe_c1 c_len (by rfl) Z.b_len (by decide +kernel) (tpe_v 0)) (tpe_int) (nomark _)) (tpw_or1 (tpt_cmp (o_ne hr.units) (tpe_v 0) (tpe_v 1) (nomark _))))).pt) (tpss_one (tps_ret (tpe_bl))) (tpss_nil))
      (tpss_cons (tps_set (i := 2) nd rfl (Or.inl rfl) (tpe_bin o_add (tpe_bin o_add (tpe_lst (tpl_cons (tpe_ix hr.units (tpe_v 0) (tpe_int) (fun _ _ => rfl)) (tpl_cons (tpe_ix hr.units (tpe_v 0) (tpe_int) (fun _ _ => rfl)) (tpl_nil)))) (tpe_ct1 c_list (by rfl) Z.b_list (by decide +kernel) (tpe_ix hr.units (tpe_v 0) (tpe_int) (fun _ _ => rfl)))) (tpe_ct1 c_list (by rfl) Z.b_list (by decide +kernel) (tpe_ix hr.units (tpe_v 0) (tpe_int) (fun _ _ => rfl)))))
      (tpss_one (tps_ret (tpe_c1 (c_all rfl) (by rfl) Z.b_all (by decide +kernel) (tpe_lc (own := [("number", 3)]) rfl nd (tpi_seq (tpx_l 2)) (blkOk_by (own := [("number", 3)]) (N := N_law_right_c) (sc := defScope s_law_right_c) (by decide +kernel)) (by decide) (fun _ _ _ _ _ => tpg_n (i := 3) nd rfl (by first | exact Or.inl rfl | exact Or.inr rfl)) (fun _ _ _ _ _ => tpts_nil) (fun _ _ _ _ _ => tpe_calls C_law_sound_a (hr.mono (by decide)) (by rfl) (tpa_f (tpe_v 3) (tpa_nil)))))))))
theorem fn_law_k47 (Fn : Fun K "law" "law" s_law_k47 f fd) (Z : Bi K mg cls) (C_law_begin_c : TL.Cal P w K mg base CX0 cls "_law_begin" ["pool", "rule"] 2 sp_law_begin_c) (C_law_next_a : TL.Cal P w K mg base CX0 cls "_law_next" ["pool", "base"] 1 sp_law_next_a) (C_law_pool_a : TL.Cal P w K mg base CX0 cls "_law_pool" ["cell"] 1 sp_law_pool_a) (C_law_refused_b : TL.Cal P w K mg base CX0 cls "_law_refused" ["begin"] 8 sp_law_refused_b) (C_law_right_c : TL.Cal P w K mg base CX0 cls "_law_right" ["found", "due"] 2 sp_law_right_c) (C_law_sum_paper_a : TL.Cal P w K mg base CX0 cls "_law_sum_paper" ["begin"] 3 sp_law_sum_paper_a) (C_rounds_ax : TL.Cal P w K mg base (L2.CX P w) cls "rounds" ["rule", "begin"] 7 sp_rounds_ax) : FnOk P w K mg base CX0 9 f fd ["script"] (liftSp K cls sp_law_k47) := by
  have nd := sc_law_k47.nd
  refine def0 (N := N_law_k47) (ps := ["script"]) (k := 8) (t := rd_law_k47) Fn sc_law_k47 ln_law_k47 (fun cdv A outer s H E B hr => ?_) (fun as PR PX h => ok_law_k47 as PR PX h)
  have hu65 := Room.units65 hr
  exact tpss_cons (tps_for PassesOwn.never rfl (tpi_seq (tpx_f (tpe_bin o_add (tpe_lst (tpl_cons (tpe_int) (tpl_nil))) (tpe_sl (tpe_v 0) (tpo_n) (tpo_s (tpe_int)))))) (tpg_n (i := 1) nd rfl (Or.inl rfl)) (tpss_cons (tps_set (i := 2) nd rfl (Or.inr rfl) (tpe_calls C_law_pool_a (hr.mono (by decide)) (by rfl) (tpa_f (tpe_v 1) (tpa_nil))))
      (tpss_cons (tps_set (i := 3) nd rfl (Or.inl rfl) (tpe_calls C_law_begin_c (hr.mono (by decide)) (by rfl) (tpa_v 2 (tpa_f (tpe_tup (tpl_cons (tpe_str) (tpl_nil))) (tpa_nil)))))
      (tpss_cons (tps_set (i := 4) nd rfl (Or.inl rfl) (tpe_calls C_law_sum_paper_a (hr.mono (by decide)) (by rfl) (tpa_f (tpe_v 3) (tpa_nil))))
      (tpss_cons (tps_if ((tpw_or (tpt_not (tpt_val (tpe_calls C_law_right_c (hr.mono (by decide)) (by rfl) (tpa_f (tpe_callX C_rounds_ax (hr.mono (by decide)) (by rfl) thr0 (tpa_f (tpe_tup (tpl_cons (tpe_str) (tpl_nil))) (tpa_f (tpe_v 3) (tpa_nil)))) (tpa_f (tpe_v 4) (tpa_nil)))))) (tpw_or1 (tpt_cmp (o_ne hr.units) (tpe_callX C_rounds_ax (hr.mono (by decide)) (by rfl) thr0 (tpa_f (tpe_tup (tpl_cons (tpe_str) (tpl_nil))) (tpa_f (tpe_v 3) (tpa_nil)))) (tpe_v 4) (nomark _)))).pt) (tpss_one (tps_ret (tpe_bl))) (tpss_nil))
      (tpss_cons (tps_set (i := 5) nd rfl (Or.inl rfl) (tpe_bin o_add (tpe_int) (tpe_calls C_law_next_a (hr.mono (by decide)) (by rfl) (tpa_v 2 (tpa_f (tpe_int) (tpa_nil))))))
      (tpss_cons (tps_set (i := 6) nd rfl (Or.inl rfl) (tpe_bin o_add (tpe_int) (tpe_calls C_law_next_a (hr.mono (by decide)) (by rfl) (tpa_v 2 (tpa_f (tpe_int) (tpa_nil))))))
      (tpss_cons (tps_set (i := 7) nd rfl (Or.inl rfl) (tpe_bin o_add (tpe_lc (own := [("turn", 8)]) rfl nd (tpi_rng1 (by rfl) Z.b_range (tpl_cons (tpe_calls C_law_next_a (hr.mono (by decide)) (by rfl) (tpa_v 2 (tpa_f (tpe_int) (tpa_nil)))) (tpl_nil))) (blkOk_by (own := [("turn", 8)]) (N := N_law_k47) (sc := defScope s_law_k47) (by decide +kernel)) (by decide) (fun _ _ _ _ _ => tpg_n (i := 8) nd rfl (by first | exact Or.inl rfl | exact Or.inr rfl)) (fun _ _ _ _ _ => tpts_nil) (fun _ _ _ _ _ => tpe_bin o_add (tpe_int) (tpe_calls C_law_next_a (hr.mono (by decide)) (by rfl) (tpa_v 2 (tpa_f (tpe_int) (tpa_nil)))))) (tpe_lst (tpl_cons (tpe_v 5) (tpl_cons (tpe_v 6) (tpl_cons (tpe_bin o_add (tpe_v 5) (tpe_v 6)) (tpl_nil)))))))
      (tpss_one (tps_if (tpt_not (tpt_val (tpe_calls C_law_refused_b (hr.mono (by decide)) (by rfl) (tpa_f (tpe_ct1 c_tuple (by rfl) Z.b_tuple (by decide +kernel) (tpe_sortSetA rfl (by rfl) Z.b_sorted (by rfl) Z.b_set (tpe_v 7))) (tpa_nil))))) (tpss_one (tps_ret (tpe_bl))) (tpss_nil)))))))))))
      (tpss_one (tps_ret (tpe_bl)))
end
theorem all_mk {l : PySem.W.OpenLaw} {w : World} {K : PySem.W.Frag} {h : Heap} {mg : Str → Option Value} {fa : Addr} (X : K.In h) (G : h.Ns mainGlobals mg) (hfa : mg "law" = some (.ref fa))
    {f0 : Addr} {od0 an0 : Option Addr} {sl0 : Array (Option Value)} {oc0 kV0 dc0 pm0 cd0 ct0 : Value}
    (a0 : PySem.W.nsIn K mainGlobals "_law_pool" = some (some (.ref f0))) (l0 : K.lookup f0 = some ⟨oc0, od0, .func (PySem.W.fnOf "_law_pool" "_law_pool" (defArgs s_law_pool_a) (defBody s_law_pool_a) (defScope s_law_pool_a) .none kV0 dc0 pm0 an0 cd0 ct0), sl0⟩) (c0 : PySem.W.codeIn K cd0 "_law_pool" = true) (k0 : PySem.W.keepIn K (.ref f0) = true)
    {f1 : Addr} {od1 an1 : Option Addr} {sl1 : Array (Option Value)} {oc1 kV1 dc1 pm1 cd1 ct1 : Value}
    (a1 : PySem.W.nsIn K mainGlobals "_law_next" = some (some (.ref f1))) (l1 : K.lookup f1 = some ⟨oc1, od1, .func (PySem.W.fnOf "_law_next" "_law_next" (defArgs s_law_next_a) (defBody s_law_next_a) (defScope s_law_next_a) .none kV1 dc1 pm1 an1 cd1 ct1), sl1⟩) (c1 : PySem.W.codeIn K cd1 "_law_next" = true) (k1 : PySem.W.keepIn K (.ref f1) = true)
    {f2 : Addr} {od2 an2 : Option Addr} {sl2 : Array (Option Value)} {oc2 kV2 dc2 pm2 cd2 ct2 : Value}
    (a2 : PySem.W.nsIn K mainGlobals "_law_is_barred" = some (some (.ref f2))) (l2 : K.lookup f2 = some ⟨oc2, od2, .func (PySem.W.fnOf "_law_is_barred" "_law_is_barred" (defArgs s_law_is_barred_a) (defBody s_law_is_barred_a) (defScope s_law_is_barred_a) .none kV2 dc2 pm2 an2 cd2 ct2), sl2⟩) (c2 : PySem.W.codeIn K cd2 "_law_is_barred" = true) (k2 : PySem.W.keepIn K (.ref f2) = true)
    {f3 : Addr} {od3 an3 : Option Addr} {sl3 : Array (Option Value)} {oc3 kV3 dc3 pm3 cd3 ct3 : Value}
    (a3 : PySem.W.nsIn K mainGlobals "_law_begin" = some (some (.ref f3))) (l3 : K.lookup f3 = some ⟨oc3, od3, .func (PySem.W.fnOf "_law_begin" "_law_begin" (defArgs s_law_begin_c) (defBody s_law_begin_c) (defScope s_law_begin_c) .none kV3 dc3 pm3 an3 cd3 ct3), sl3⟩) (c3 : PySem.W.codeIn K cd3 "_law_begin" = true) (k3 : PySem.W.keepIn K (.ref f3) = true)
    {f4 : Addr} {od4 an4 : Option Addr} {sl4 : Array (Option Value)} {oc4 kV4 dc4 pm4 cd4 ct4 : Value}
    (a4 : PySem.W.nsIn K mainGlobals "_law_barred_by" = some (some (.ref f4))) (l4 : K.lookup f4 = some ⟨oc4, od4, .func (PySem.W.fnOf "_law_barred_by" "_law_barred_by" (defArgs s_law_barred_by_a) (defBody s_law_barred_by_a) (defScope s_law_barred_by_a) .none kV4 dc4 pm4 an4 cd4 ct4), sl4⟩) (c4 : PySem.W.codeIn K cd4 "_law_barred_by" = true) (k4 : PySem.W.keepIn K (.ref f4) = true)
    {f5 : Addr} {od5 an5 : Option Addr} {sl5 : Array (Option Value)} {oc5 kV5 dc5 pm5 cd5 ct5 : Value}
    (a5 : PySem.W.nsIn K mainGlobals "_law_there" = some (some (.ref f5))) (l5 : K.lookup f5 = some ⟨oc5, od5, .func (PySem.W.fnOf "_law_there" "_law_there" (defArgs s_law_there_a) (defBody s_law_there_a) (defScope s_law_there_a) .none kV5 dc5 pm5 an5 cd5 ct5), sl5⟩) (c5 : PySem.W.codeIn K cd5 "_law_there" = true) (k5 : PySem.W.keepIn K (.ref f5) = true)
    {f6 : Addr} {od6 an6 : Option Addr} {sl6 : Array (Option Value)} {oc6 kV6 dc6 pm6 cd6 ct6 : Value}
    (a6 : PySem.W.nsIn K mainGlobals "_law_back" = some (some (.ref f6))) (l6 : K.lookup f6 = some ⟨oc6, od6, .func (PySem.W.fnOf "_law_back" "_law_back" (defArgs s_law_back_a) (defBody s_law_back_a) (defScope s_law_back_a) .none kV6 dc6 pm6 an6 cd6 ct6), sl6⟩) (c6 : PySem.W.codeIn K cd6 "_law_back" = true) (k6 : PySem.W.keepIn K (.ref f6) = true)
    {f7 : Addr} {od7 an7 : Option Addr} {sl7 : Array (Option Value)} {oc7 kV7 dc7 pm7 cd7 ct7 : Value}
    (a7 : PySem.W.nsIn K mainGlobals "_law_paper" = some (some (.ref f7))) (l7 : K.lookup f7 = some ⟨oc7, od7, .func (PySem.W.fnOf "_law_paper" "_law_paper" (defArgs s_law_paper_b) (defBody s_law_paper_b) (defScope s_law_paper_b) .none kV7 dc7 pm7 an7 cd7 ct7), sl7⟩) (c7 : PySem.W.codeIn K cd7 "_law_paper" = true) (k7 : PySem.W.keepIn K (.ref f7) = true)
    {f8 : Addr} {od8 an8 : Option Addr} {sl8 : Array (Option Value)} {oc8 kV8 dc8 pm8 cd8 ct8 : Value}
    (a8 : PySem.W.nsIn K mainGlobals "_law_sum_paper" = some (some (.ref f8))) (l8 : K.lookup f8 = some ⟨oc8, od8, .func (PySem.W.fnOf "_law_sum_paper" "_law_sum_paper" (defArgs s_law_sum_paper_a) (defBody s_law_sum_paper_a) (defScope s_law_sum_paper_a) .none kV8 dc8 pm8 an8 cd8 ct8), sl8⟩) (c8 : PySem.W.codeIn K cd8 "_law_sum_paper" = true) (k8 : PySem.W.keepIn K (.ref f8) = true)
    {f9 : Addr} {od9 an9 : Option Addr} {sl9 : Array (Option Value)} {oc9 kV9 dc9 pm9 cd9 ct9 : Value}
    (a9 : PySem.W.nsIn K mainGlobals "even_bars" = some (some (.ref f9))) (l9 : K.lookup f9 = some ⟨oc9, od9, .func (PySem.W.fnOf "even_bars" "even_bars" (defArgs s_even_bars_a) (defBody s_even_bars_a) (defScope s_even_bars_a) .none kV9 dc9 pm9 an9 cd9 ct9), sl9⟩) (c9 : PySem.W.codeIn K cd9 "even_bars" = true) (k9 : PySem.W.keepIn K (.ref f9) = true)
    {f10 : Addr} {od10 an10 : Option Addr} {sl10 : Array (Option Value)} {oc10 kV10 dc10 pm10 cd10 ct10 : Value}
    (a10 : PySem.W.nsIn K mainGlobals "sum_bars" = some (some (.ref f10))) (l10 : K.lookup f10 = some ⟨oc10, od10, .func (PySem.W.fnOf "sum_bars" "sum_bars" (defArgs s_sum_bars_a) (defBody s_sum_bars_a) (defScope s_sum_bars_a) .none kV10 dc10 pm10 an10 cd10 ct10), sl10⟩) (c10 : PySem.W.codeIn K cd10 "sum_bars" = true) (k10 : PySem.W.keepIn K (.ref f10) = true)
    {f11 : Addr} {od11 an11 : Option Addr} {sl11 : Array (Option Value)} {oc11 kV11 dc11 pm11 cd11 ct11 : Value}
    (a11 : PySem.W.nsIn K mainGlobals "pair_bars" = some (some (.ref f11))) (l11 : K.lookup f11 = some ⟨oc11, od11, .func (PySem.W.fnOf "pair_bars" "pair_bars" (defArgs s_pair_bars_a) (defBody s_pair_bars_a) (defScope s_pair_bars_a) .none kV11 dc11 pm11 an11 cd11 ct11), sl11⟩) (c11 : PySem.W.codeIn K cd11 "pair_bars" = true) (k11 : PySem.W.keepIn K (.ref f11) = true)
    {f12 : Addr} {od12 an12 : Option Addr} {sl12 : Array (Option Value)} {oc12 kV12 dc12 pm12 cd12 ct12 : Value}
    (a12 : PySem.W.nsIn K mainGlobals "all_bars" = some (some (.ref f12))) (l12 : K.lookup f12 = some ⟨oc12, od12, .func (PySem.W.fnOf "all_bars" "all_bars" (defArgs s_all_bars_a) (defBody s_all_bars_a) (defScope s_all_bars_a) .none kV12 dc12 pm12 an12 cd12 ct12), sl12⟩) (c12 : PySem.W.codeIn K cd12 "all_bars" = true) (k12 : PySem.W.keepIn K (.ref f12) = true)
    {f13 : Addr} {od13 an13 : Option Addr} {sl13 : Array (Option Value)} {oc13 kV13 dc13 pm13 cd13 ct13 : Value}
    (a13 : PySem.W.nsIn K mainGlobals "bar" = some (some (.ref f13))) (l13 : K.lookup f13 = some ⟨oc13, od13, .func (PySem.W.fnOf "bar" "bar" (defArgs s_bar_a) (defBody s_bar_a) (defScope s_bar_a) .none kV13 dc13 pm13 an13 cd13 ct13), sl13⟩) (c13 : PySem.W.codeIn K cd13 "bar" = true) (k13 : PySem.W.keepIn K (.ref f13) = true)
    {f14 : Addr} {od14 an14 : Option Addr} {sl14 : Array (Option Value)} {oc14 kV14 dc14 pm14 cd14 ct14 : Value}
    (a14 : PySem.W.nsIn K mainGlobals "break_of" = some (some (.ref f14))) (l14 : K.lookup f14 = some ⟨oc14, od14, .func (PySem.W.fnOf "break_of" "break_of" (defArgs s_break_of_a) (defBody s_break_of_a) (defScope s_break_of_a) .none kV14 dc14 pm14 an14 cd14 ct14), sl14⟩) (c14 : PySem.W.codeIn K cd14 "break_of" = true) (k14 : PySem.W.keepIn K (.ref f14) = true)
    {f15 : Addr} {od15 an15 : Option Addr} {sl15 : Array (Option Value)} {oc15 kV15 dc15 pm15 cd15 ct15 : Value}
    (a15 : PySem.W.nsIn K mainGlobals "keeps" = some (some (.ref f15))) (l15 : K.lookup f15 = some ⟨oc15, od15, .func (PySem.W.fnOf "keeps" "keeps" (defArgs s_keeps_a) (defBody s_keeps_a) (defScope s_keeps_a) .none kV15 dc15 pm15 an15 cd15 ct15), sl15⟩) (c15 : PySem.W.codeIn K cd15 "keeps" = true) (k15 : PySem.W.keepIn K (.ref f15) = true)
    {f16 : Addr} {od16 an16 : Option Addr} {sl16 : Array (Option Value)} {oc16 kV16 dc16 pm16 cd16 ct16 : Value}
    (a16 : PySem.W.nsIn K mainGlobals "need_beginning" = some (some (.ref f16))) (l16 : K.lookup f16 = some ⟨oc16, od16, .func (PySem.W.fnOf "need_beginning" "need_beginning" (defArgs s_need_beginning_ax) (defBody s_need_beginning_ax) (defScope s_need_beginning_ax) .none kV16 dc16 pm16 an16 cd16 ct16), sl16⟩) (c16 : PySem.W.codeIn K cd16 "need_beginning" = true) (k16 : PySem.W.keepIn K (.ref f16) = true)
    {f17 : Addr} {od17 an17 : Option Addr} {sl17 : Array (Option Value)} {oc17 kV17 dc17 pm17 cd17 ct17 : Value}
    (a17 : PySem.W.nsIn K mainGlobals "is_barred" = some (some (.ref f17))) (l17 : K.lookup f17 = some ⟨oc17, od17, .func (PySem.W.fnOf "is_barred" "is_barred" (defArgs s_is_barred_a) (defBody s_is_barred_a) (defScope s_is_barred_a) .none kV17 dc17 pm17 an17 cd17 ct17), sl17⟩) (c17 : PySem.W.codeIn K cd17 "is_barred" = true) (k17 : PySem.W.keepIn K (.ref f17) = true)
    {f18 : Addr} {od18 an18 : Option Addr} {sl18 : Array (Option Value)} {oc18 kV18 dc18 pm18 cd18 ct18 : Value}
    (a18 : PySem.W.nsIn K mainGlobals "grown" = some (some (.ref f18))) (l18 : K.lookup f18 = some ⟨oc18, od18, .func (PySem.W.fnOf "grown" "grown" (defArgs s_grown_a) (defBody s_grown_a) (defScope s_grown_a) .none kV18 dc18 pm18 an18 cd18 ct18), sl18⟩) (c18 : PySem.W.codeIn K cd18 "grown" = true) (k18 : PySem.W.keepIn K (.ref f18) = true)
    {f19 : Addr} {od19 an19 : Option Addr} {sl19 : Array (Option Value)} {oc19 kV19 dc19 pm19 cd19 ct19 : Value}
    (a19 : PySem.W.nsIn K mainGlobals "least_lead" = some (some (.ref f19))) (l19 : K.lookup f19 = some ⟨oc19, od19, .func (PySem.W.fnOf "least_lead" "least_lead" (defArgs s_least_lead_a) (defBody s_least_lead_a) (defScope s_least_lead_a) .none kV19 dc19 pm19 an19 cd19 ct19), sl19⟩) (c19 : PySem.W.codeIn K cd19 "least_lead" = true) (k19 : PySem.W.keepIn K (.ref f19) = true)
    {f20 : Addr} {od20 an20 : Option Addr} {sl20 : Array (Option Value)} {oc20 kV20 dc20 pm20 cd20 ct20 : Value}
    (a20 : PySem.W.nsIn K mainGlobals "paper_by" = some (some (.ref f20))) (l20 : K.lookup f20 = some ⟨oc20, od20, .func (PySem.W.fnOf "paper_by" "paper_by" (defArgs s_paper_by_b) (defBody s_paper_by_b) (defScope s_paper_by_b) .none kV20 dc20 pm20 an20 cd20 ct20), sl20⟩) (c20 : PySem.W.codeIn K cd20 "paper_by" = true) (k20 : PySem.W.keepIn K (.ref f20) = true)
    {f21 : Addr} {od21 an21 : Option Addr} {sl21 : Array (Option Value)} {oc21 kV21 dc21 pm21 cd21 ct21 : Value}
    (a21 : PySem.W.nsIn K mainGlobals "rounds_of_sums" = some (some (.ref f21))) (l21 : K.lookup f21 = some ⟨oc21, od21, .func (PySem.W.fnOf "rounds_of_sums" "rounds_of_sums" (defArgs s_rounds_of_sums_a) (defBody s_rounds_of_sums_a) (defScope s_rounds_of_sums_a) .none kV21 dc21 pm21 an21 cd21 ct21), sl21⟩) (c21 : PySem.W.codeIn K cd21 "rounds_of_sums" = true) (k21 : PySem.W.keepIn K (.ref f21) = true)
    {f22 : Addr} {od22 an22 : Option Addr} {sl22 : Array (Option Value)} {oc22 kV22 dc22 pm22 cd22 ct22 : Value}
    (a22 : PySem.W.nsIn K mainGlobals "met_again" = some (some (.ref f22))) (l22 : K.lookup f22 = some ⟨oc22, od22, .func (PySem.W.fnOf "met_again" "met_again" (defArgs s_met_again_a) (defBody s_met_again_a) (defScope s_met_again_a) .none kV22 dc22 pm22 an22 cd22 ct22), sl22⟩) (c22 : PySem.W.codeIn K cd22 "met_again" = true) (k22 : PySem.W.keepIn K (.ref f22) = true)
    {f23 : Addr} {od23 an23 : Option Addr} {sl23 : Array (Option Value)} {oc23 kV23 dc23 pm23 cd23 ct23 : Value}
    (a23 : PySem.W.nsIn K mainGlobals "rounds_of_gaps" = some (some (.ref f23))) (l23 : K.lookup f23 = some ⟨oc23, od23, .func (PySem.W.fnOf "rounds_of_gaps" "rounds_of_gaps" (defArgs s_rounds_of_gaps_a) (defBody s_rounds_of_gaps_a) (defScope s_rounds_of_gaps_a) .none kV23 dc23 pm23 an23 cd23 ct23), sl23⟩) (c23 : PySem.W.codeIn K cd23 "rounds_of_gaps" = true) (k23 : PySem.W.keepIn K (.ref f23) = true)
    {f24 : Addr} {od24 an24 : Option Addr} {sl24 : Array (Option Value)} {oc24 kV24 dc24 pm24 cd24 ct24 : Value}
    (a24 : PySem.W.nsIn K mainGlobals "rounds" = some (some (.ref f24))) (l24 : K.lookup f24 = some ⟨oc24, od24, .func (PySem.W.fnOf "rounds" "rounds" (defArgs s_rounds_ax) (defBody s_rounds_ax) (defScope s_rounds_ax) .none kV24 dc24 pm24 an24 cd24 ct24), sl24⟩) (c24 : PySem.W.codeIn K cd24 "rounds" = true) (k24 : PySem.W.keepIn K (.ref f24) = true)
    {f25 : Addr} {od25 an25 : Option Addr} {sl25 : Array (Option Value)} {oc25 kV25 dc25 pm25 cd25 ct25 : Value}
    (a25 : PySem.W.nsIn K mainGlobals "_law_refused" = some (some (.ref f25))) (l25 : K.lookup f25 = some ⟨oc25, od25, .func (PySem.W.fnOf "_law_refused" "_law_refused" (defArgs s_law_refused_b) (defBody s_law_refused_b) (defScope s_law_refused_b) .none kV25 dc25 pm25 an25 cd25 ct25), sl25⟩) (c25 : PySem.W.codeIn K cd25 "_law_refused" = true) (k25 : PySem.W.keepIn K (.ref f25) = true)
    {f26 : Addr} {od26 an26 : Option Addr} {sl26 : Array (Option Value)} {oc26 kV26 dc26 pm26 cd26 ct26 : Value}
    (a26 : PySem.W.nsIn K mainGlobals "_law_sound" = some (some (.ref f26))) (l26 : K.lookup f26 = some ⟨oc26, od26, .func (PySem.W.fnOf "_law_sound" "_law_sound" (defArgs s_law_sound_a) (defBody s_law_sound_a) (defScope s_law_sound_a) .none kV26 dc26 pm26 an26 cd26 ct26), sl26⟩) (c26 : PySem.W.codeIn K cd26 "_law_sound" = true) (k26 : PySem.W.keepIn K (.ref f26) = true)
    {f27 : Addr} {od27 an27 : Option Addr} {sl27 : Array (Option Value)} {oc27 kV27 dc27 pm27 cd27 ct27 : Value}
    (a27 : PySem.W.nsIn K mainGlobals "_law_right" = some (some (.ref f27))) (l27 : K.lookup f27 = some ⟨oc27, od27, .func (PySem.W.fnOf "_law_right" "_law_right" (defArgs s_law_right_c) (defBody s_law_right_c) (defScope s_law_right_c) .none kV27 dc27 pm27 an27 cd27 ct27), sl27⟩) (c27 : PySem.W.codeIn K cd27 "_law_right" = true) (k27 : PySem.W.keepIn K (.ref f27) = true)
    {f28 : Addr} {od28 an28 : Option Addr} {sl28 : Array (Option Value)} {oc28 kV28 dc28 pm28 cd28 ct28 : Value}
    (a28 : PySem.W.nsIn K mainGlobals "law" = some (some (.ref f28))) (l28 : K.lookup f28 = some ⟨oc28, od28, .func (PySem.W.fnOf "law" "law" (defArgs s_law_k47) (defBody s_law_k47) (defScope s_law_k47) .none kV28 dc28 pm28 an28 cd28 ct28), sl28⟩) (c28 : PySem.W.codeIn K cd28 "law" = true) (k28 : PySem.W.keepIn K (.ref f28) = true)
    (z0 : PySem.W.nsIn K mainGlobals "ValueError" = some none)
    (z1 : PySem.W.nsIn K mainGlobals "all" = some none)
    (z2 : PySem.W.nsIn K mainGlobals "any" = some none)
    (z3 : PySem.W.nsIn K mainGlobals "bool" = some none)
    (z4 : PySem.W.nsIn K mainGlobals "enumerate" = some none)
    (z5 : PySem.W.nsIn K mainGlobals "int" = some none)
    (z6 : PySem.W.nsIn K mainGlobals "isinstance" = some none)
    (z7 : PySem.W.nsIn K mainGlobals "len" = some none)
    (z8 : PySem.W.nsIn K mainGlobals "list" = some none)
    (z9 : PySem.W.nsIn K mainGlobals "max" = some none)
    (z10 : PySem.W.nsIn K mainGlobals "min" = some none)
    (z11 : PySem.W.nsIn K mainGlobals "range" = some none)
    (z12 : PySem.W.nsIn K mainGlobals "set" = some none)
    (z13 : PySem.W.nsIn K mainGlobals "sorted" = some none)
    (z14 : PySem.W.nsIn K mainGlobals "tuple" = some none)
    {c_Broken : Addr} (n_Broken : PySem.W.nsIn K mainGlobals "Broken" = some (some (.ref c_Broken)))
    {c_NoPaper : Addr} (n_NoPaper : PySem.W.nsIn K mainGlobals "NoPaper" = some (some (.ref c_NoPaper)))
    {c_ShunError : Addr} (n_ShunError : PySem.W.nsIn K mainGlobals "ShunError" = some (some (.ref c_ShunError)))
    (xx_Broken : PySem.W.excIn K c_Broken [.type "ValueError", .type "Exception", .type "BaseException", .type "object"] "ValueError.__new__" = true) (xk_Broken : PySem.W.keepIn K (.ref c_Broken) = true) (xb_Broken : PySem.W.subIn K (.ref c_Broken) (.type "BaseException") = some true) (xt_Broken : PySem.W.typeIn K (.ref c_Broken) = some (.type "type"))
    (xg_Broken : PySem.W.findIn K (.ref c_Broken) "__getattribute__" = some (some (.builtin "BaseException.__getattribute__"))) (xh_Broken : PySem.W.findIn K (.ref c_Broken) "__getattr__" = some none) (xd_Broken : PySem.W.hasDictIn K c_Broken = true) (xa_Broken : PySem.W.findIn K (.ref c_Broken) "__class__" = some (some (.builtin "object.__class__"))) (xm_Broken : PySem.W.mroIn K c_Broken (.type "object") = some true)
    (hx_Broken : PySem.W.subIn K (.ref c_Broken) (.ref c_ShunError) = some true)
    (q_Broken_Broken : PySem.W.kitOne K (.ref c_Broken) (.ref c_Broken) = some true)
    (q_Broken_NoPaper : PySem.W.kitOne K (.ref c_Broken) (.ref c_NoPaper) = some false)
    (q_Broken_ValueError : PySem.W.kitOne K (.ref c_Broken) (.type "ValueError") = some true)
    (xn : PySem.W.specialIn K (.builtin "object.__class__") "__get__" = some (some (.builtin "getset_descriptor.__get__"))) (xq : PySem.W.takesIn K (.builtin "object.__class__") = some true)
    (sh_b : PySem.W.subIn K (.ref c_ShunError) (.type "BaseException") = some true) (sh_d : PySem.W.hasDictIn K c_ShunError = true) (sh_t : PySem.W.typeIn K (.ref c_ShunError) = some (.type "type"))
    {ct_1 : Tok}
    (y_FAR : PySem.W.nsIn K mainGlobals "FAR" = some (some (.int 400 ct_1)))
    {ct_2 : Tok}
    (y_MOST_LEAD : PySem.W.nsIn K mainGlobals "MOST_LEAD" = some (some (.int 100 ct_2)))
    {ct_3 : Tok}
    (y_MOST_TURN : PySem.W.nsIn K mainGlobals "MOST_TURN" = some (some (.int 60 ct_3)))
    : ∃ fd : FuncData, (∀ (s : Shared) (v : Value), BindsTo s fd ⟨[v], []⟩ [("script", v)]) ∧ ∀ base : Heap, K.In base → base.Ns mainGlobals mg → FnOk l.prog w K mg base CX0 9 fa fd ["script"] (liftSp K cls0 sp_law_k47) := by
  have e := hfa.symm.trans (PySem.W.mg_of X G a28)
  cases e
  have F0 := fun_mk (st := s_law_pool_a) l0 c0 k0
  have b0 := F0.binds (ps := ["cell"]) fun _ _ _ _ _ _ us hl => match us, hl with | [_], _ => rfl
  have F1 := fun_mk (st := s_law_next_a) l1 c1 k1
  have b1 := F1.binds (ps := ["pool", "base"]) fun _ _ _ _ _ _ us hl => match us, hl with | [_, _], _ => rfl
  have F2 := fun_mk (st := s_law_is_barred_a) l2 c2 k2
  have b2 := F2.binds (ps := ["rule", "some", "number"]) fun _ _ _ _ _ _ us hl => match us, hl with | [_, _, _], _ => rfl
  have F3 := fun_mk (st := s_law_begin_c) l3 c3 k3
  have b3 := F3.binds (ps := ["pool", "rule"]) fun _ _ _ _ _ _ us hl => match us, hl with | [_, _], _ => rfl
  have F4 := fun_mk (st := s_law_barred_by_a) l4 c4 k4
  have b4 := F4.binds (ps := ["rule", "there", "number"]) fun _ _ _ _ _ _ us hl => match us, hl with | [_, _, _], _ => rfl
  have F5 := fun_mk (st := s_law_there_a) l5 c5 k5
  have b5 := F5.binds (ps := ["rule", "begin", "bound"]) fun _ _ _ _ _ _ us hl => match us, hl with | [_, _, _], _ => rfl
  have F6 := fun_mk (st := s_law_back_a) l6 c6 k6
  have b6 := F6.binds (ps := ["there", "turn"]) fun _ _ _ _ _ _ us hl => match us, hl with | [_, _], _ => rfl
  have F7 := fun_mk (st := s_law_paper_b) l7 c7 k7
  have b7 := F7.binds (ps := ["there", "lead", "turn"]) fun _ _ _ _ _ _ us hl => match us, hl with | [_, _, _], _ => rfl
  have F8 := fun_mk (st := s_law_sum_paper_a) l8 c8 k8
  have b8 := F8.binds (ps := ["begin"]) fun _ _ _ _ _ _ us hl => match us, hl with | [_], _ => rfl
  have F9 := fun_mk (st := s_even_bars_a) l9 c9 k9
  have b9 := F9.binds (ps := ["some", "number"]) fun _ _ _ _ _ _ us hl => match us, hl with | [_, _], _ => rfl
  have F10 := fun_mk (st := s_sum_bars_a) l10 c10 k10
  have b10 := F10.binds (ps := ["some", "number"]) fun _ _ _ _ _ _ us hl => match us, hl with | [_, _], _ => rfl
  have F11 := fun_mk (st := s_pair_bars_a) l11 c11 k11
  have b11 := F11.binds (ps := ["some", "number"]) fun _ _ _ _ _ _ us hl => match us, hl with | [_, _], _ => rfl
  have F12 := fun_mk (st := s_all_bars_a) l12 c12 k12
  have b12 := F12.binds (ps := ["rule", "some", "number"]) fun _ _ _ _ _ _ us hl => match us, hl with | [_, _, _], _ => rfl
  have F13 := fun_mk (st := s_bar_a) l13 c13 k13
  have b13 := F13.binds (ps := ["rule", "some", "number"]) fun _ _ _ _ _ _ us hl => match us, hl with | [_, _, _], _ => rfl
  have F14 := fun_mk (st := s_break_of_a) l14 c14 k14
  have b14 := F14.binds (ps := ["rule", "some"]) fun _ _ _ _ _ _ us hl => match us, hl with | [_, _], _ => rfl
  have F15 := fun_mk (st := s_keeps_a) l15 c15 k15
  have b15 := F15.binds (ps := ["rule", "some"]) fun _ _ _ _ _ _ us hl => match us, hl with | [_, _], _ => rfl
  have F16 := fun_mk (st := s_need_beginning_ax) l16 c16 k16
  have b16 := F16.binds (ps := ["rule", "begin"]) fun _ _ _ _ _ _ us hl => match us, hl with | [_, _], _ => rfl
  have F17 := fun_mk (st := s_is_barred_a) l17 c17 k17
  have b17 := F17.binds (ps := ["rule", "there", "number"]) fun _ _ _ _ _ _ us hl => match us, hl with | [_, _, _], _ => rfl
  have F18 := fun_mk (st := s_grown_a) l18 c18 k18
  have b18 := F18.binds (ps := ["rule", "begin", "bound"]) fun _ _ _ _ _ _ us hl => match us, hl with | [_, _, _], _ => rfl
  have F19 := fun_mk (st := s_least_lead_a) l19 c19 k19
  have b19 := F19.binds (ps := ["there", "turn"]) fun _ _ _ _ _ _ us hl => match us, hl with | [_, _], _ => rfl
  have F20 := fun_mk (st := s_paper_by_b) l20 c20 k20
  have b20 := F20.binds (ps := ["there", "lead", "turn"]) fun _ _ _ _ _ _ us hl => match us, hl with | [_, _, _], _ => rfl
  have F21 := fun_mk (st := s_rounds_of_sums_a) l21 c21 k21
  have b21 := F21.binds (ps := ["begin"]) fun _ _ _ _ _ _ us hl => match us, hl with | [_], _ => rfl
  have F22 := fun_mk (st := s_met_again_a) l22 c22 k22
  have b22 := F22.binds (ps := ["rule", "begin"]) fun _ _ _ _ _ _ us hl => match us, hl with | [_, _], _ => rfl
  have F23 := fun_mk (st := s_rounds_of_gaps_a) l23 c23 k23
  have b23 := F23.binds (ps := ["rule", "begin"]) fun _ _ _ _ _ _ us hl => match us, hl with | [_, _], _ => rfl
  have F24 := fun_mk (st := s_rounds_ax) l24 c24 k24
  have b24 := F24.binds (ps := ["rule", "begin"]) fun _ _ _ _ _ _ us hl => match us, hl with | [_, _], _ => rfl
  have F25 := fun_mk (st := s_law_refused_b) l25 c25 k25
  have b25 := F25.binds (ps := ["begin"]) fun _ _ _ _ _ _ us hl => match us, hl with | [_], _ => rfl
  have F26 := fun_mk (st := s_law_sound_a) l26 c26 k26
  have b26 := F26.binds (ps := ["thing"]) fun _ _ _ _ _ _ us hl => match us, hl with | [_], _ => rfl
  have F27 := fun_mk (st := s_law_right_c) l27 c27 k27
  have b27 := F27.binds (ps := ["found", "due"]) fun _ _ _ _ _ _ us hl => match us, hl with | [_, _], _ => rfl
  have F28 := fun_mk (st := s_law_k47) l28 c28 k28
  obtain ⟨cls, e_Broken, e_NoPaper, e_ShunError⟩ : ∃ cls : String → Addr, cls "Broken" = c_Broken ∧ cls "NoPaper" = c_NoPaper ∧ cls "ShunError" = c_ShunError := ⟨fun c => if c = "Broken" then c_Broken else if c = "NoPaper" then c_NoPaper else if c = "ShunError" then c_ShunError else 0, by simp, by simp, by simp⟩
  have Z : Bi K mg cls := ⟨⟨by rw [e_Broken]; exact PySem.W.mg_of X G n_Broken, by rw [e_Broken]; exact xx_Broken, by rw [e_Broken]; exact xk_Broken, by rw [e_Broken]; exact xb_Broken, by rw [e_Broken]; exact xt_Broken⟩,
    ⟨by rw [e_NoPaper]; exact PySem.W.mg_of X G n_NoPaper⟩,
    fun c hc => by
      have hc := cs_two hc
      simp only [List.mem_cons, List.not_mem_nil, or_false] at hc
      rcases hc with rfl
      · rw [e_Broken, show isSub "Broken" ["Broken"] = true by decide]; exact q_Broken_Broken,
    fun c hc => by
      have hc := cs_two hc
      simp only [List.mem_cons, List.not_mem_nil, or_false] at hc
      rcases hc with rfl
      · rw [e_Broken, e_NoPaper, show isSub "Broken" ["NoPaper"] = false by decide]; exact q_Broken_NoPaper,
    fun c hc => by
      have hc := cs_two hc
      simp only [List.mem_cons, List.not_mem_nil, or_false] at hc
      rcases hc with rfl
      · rw [e_Broken, show isSub "Broken" ["ValueError"] = true by decide]; exact q_Broken_ValueError,
    fun c hc => by
      have hc := cs_two hc
      simp only [List.mem_cons, List.not_mem_nil, or_false] at hc
      rcases hc with rfl
      · rw [e_Broken]; exact ⟨xg_Broken, xh_Broken, xb_Broken, xd_Broken, xa_Broken, xn, xq, xm_Broken⟩,
    fun c hc => by
      have hc := cs_two hc
      simp only [List.mem_cons, List.not_mem_nil, or_false] at hc
      rcases hc with rfl
      · rw [e_Broken, e_ShunError]; exact PySem.W.exm_ref sh_b sh_d sh_t hx_Broken,
    by rw [e_ShunError]; exact PySem.W.mg_of X G n_ShunError,
    PySem.W.mg_none_of X G z0,
    PySem.W.mg_none_of X G z1,
    PySem.W.mg_none_of X G z2,
    PySem.W.mg_none_of X G z3,
    PySem.W.mg_none_of X G z4,
    PySem.W.mg_none_of X G z5,
    PySem.W.mg_none_of X G z6,
    PySem.W.mg_none_of X G z7,
    PySem.W.mg_none_of X G z8,
    PySem.W.mg_none_of X G z9,
    PySem.W.mg_none_of X G z10,
    PySem.W.mg_none_of X G z11,
    PySem.W.mg_none_of X G z12,
    PySem.W.mg_none_of X G z13,
    PySem.W.mg_none_of X G z14,
    ⟨.int 400, _, PySem.W.mg_of X G y_FAR, ⟨_, rfl⟩, fun F => rfl⟩,
    ⟨.int 100, _, PySem.W.mg_of X G y_MOST_LEAD, ⟨_, rfl⟩, fun F => rfl⟩,
    ⟨.int 60, _, PySem.W.mg_of X G y_MOST_TURN, ⟨_, rfl⟩, fun F => rfl⟩⟩
  refine ⟨PySem.W.fnOf "law" "law" (defArgs s_law_k47) (defBody s_law_k47) (defScope s_law_k47) .none kV28 dc28 pm28 an28 cd28 ct28, fun s v => .of_eq rfl, fun base _ _ => ?_⟩
  have C_law_pool_a : TL.Cal l.prog w K mg base CX0 cls "_law_pool" ["cell"] 1 sp_law_pool_a := ⟨f0, _, fn_law_pool_a F0 Z, PySem.W.mg_of X G a0, k0, b0⟩
  have C_law_next_a : TL.Cal l.prog w K mg base CX0 cls "_law_next" ["pool", "base"] 1 sp_law_next_a := ⟨f1, _, fn_law_next_a F1 Z, PySem.W.mg_of X G a1, k1, b1⟩
  have C_law_is_barred_a : TL.Cal l.prog w K mg base CX0 cls "_law_is_barred" ["rule", "some", "number"] 1 sp_law_is_barred_a := ⟨f2, _, fn_law_is_barred_a F2 Z, PySem.W.mg_of X G a2, k2, b2⟩
  have C_law_begin_c : TL.Cal l.prog w K mg base CX0 cls "_law_begin" ["pool", "rule"] 2 sp_law_begin_c := ⟨f3, _, fn_law_begin_c F3 Z C_law_is_barred_a C_law_next_a, PySem.W.mg_of X G a3, k3, b3⟩
  have C_law_barred_by_a : TL.Cal l.prog w K mg base CX0 cls "_law_barred_by" ["rule", "there", "number"] 1 sp_law_barred_by_a := ⟨f4, _, fn_law_barred_by_a F4 Z, PySem.W.mg_of X G a4, k4, b4⟩
  have C_law_there_a : TL.Cal l.prog w K mg base CX0 cls "_law_there" ["rule", "begin", "bound"] 2 sp_law_there_a := ⟨f5, _, fn_law_there_a F5 Z C_law_barred_by_a, PySem.W.mg_of X G a5, k5, b5⟩
  have C_law_back_a : TL.Cal l.prog w K mg base CX0 cls "_law_back" ["there", "turn"] 1 sp_law_back_a := ⟨f6, _, fn_law_back_a F6 Z, PySem.W.mg_of X G a6, k6, b6⟩
  have C_law_paper_b : TL.Cal l.prog w K mg base CX0 cls "_law_paper" ["there", "lead", "turn"] 1 sp_law_paper_b := ⟨f7, _, fn_law_paper_b F7 Z, PySem.W.mg_of X G a7, k7, b7⟩
  have C_law_sum_paper_a : TL.Cal l.prog w K mg base CX0 cls "_law_sum_paper" ["begin"] 3 sp_law_sum_paper_a := ⟨f8, _, fn_law_sum_paper_a F8 Z C_law_back_a C_law_paper_b C_law_there_a, PySem.W.mg_of X G a8, k8, b8⟩
  have C_even_bars_a : TL.Cal l.prog w K mg base CX0 cls "even_bars" ["some", "number"] 1 sp_even_bars_a := ⟨f9, _, fn_even_bars_a F9 Z, PySem.W.mg_of X G a9, k9, b9⟩
  have C_sum_bars_a : TL.Cal l.prog w K mg base CX0 cls "sum_bars" ["some", "number"] 1 sp_sum_bars_a := ⟨f10, _, fn_sum_bars_a F10 Z, PySem.W.mg_of X G a10, k10, b10⟩
  have C_pair_bars_a : TL.Cal l.prog w K mg base CX0 cls "pair_bars" ["some", "number"] 1 sp_pair_bars_a := ⟨f11, _, fn_pair_bars_a F11 Z, PySem.W.mg_of X G a11, k11, b11⟩
  have C_all_bars_a : TL.Cal l.prog w K mg base CX0 cls "all_bars" ["rule", "some", "number"] 2 sp_all_bars_a := ⟨f12, _, fn_all_bars_a F12 Z C_even_bars_a C_pair_bars_a C_sum_bars_a, PySem.W.mg_of X G a12, k12, b12⟩
  have C_bar_a : TL.Cal l.prog w K mg base CX0 cls "bar" ["rule", "some", "number"] 3 sp_bar_a := ⟨f13, _, fn_bar_a F13 Z C_all_bars_a, PySem.W.mg_of X G a13, k13, b13⟩
  have C_break_of_a : TL.Cal l.prog w K mg base CX0 cls "break_of" ["rule", "some"] 4 sp_break_of_a := ⟨f14, _, fn_break_of_a F14 Z C_bar_a, PySem.W.mg_of X G a14, k14, b14⟩
  have C_keeps_a : TL.Cal l.prog w K mg base CX0 cls "keeps" ["rule", "some"] 5 sp_keeps_a := ⟨f15, _, fn_keeps_a F15 Z C_break_of_a, PySem.W.mg_of X G a15, k15, b15⟩
  have C_need_beginning_ax : TL.Cal l.prog w K mg base (L2.CX l.prog w) cls "need_beginning" ["rule", "begin"] 6 sp_need_beginning_ax := ⟨f16, _, fn_need_beginning_ax F16 Z C_keeps_a, PySem.W.mg_of X G a16, k16, b16⟩
  have C_is_barred_a : TL.Cal l.prog w K mg base CX0 cls "is_barred" ["rule", "there", "number"] 1 sp_is_barred_a := ⟨f17, _, fn_is_barred_a F17 Z, PySem.W.mg_of X G a17, k17, b17⟩
  have C_grown_a : TL.Cal l.prog w K mg base CX0 cls "grown" ["rule", "begin", "bound"] 2 sp_grown_a := ⟨f18, _, fn_grown_a F18 Z C_is_barred_a, PySem.W.mg_of X G a18, k18, b18⟩
  have C_least_lead_a : TL.Cal l.prog w K mg base CX0 cls "least_lead" ["there", "turn"] 1 sp_least_lead_a := ⟨f19, _, fn_least_lead_a F19 Z, PySem.W.mg_of X G a19, k19, b19⟩
  have C_paper_by_b : TL.Cal l.prog w K mg base CX0 cls "paper_by" ["there", "lead", "turn"] 1 sp_paper_by_b := ⟨f20, _, fn_paper_by_b F20 Z, PySem.W.mg_of X G a20, k20, b20⟩
  have C_rounds_of_sums_a : TL.Cal l.prog w K mg base CX0 cls "rounds_of_sums" ["begin"] 3 sp_rounds_of_sums_a := ⟨f21, _, fn_rounds_of_sums_a F21 Z C_grown_a C_least_lead_a C_paper_by_b, PySem.W.mg_of X G a21, k21, b21⟩
  have C_met_again_a : TL.Cal l.prog w K mg base CX0 cls "met_again" ["rule", "begin"] 3 sp_met_again_a := ⟨f22, _, fn_met_again_a F22 Z C_grown_a C_is_barred_a, PySem.W.mg_of X G a22, k22, b22⟩
  have C_rounds_of_gaps_a : TL.Cal l.prog w K mg base CX0 cls "rounds_of_gaps" ["rule", "begin"] 4 sp_rounds_of_gaps_a := ⟨f23, _, fn_rounds_of_gaps_a F23 Z C_grown_a C_least_lead_a C_met_again_a C_paper_by_b, PySem.W.mg_of X G a23, k23, b23⟩
  have C_rounds_ax : TL.Cal l.prog w K mg base (L2.CX l.prog w) cls "rounds" ["rule", "begin"] 7 sp_rounds_ax := ⟨f24, _, fn_rounds_ax F24 Z C_need_beginning_ax C_rounds_of_gaps_a C_rounds_of_sums_a, PySem.W.mg_of X G a24, k24, b24⟩
  have C_law_refused_b : TL.Cal l.prog w K mg base CX0 cls "_law_refused" ["begin"] 8 sp_law_refused_b := ⟨f25, _, fn_law_refused_b F25 Z C_rounds_ax, PySem.W.mg_of X G a25, k25, b25⟩
  have C_law_sound_a : TL.Cal l.prog w K mg base CX0 cls "_law_sound" ["thing"] 1 sp_law_sound_a := ⟨f26, _, fn_law_sound_a F26 Z, PySem.W.mg_of X G a26, k26, b26⟩
  have C_law_right_c : TL.Cal l.prog w K mg base CX0 cls "_law_right" ["found", "due"] 2 sp_law_right_c := ⟨f27, _, fn_law_right_c F27 Z C_law_sound_a, PySem.W.mg_of X G a27, k27, b27⟩
  exact FnOk_cls (cls := cls) (fn_law_k47 F28 Z C_law_begin_c C_law_next_a C_law_pool_a C_law_refused_b C_law_right_c C_law_sum_paper_a C_rounds_ax) (fun as PR PX h => h)
end Wk
open PySem PySem.W PyProof.Rows
set_option maxHeartbeats 0 in
theorem PySem.Challenge.cw_shungrow_k47_papers_of_sums_told_holds : PySem.Challenge.rw_shungrow_k47_papers_of_sums_told.Holds := by
  w_on; o_law; k_head; (case hw => w_witness2)
  k_fill
  refine L2.walk_of (l := PySem.Challenge.rw_shungrow_k47_papers_of_sums_told) (n := 63) (k := 9) (x := "script") (CX := fun _ => L2.CX0) (sp := fun w => TL.liftSp _ TL.cls0 Lib.sp_law_k47) rfl (by decide) rfl ⟨rfl, by decide, by decide⟩ (fun w h Y => PySem.W.kIn_of Y) ?F (fun _ H a ns hl ho hS => TL.law_sp H a ns hl ho hS (Lib.top_law_k47 ns hl)) (fun _ _ _ _ _ h => h)
  case F =>
    intro w mg fa h KX G hmg
    refine' Wk.all_mk KX G hmg ?a0 ?l0 ?c0 ?k0 ?a1 ?l1 ?c1 ?k1 ?a2 ?l2 ?c2 ?k2 ?a3 ?l3 ?c3 ?k3 ?a4 ?l4 ?c4 ?k4 ?a5 ?l5 ?c5 ?k5 ?a6 ?l6 ?c6 ?k6 ?a7 ?l7 ?c7 ?k7 ?a8 ?l8 ?c8 ?k8 ?a9 ?l9 ?c9 ?k9 ?a10 ?l10 ?c10 ?k10 ?a11 ?l11 ?c11 ?k11 ?a12 ?l12 ?c12 ?k12 ?a13 ?l13 ?c13 ?k13 ?a14 ?l14 ?c14 ?k14 ?a15 ?l15 ?c15 ?k15 ?a16 ?l16 ?c16 ?k16 ?a17 ?l17 ?c17 ?k17 ?a18 ?l18 ?c18 ?k18 ?a19 ?l19 ?c19 ?k19 ?a20 ?l20 ?c20 ?k20 ?a21 ?l21 ?c21 ?k21 ?a22 ?l22 ?c22 ?k22 ?a23 ?l23 ?c23 ?k23 ?a24 ?l24 ?c24 ?k24 ?a25 ?l25 ?c25 ?k25 ?a26 ?l26 ?c26 ?k26 ?a27 ?l27 ?c27 ?k27 ?a28 ?l28 ?c28 ?k28 ?z0 ?z1 ?z2 ?z3 ?z4 ?z5 ?z6 ?z7 ?z8 ?z9 ?z10 ?z11 ?z12 ?z13 ?z14 ?n_Broken ?n_NoPaper ?n_ShunError ?xx_Broken ?xk_Broken ?xb_Broken ?xt_Broken ?xg_Broken ?xh_Broken ?xd_Broken ?xa_Broken ?xm_Broken ?hx_Broken ?q_Broken_Broken ?q_Broken_NoPaper ?q_Broken_ValueError ?xn ?xq ?sh_b ?sh_d ?sh_t ?y_FAR ?y_MOST_LEAD ?y_MOST_TURN
    (case a0 => k_is); (case l0 => k_is); (case c0 => k_is); (case k0 => k_is); (case a1 => k_is); (case l1 => k_is); (case c1 => k_is); (case k1 => k_is); (case a2 => k_is); (case l2 => k_is); (case c2 => k_is); (case k2 => k_is); (case a3 => k_is); (case l3 => k_is); (case c3 => k_is); (case k3 => k_is); (case a4 => k_is); (case l4 => k_is); (case c4 => k_is); (case k4 => k_is); (case a5 => k_is); (case l5 => k_is); (case c5 => k_is); (case k5 => k_is); (case a6 => k_is); (case l6 => k_is); (case c6 => k_is); (case k6 => k_is); (case a7 => k_is); (case l7 => k_is); (case c7 => k_is); (case k7 => k_is); (case a8 => k_is); (case l8 => k_is); (case c8 => k_is); (case k8 => k_is); (case a9 => k_is); (case l9 => k_is); (case c9 => k_is); (case k9 => k_is); (case a10 => k_is); (case l10 => k_is); (case c10 => k_is); (case k10 => k_is); (case a11 => k_is); (case l11 => k_is); (case c11 => k_is); (case k11 => k_is); (case a12 => k_is); (case l12 => k_is); (case c12 => k_is); (case k12 => k_is); (case a13 => k_is); (case l13 => k_is); (case c13 => k_is); (case k13 => k_is); (case a14 => k_is); (case l14 => k_is); (case c14 => k_is); (case k14 => k_is); (case a15 => k_is); (case l15 => k_is); (case c15 => k_is); (case k15 => k_is); (case a16 => k_is); (case l16 => k_is); (case c16 => k_is); (case k16 => k_is); (case a17 => k_is); (case l17 => k_is); (case c17 => k_is); (case k17 => k_is); (case a18 => k_is); (case l18 => k_is); (case c18 => k_is); (case k18 => k_is); (case a19 => k_is); (case l19 => k_is); (case c19 => k_is); (case k19 => k_is); (case a20 => k_is); (case l20 => k_is); (case c20 => k_is); (case k20 => k_is); (case a21 => k_is); (case l21 => k_is); (case c21 => k_is); (case k21 => k_is); (case a22 => k_is); (case l22 => k_is); (case c22 => k_is); (case k22 => k_is); (case a23 => k_is); (case l23 => k_is); (case c23 => k_is); (case k23 => k_is); (case a24 => k_is); (case l24 => k_is); (case c24 => k_is); (case k24 => k_is); (case a25 => k_is); (case l25 => k_is); (case c25 => k_is); (case k25 => k_is); (case a26 => k_is); (case l26 => k_is); (case c26 => k_is); (case k26 => k_is); (case a27 => k_is); (case l27 => k_is); (case c27 => k_is); (case k27 => k_is); (case a28 => k_is); (case l28 => k_is); (case c28 => k_is); (case k28 => k_is); (case z0 => k_is); (case z1 => k_is); (case z2 => k_is); (case z3 => k_is); (case z4 => k_is); (case z5 => k_is); (case z6 => k_is); (case z7 => k_is); (case z8 => k_is); (case z9 => k_is); (case z10 => k_is); (case z11 => k_is); (case z12 => k_is); (case z13 => k_is); (case z14 => k_is); (case n_Broken => k_is); (case n_NoPaper => k_is); (case n_ShunError => k_is); (case xx_Broken => k_exc); (case xk_Broken => k_is); (case xb_Broken => k_is); (case xt_Broken => k_is); (case xg_Broken => k_is); (case xh_Broken => k_is); (case xd_Broken => k_is); (case xa_Broken => k_is); (case xm_Broken => k_is); (case hx_Broken => k_is); (case q_Broken_Broken => kit_is); (case q_Broken_NoPaper => kit_is); (case q_Broken_ValueError => kit_is); (case xn => k_is); (case xq => k_is); (case sh_b => k_is); (case sh_d => k_is); (case sh_t => k_is); (case y_FAR => k_is); (case y_MOST_LEAD => k_is); (case y_MOST_TURN => k_is)


