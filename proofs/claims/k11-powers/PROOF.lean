import PyProof.Rows.All
import Wide.All
import OpenK.AllK
import Wide.FinOn
import HandS.ForMost
import HandS.Wide
import HandS.Style
import HandS.Gcd
import HandS.Conv
import HandS.TupAny
import HandS.IsInst
import PyProof.ReprBulk
import HandS.Zip
import HandS.Deep
import KE.KMathG
import KE.KDictZip
import HandS.TupMul
import PyProof.LongRange
import HandS.Exc
import HandS.ExcOwn
import HandS.TryOnly
import PySem.Challenge.RW_firstterms_k11_powers_and_what_undoes_th
set_option Elab.async false
set_option linter.all false
set_option maxRecDepth 100000
set_option maxHeartbeats 4000000
namespace Dn
open PySem L2

/-! Part 1: data seen from a shared heap, holders of private objects, the state of a frame -/

def keyD : Key → PyData
  | .inl i => .int i
  | .inr x => .str x

mutual
inductive Sh (K : PySem.W.Frag) (G : Hp) : V → PyData → Prop
  | non : Sh K G .non .none
  | bl (b : Bool) : Sh K G (.bl b) (.bool b)
  | int (i : Int) : Sh K G (.int i) (.int i)
  | str (x : Str) : Sh K G (.str x) (.str x)
  | lst {a : Addr} {xs : List V} {ds : List PyData} : G a = some (.lst xs) → ShL K G xs ds → Sh K G (.ref a) (.list ds)
  | tup {a : Addr} {xs : List V} {ds : List PyData} : SqT K G a xs → ShL K G xs ds → Sh K G (.ref a) (.tuple ds)
  | dkk {a : Addr} {ws : List (Key × V)} {kds : List (PyData × PyData)} : G a = some (.dK ws) → kds.map (·.1) = ws.map (fun p => keyD p.1) → ShL K G (ws.map (·.2)) (kds.map (·.2)) → Sh K G (.ref a) (.dict kds)
  | dtt {a : Addr} {ws : List (List Key × V)} {kds : List (PyData × PyData)} : G a = some (.dT ws) → kds.map (·.1) = ws.map (fun p => PyData.tuple (p.1.map keyD)) → ShL K G (ws.map (·.2)) (kds.map (·.2)) → Sh K G (.ref a) (.dict kds)
inductive ShL (K : PySem.W.Frag) (G : Hp) : List V → List PyData → Prop
  | nil : ShL K G [] []
  | cons {v : V} {vs : List V} {d : PyData} {ds : List PyData} : Sh K G v d → ShL K G vs ds → ShL K G (v :: vs) (d :: ds)
end

abbrev Le (H H' : Hp) : Prop := ∀ a o, H a = some o → H' a = some o
theorem Le.sqT {K : PySem.W.Frag} {G G' : Hp} {a : Addr} {xs : List V} (e : Le G G') (h : SqT K G a xs) : SqT K G' a xs := by
  rcases h with (h | ⟨o, h⟩) | h
  · exact .inl (.inl (e _ _ h))
  · exact .inl (.inr ⟨o, e _ _ h⟩)
  · exact .inr h
theorem Le.sqL {K : PySem.W.Frag} {G G' : Hp} {a : Addr} {xs : List V} (e : Le G G') (h : SqL K G a xs) : SqL K G' a xs := by
  rcases h with (h | ⟨o, h⟩) | h
  · exact .inl (.inl (e _ _ h))
  · exact .inl (.inr ⟨o, e _ _ h⟩)
  · exact .inr h
section
variable {K : PySem.W.Frag} {G G' : Hp}
mutual
theorem Sh.mono (e : Le G G') : ∀ {v : V} {d : PyData}, Sh K G v d → Sh K G' v d
  | _, _, .non => .non
  | _, _, .bl b => .bl b
  | _, _, .int i => .int i
  | _, _, .str x => .str x
  | _, _, .lst h r => .lst (e _ _ h) (ShL.mono e r)
  | _, _, .tup h r => .tup (e.sqT h) (ShL.mono e r)
  | _, _, .dkk h k r => .dkk (e _ _ h) k (ShL.mono e r)
  | _, _, .dtt h k r => .dtt (e _ _ h) k (ShL.mono e r)
theorem ShL.mono (e : Le G G') : ∀ {vs : List V} {ds : List PyData}, ShL K G vs ds → ShL K G' vs ds
  | _, _, .nil => .nil
  | _, _, .cons h r => .cons (Sh.mono e h) (ShL.mono e r)
end
theorem ShL.length : ∀ {vs : List V} {ds : List PyData}, ShL K G vs ds → vs.length = ds.length
  | _, _, .nil => rfl
  | _, _, .cons _ r => congrArg (· + 1) (ShL.length r)
theorem ShL.append : ∀ {vs ws : List V} {ds es : List PyData}, ShL K G vs ds → ShL K G ws es → ShL K G (vs ++ ws) (ds ++ es)
  | _, _, _, _, .nil, q => q
  | _, _, _, _, .cons h r, q => .cons h (ShL.append r q)
theorem ShL.get : ∀ {vs : List V} {ds : List PyData} {i : Nat} {v : V}, ShL K G vs ds → vs[i]? = some v → ∃ d, ds[i]? = some d ∧ Sh K G v d
  | _, _, i, v, .nil, e => by simp at e
  | _, _, 0, v, .cons h r, e => by simp at e; subst e; exact ⟨_, rfl, h⟩
  | _, _, i + 1, v, .cons h r, e => by
    obtain ⟨d, h1, h2⟩ := ShL.get (i := i) r (by simpa using e)
    exact ⟨d, by simpa using h1, h2⟩
theorem ShL.get' : ∀ {vs : List V} {ds : List PyData} {i : Nat} {d : PyData}, ShL K G vs ds → ds[i]? = some d → ∃ v, vs[i]? = some v ∧ Sh K G v d
  | _, _, i, v, .nil, e => by simp at e
  | _, _, 0, v, .cons h r, e => by simp at e; subst e; exact ⟨_, rfl, h⟩
  | _, _, i + 1, v, .cons h r, e => by
    obtain ⟨d, h1, h2⟩ := ShL.get' (i := i) r (by simpa using e)
    exact ⟨d, by simpa using h1, h2⟩
theorem ShL.take : ∀ {vs : List V} {ds : List PyData} (n : Nat), ShL K G vs ds → ShL K G (vs.take n) (ds.take n)
  | _, _, 0, _ => .nil
  | _, _, _ + 1, .nil => .nil
  | _, _, n + 1, .cons h r => .cons h (ShL.take n r)
theorem ShL.drop : ∀ {vs : List V} {ds : List PyData} (n : Nat), ShL K G vs ds → ShL K G (vs.drop n) (ds.drop n)
  | _, _, 0, h => h
  | _, _, _ + 1, .nil => .nil
  | _, _, n + 1, .cons h r => ShL.drop n r
theorem ShL.reverse : ∀ {vs : List V} {ds : List PyData}, ShL K G vs ds → ShL K G vs.reverse ds.reverse
  | _, _, .nil => .nil
  | _, _, .cons h r => by
    rw [List.reverse_cons, List.reverse_cons]
    exact (ShL.reverse r).append (.cons h .nil)
theorem ShL.set {v : V} {d : PyData} (h : Sh K G v d) : ∀ {vs : List V} {ds : List PyData} (i : Nat), ShL K G vs ds → ShL K G (vs.set i v) (ds.set i d)
  | _, _, _, .nil => .nil
  | _, _, 0, .cons _ r => .cons h r
  | _, _, i + 1, .cons q r => .cons q (ShL.set h i r)
theorem ShL.dropLast {vs : List V} {ds : List PyData} (h : ShL K G vs ds) : ShL K G vs.dropLast ds.dropLast := by
  rw [List.dropLast_eq_take, List.dropLast_eq_take, h.length]
  exact h.take _
theorem ShL.repl {v : V} {d : PyData} (h : Sh K G v d) : ∀ n : Nat, ShL K G (List.replicate n v) (List.replicate n d)
  | 0 => .nil
  | n + 1 => .cons h (ShL.repl h n)
theorem shl_ints : ∀ ns : List Int, ShL K G (ns.map V.int) (ns.map PyData.int)
  | [] => .nil
  | n :: ns => .cons (.int n) (shl_ints ns)
theorem ShL.ints : ∀ {vs : List V} {ns : List Int}, ShL K G vs (ns.map PyData.int) → vs = ns.map V.int
  | _, [], .nil => rfl
  | _, n :: ns, .cons h r => by
    cases h
    rw [ShL.ints r] <;> rfl
end

/-- a law's deck: the cells not yet drawn, the mixed number, how many draws there were; ck: whether the cells stand under "cells" or "left" -/
structure Deck where
  ck : Bool
  cells : List Int
  mixed : Int
  draws : Int

/-- what a slot or a place on the way holds: shared data, a private list or dict, the deck, the script, or what slot i holds -/
inductive S where
  | sh (d : PyData)
  | ls (xs : List PyData)
  | dk (kvs : List (Key × PyData))
  | dt (kvs : List (List Key × PyData))
  | deck (st : Deck)
  | scr (ns : List Int)
  | bor (i : Nat)
  /-- nothing of the program: what was shared at some time -/
  | mk (G1 : Hp)

abbrev Env := List (Option S)

def ckS (b : Bool) : Str := if b then "cells" else "left"
def deckKvs (st : Deck) (c : Addr) : List (Key × V) := [(.inr (ckS st.ck), .ref c), (.inr "mixed", .int st.mixed), (.inr "draws", .int st.draws)]

def RelS (K : PySem.W.Frag) (cs : List Nat) (σ : L2.St) (G H : Hp) (v : V) : S → List Addr → Prop
  | .sh d, fp => fp = [] ∧ Sh K G v d
  | .ls ds, fp => ∃ a xs, v = .ref a ∧ fp = [a] ∧ H a = some (.lst xs) ∧ ShL K G xs ds
  | .dk kvs, fp => ∃ a ws, v = .ref a ∧ fp = [a] ∧ H a = some (.dK ws) ∧ ws.map (·.1) = kvs.map (·.1) ∧ ShL K G (ws.map (·.2)) (kvs.map (·.2))
  | .dt kvs, fp => ∃ a ws, v = .ref a ∧ fp = [a] ∧ H a = some (.dT ws) ∧ ws.map (·.1) = kvs.map (·.1) ∧ ShL K G (ws.map (·.2)) (kvs.map (·.2))
  | .deck st, fp => ∃ a c, v = .ref a ∧ fp = [a, c] ∧ a ≠ c ∧ H a = some (.dK (deckKvs st c)) ∧ H c = some (.lst (st.cells.map V.int))
  | .scr ns, fp => fp = [] ∧ ∃ a, v = .ref a ∧ SqL K G a (ns.map V.int)
  | .bor i, fp => fp = [] ∧ i ∉ cs ∧ σ[i]? = some (some v)
  | .mk G1, fp => fp = [] ∧ Le G1 G

theorem RelS.mono {K : PySem.W.Frag} {cs : List Nat} {σ : L2.St} {G H G' H' : Hp} {v : V} {s : S} {fp : List Addr} (r : RelS K cs σ G H v s fp) (e : Le G G') (k : ∀ a ∈ fp, H' a = H a) : RelS K cs σ G' H' v s fp := by
  cases s with
  | sh d => exact ⟨r.1, r.2.mono e⟩
  | ls ds =>
    obtain ⟨a, xs, h1, h2, h3, h4⟩ := r
    exact ⟨a, xs, h1, h2, by rw [k a (by rw [h2]; exact List.mem_cons_self)]; exact h3, h4.mono e⟩
  | dk kvs =>
    obtain ⟨a, xs, h1, h2, h3, h4, h5⟩ := r
    exact ⟨a, xs, h1, h2, by rw [k a (by rw [h2]; exact List.mem_cons_self)]; exact h3, h4, h5.mono e⟩
  | dt kvs =>
    obtain ⟨a, xs, h1, h2, h3, h4, h5⟩ := r
    exact ⟨a, xs, h1, h2, by rw [k a (by rw [h2]; exact List.mem_cons_self)]; exact h3, h4, h5.mono e⟩
  | deck st =>
    obtain ⟨a, c, h1, h2, h3, h4, h5⟩ := r
    refine ⟨a, c, h1, h2, h3, ?_, ?_⟩
    · rw [k a (by rw [h2]; exact List.mem_cons_self)]; exact h4
    · rw [k c (by rw [h2]; exact List.mem_cons_of_mem _ List.mem_cons_self)]; exact h5
  | scr ns =>
    obtain ⟨h1, a, h2, h3⟩ := r
    exact ⟨h1, a, h2, e.sqL h3⟩
  | bor i => exact r
  | mk G1 => exact ⟨r.1, fun a o q => e a o (r.2 a o q)⟩
theorem RelS.slots {K : PySem.W.Frag} {cs : List Nat} {σ σ' : L2.St} {G H : Hp} {v : V} {s : S} {fp : List Addr} (r : RelS K cs σ G H v s fp) (e : ∀ i, i ∉ cs → s = S.bor i → σ'[i]? = σ[i]?) : RelS K cs σ' G H v s fp := by
  cases s with
  | bor i =>
    obtain ⟨h1, h2, h3⟩ := r
    exact ⟨h1, h2, by rw [e i h2 rfl]; exact h3⟩
  | _ => exact r
/-- a private object stands in the heap -/
theorem RelS.there {K : PySem.W.Frag} {cs : List Nat} {σ : L2.St} {G H : Hp} {v : V} {s : S} {fp : List Addr} (r : RelS K cs σ G H v s fp) : ∀ a ∈ fp, H a ≠ none := by
  intro b hb
  cases s with
  | sh d => rw [r.1] at hb; cases hb
  | ls ds =>
    obtain ⟨a, xs, h1, h2, h3, h4⟩ := r
    rw [h2] at hb; rw [List.mem_singleton.mp hb, h3]; simp
  | dk kvs =>
    obtain ⟨a, xs, h1, h2, h3, h4⟩ := r
    rw [h2] at hb; rw [List.mem_singleton.mp hb, h3]; simp
  | dt kvs =>
    obtain ⟨a, xs, h1, h2, h3, h4⟩ := r
    rw [h2] at hb; rw [List.mem_singleton.mp hb, h3]; simp
  | deck st =>
    obtain ⟨a, c, h1, h2, h3, h4, h5⟩ := r
    rw [h2] at hb
    rcases List.mem_cons.mp hb with e | e
    · rw [e, h4]; simp
    · rw [List.mem_singleton.mp e, h5]; simp
  | scr ns => rw [r.1] at hb; cases hb
  | bor i => rw [r.1] at hb; cases hb
  | mk G1 => rw [r.1] at hb; cases hb

structure Hd where
  v : V
  s : S
  fp : List Addr

def isDeck : S → Bool
  | .deck _ => true
  | _ => false
def deckAt (ρ : Env) (i : Nat) : Bool :=
  match ρ[i]? with
  | some (some s) => isDeck s
  | _ => false

/-- what a def found at its entry: the heap, its shared part, what it may change; the slots of its comprehensions' names -/
structure Entry where
  H0 : Hp
  G0 : Hp
  M0 : List Addr
  cs : List Nat

structure Fm (K : PySem.W.Frag) (F : Entry) (G H : Hp) (σ : L2.St) (ρ : Env) (φ : Nat → List Addr) (ts : List Hd) : Prop where
  gh : Le G H
  g0 : Le F.G0 G
  h0 : ∀ a o, F.H0 a = some o → a ∉ F.M0 → H a = some o
  m0 : ∀ a ∈ F.M0, H a ≠ none
  nw : ∀ a, F.H0 a ≠ none → F.G0 a = none → G a = none
  len : σ.length = ρ.length
  sl : ∀ (i : Nat) (s : S), ρ[i]? = some (some s) → ∃ v, σ[i]? = some (some v) ∧ RelS K F.cs σ G H v s (φ i)
  nb : ∀ (i j : Nat), ρ[i]? ≠ some (some (S.bor j))
  ph : ∀ (i : Nat) (a : Addr), a ∈ φ i → G a = none ∧ H a ≠ none ∧ (F.H0 a = none ∨ (a ∈ F.M0 ∧ deckAt ρ i = true))
  dj : ∀ (i j : Nat) (a : Addr), a ∈ φ i → a ∈ φ j → i = j
  tm : ∀ t ∈ ts, RelS K F.cs σ G H t.v t.s t.fp
  tp : ∀ t ∈ ts, ∀ a ∈ t.fp, G a = none ∧ F.H0 a = none ∧ ∀ i, a ∉ φ i
  md : F.M0 ≠ [] → φ 0 = F.M0 ∧ deckAt ρ 0 = true
  tt : ts.Pairwise fun t u => ∀ a ∈ t.fp, a ∉ u.fp

section
variable {K : PySem.W.Frag} {F : Entry} {G G' H H' : Hp} {σ σ' : L2.St} {ρ ρ' : Env} {φ φ' : Nat → List Addr} {ts : List Hd} {t : Hd} {v : V} {s : S} {fp : List Addr}

/-- the shared part and the heap grow, the private objects stay -/
theorem Fm.grow (I : Fm K F G H σ ρ φ ts) (hG : Le G G') (hGH : Le G' H') (kp : ∀ a, G a = none → H a ≠ none → H' a = H a) (hp : ∀ i a, a ∈ φ i → G' a = none) (ht : ∀ t ∈ ts, ∀ a ∈ t.fp, G' a = none)
    (nw : ∀ a, F.H0 a ≠ none → F.G0 a = none → G' a = none) : Fm K F G' H' σ ρ φ ts where
  gh := hGH
  g0 := fun a o e => hG a o (I.g0 a o e)
  h0 := fun a o e hm => by
    have q := I.h0 a o e hm
    cases g : G a with
    | none => rw [kp a g (by rw [q]; simp)]; exact q
    | some u =>
      have q2 := I.gh a u g
      rw [q] at q2; cases q2
      exact hGH a _ (hG a _ g)
  m0 := fun a hm => by
    cases g : G a with
    | none => rw [kp a g (I.m0 a hm)]; exact I.m0 a hm
    | some u => rw [hGH a _ (hG a _ g)]; simp
  nw := nw
  len := I.len
  sl := fun i s e => by
    obtain ⟨v, h1, h2⟩ := I.sl i s e
    exact ⟨v, h1, h2.mono hG fun a ha => kp a (I.ph i a ha).1 (I.ph i a ha).2.1⟩
  nb := I.nb
  ph := fun i a ha => by
    obtain ⟨h1, h2, h3⟩ := I.ph i a ha
    exact ⟨hp i a ha, by rw [kp a h1 h2]; exact h2, h3⟩
  dj := I.dj
  tm := fun t h => (I.tm t h).mono hG fun a ha => kp a (I.tp t h a ha).1 ((I.tm t h).there a ha)
  tp := fun t h a ha => ⟨ht t h a ha, (I.tp t h a ha).2⟩
  tt := I.tt
  md := I.md
/-- what is fresh was not there at the entry -/
theorem Fm.fresh (I : Fm K F G H σ ρ φ ts) {p : Addr} (hp : H p = none) : F.H0 p = none ∧ G p = none ∧ (∀ i, p ∉ φ i) ∧ ∀ t ∈ ts, p ∉ t.fp := by
  have hG : G p = none := by
    cases g : G p with
    | none => rfl
    | some u => rw [I.gh p u g] at hp; cases hp
  refine ⟨?_, hG, fun i hi => (I.ph i p hi).2.1 hp, fun t ht hi => (I.tm t ht).there p hi hp⟩
  cases e : F.H0 p with
  | none => rfl
  | some o =>
    by_cases hm : p ∈ F.M0
    · exact absurd hp (I.m0 p hm)
    · rw [I.h0 p o e hm] at hp; cases hp
/-- a new object, private or not yet held -/
theorem Fm.newP (I : Fm K F G H σ ρ φ ts) {p : Addr} (hp : H p = none) (o : HO) : Fm K F G (upd H p o) σ ρ φ ts :=
  I.grow (fun _ _ e => e) (fun a u e => by rw [upd_ne (fun z => by rw [z, (I.fresh hp).2.1] at e; cases e)]; exact I.gh a u e) (fun a _ hn => by rw [upd_ne (fun z => hn (by rw [z]; exact hp))])
    (fun i a ha => (I.ph i a ha).1) (fun t ht a ha => (I.tp t ht a ha).1) I.nw
/-- a new object, shared at once -/
theorem Fm.newS (I : Fm K F G H σ ρ φ ts) {p : Addr} (hp : H p = none) (o : HO) : Fm K F (upd G p o) (upd H p o) σ ρ φ ts := by
  obtain ⟨h0, hG, hφ, hts⟩ := I.fresh hp
  refine I.grow (fun a u e => ?_) (fun a u e => ?_) (fun a _ hn => ?_) (fun i a ha => ?_) (fun t ht a ha => ?_) fun a h1 h2 => ?_
  · rw [upd_ne (fun z => by rw [z, hG] at e; cases e)]; exact e
  · by_cases z : a = p
    · subst z; rw [upd_same] at e ⊢; exact e
    · rw [upd_ne z] at e ⊢; exact I.gh a u e
  · rw [upd_ne (fun z => hn (by rw [z]; exact hp))]
  · rw [upd_ne (show a ≠ p from fun z => hφ i (by rw [← z]; exact ha))]; exact (I.ph i a ha).1
  · rw [upd_ne (show a ≠ p from fun z => hts t ht (by rw [← z]; exact ha))]; exact (I.tp t ht a ha).1
  · rw [upd_ne (fun z => by rw [z] at h1; exact h1 h0)]; exact I.nw a h1 h2
theorem Fm.drop (I : Fm K F G H σ ρ φ (t :: ts)) : Fm K F G H σ ρ φ ts :=
  ⟨I.gh, I.g0, I.h0, I.m0, I.nw, I.len, I.sl, I.nb, I.ph, I.dj, fun u h => I.tm u (List.mem_cons_of_mem _ h), fun u h => I.tp u (List.mem_cons_of_mem _ h), I.md, (List.pairwise_cons.mp I.tt).2⟩
theorem Fm.push (I : Fm K F G H σ ρ φ ts) (r : RelS K F.cs σ G H v s fp) (p : ∀ a ∈ fp, G a = none ∧ F.H0 a = none ∧ (∀ i, a ∉ φ i) ∧ ∀ t ∈ ts, a ∉ t.fp) : Fm K F G H σ ρ φ (⟨v, s, fp⟩ :: ts) :=
  ⟨I.gh, I.g0, I.h0, I.m0, I.nw, I.len, I.sl, I.nb, I.ph, I.dj, fun u h => by
    rcases List.mem_cons.mp h with e | h
    · subst e; exact r
    · exact I.tm u h, fun u h => by
    rcases List.mem_cons.mp h with e | h
    · subst e; exact fun a ha => ⟨(p a ha).1, (p a ha).2.1, (p a ha).2.2.1⟩
    · exact I.tp u h, I.md, List.pairwise_cons.mpr ⟨fun u h a ha => (p a ha).2.2.2 u h, I.tt⟩⟩
/-- shared data on the way -/
theorem Fm.pushD (I : Fm K F G H σ ρ φ ts) {d : PyData} (r : Sh K G v d) : Fm K F G H σ ρ φ (⟨v, .sh d, []⟩ :: ts) :=
  I.push ⟨rfl, r⟩ fun a ha => by cases ha
/-- what is shared now, noted -/
theorem Fm.mark (I : Fm K F G H σ ρ φ ts) : Fm K F G H σ ρ φ (⟨.non, .mk G, []⟩ :: ts) := I.push ⟨rfl, fun _ _ q => q⟩ fun a ha => by cases ha
theorem Fm.marked {G1 : Hp} (I : Fm K F G H σ ρ φ ts) (h : (⟨.non, .mk G1, []⟩ : Hd) ∈ ts) : Le G1 G := (I.tm _ h).2
theorem Fm.head (I : Fm K F G H σ ρ φ (t :: ts)) : RelS K F.cs σ G H t.v t.s t.fp := I.tm t List.mem_cons_self
/-- a new private list -/
theorem Fm.newL (I : Fm K F G H σ ρ φ ts) {p : Addr} {xs : List V} {ds : List PyData} (hp : H p = none) (r : ShL K G xs ds) : Fm K F G (upd H p (.lst xs)) σ ρ φ (⟨.ref p, .ls ds, [p]⟩ :: ts) := by
  obtain ⟨h0, hG, hφ, hts⟩ := I.fresh hp
  exact (I.newP hp _).push ⟨p, xs, rfl, rfl, upd_same, r⟩ fun a ha => by
    rw [List.mem_singleton.mp ha]; exact ⟨hG, h0, hφ, hts⟩
/-- a new tuple -/
theorem Fm.newT (I : Fm K F G H σ ρ φ ts) {p : Addr} {xs : List V} {ds : List PyData} (hp : H p = none) (r : ShL K G xs ds) : Fm K F (upd G p (.tup xs)) (upd H p (.tup xs)) σ ρ φ (⟨.ref p, .sh (.tuple ds), []⟩ :: ts) := by
  obtain ⟨h0, hG, hφ, hts⟩ := I.fresh hp
  refine (I.newS hp _).pushD (.tup (.inl (.inl upd_same)) (r.mono fun a u e => ?_))
  rw [upd_ne (fun z => by rw [z, hG] at e; cases e)]; exact e
end
end Dn
namespace Dn
open PySem L2
/-! Part 2: looking at a holder's content, sharing it, storing it in a slot, changing it in place -/

/-- the content of what is on the way: a list's items are shared data, the list itself may be private -/
inductive ShW (K : PySem.W.Frag) (G H : Hp) : V → PyData → Prop
  | sc {v : V} {d : PyData} : Sh K G v d → ShW K G H v d
  | ls {a : Addr} {xs : List V} {ds : List PyData} : H a = some (.lst xs) → ShL K G xs ds → ShW K G H (.ref a) (.list ds)

section
variable {K : PySem.W.Frag} {F : Entry} {G G' H H' : Hp} {σ σ' : L2.St} {ρ ρ' : Env} {φ φ' : Nat → List Addr} {ts : List Hd} {t : Hd} {v : V} {s : S} {fp : List Addr} {d : PyData}
theorem ShW.int {i : Int} : ShW K G H v (.int i) → v = .int i
  | .sc (.int _) => rfl
theorem ShW.bl {b : Bool} : ShW K G H v (.bool b) → v = .bl b
  | .sc (.bl _) => rfl
theorem ShW.str {x : Str} : ShW K G H v (.str x) → v = .str x
  | .sc (.str _) => rfl
theorem ShW.non : ShW K G H v .none → v = .non
  | .sc .non => rfl
theorem ShW.list (gh : Le G H) {ds : List PyData} : ShW K G H v (.list ds) → ∃ a xs, v = .ref a ∧ H a = some (.lst xs) ∧ ShL K G xs ds
  | .sc (.lst h r) => ⟨_, _, rfl, gh _ _ h, r⟩
  | .ls h r => ⟨_, _, rfl, h, r⟩
theorem ShW.tup {ds : List PyData} : ShW K G H v (.tuple ds) → ∃ a xs, v = .ref a ∧ SqT K G a xs ∧ ShL K G xs ds
  | .sc (.tup h r) => ⟨_, _, rfl, h, r⟩
theorem ShW.sh (gh : Le G H) : ShW K G H v d → Sh K H v d
  | .sc h => h.mono gh
  | .ls h r => .lst h (r.mono gh)

def view (ρ : Env) : S → Option PyData
  | .sh d => some d
  | .ls xs => some (.list xs)
  | .bor i => match ρ[i]? with
    | some (some (.sh d)) => some d
    | some (some (.ls xs)) => some (.list xs)
    | _ => none
  | _ => none

theorem Fm.slot (I : Fm K F G H σ ρ φ ts) {i : Nat} (r : RelS K F.cs σ G H v (.bor i) fp) (e : ρ[i]? = some (some s)) : RelS K F.cs σ G H v s (φ i) := by
  obtain ⟨v', h1, h2⟩ := I.sl i s e
  have q := r.2.2
  rw [h1] at q
  have q2 : v' = v := Option.some.inj (Option.some.inj q)
  rw [← q2]; exact h2
theorem Fm.view (I : Fm K F G H σ ρ φ ts) (r : RelS K F.cs σ G H v s fp) (e : view ρ s = some d) : ShW K G H v d := by
  cases s with
  | sh d' => cases e; exact .sc r.2
  | ls xs =>
    cases e
    obtain ⟨a, ys, rfl, _, h, q⟩ := r
    exact .ls h q
  | bor i =>
    unfold Dn.view at e
    cases q : ρ[i]? with
    | none => simp only [q] at e; cases e
    | some o =>
      cases o with
      | none => simp only [q] at e; cases e
      | some s' =>
        have r' := I.slot r q
        cases s' with
        | sh d' => simp only [q] at e; cases e; exact .sc r'.2
        | ls xs =>
          simp only [q] at e; cases e
          obtain ⟨a, ys, rfl, _, h, q⟩ := r'
          exact .ls h q
        | _ => simp only [q] at e; cases e
  | _ => cases e

/-- a private object, no slot's, is shared from now on -/
theorem Fm.share (I : Fm K F G H σ ρ φ ts) {a : Addr} {o : HO} (h : H a = some o) (g : G a = none) (h0 : F.H0 a = none) (hs : ∀ i, a ∉ φ i) (ht : ∀ t ∈ ts, a ∉ t.fp) : Fm K F (upd G a o) H σ ρ φ ts := by
  refine I.grow (fun b u e => ?_) (fun b u e => ?_) (fun _ _ _ => rfl) (fun i b hb => ?_) (fun t hm b hb => ?_) fun b h1 h2 => ?_
  · rw [upd_ne (show b ≠ a from fun z => by rw [z, g] at e; cases e)]; exact e
  · by_cases z : b = a
    · subst z; rw [upd_same] at e; cases e; exact h
    · rw [upd_ne z] at e; exact I.gh b u e
  · rw [upd_ne (show b ≠ a from fun z => hs i (by rw [← z]; exact hb))]; exact (I.ph i b hb).1
  · rw [upd_ne (show b ≠ a from fun z => ht t hm (by rw [← z]; exact hb))]; exact (I.tp t hm b hb).1
  · rw [upd_ne (show b ≠ a from fun z => h1 (by rw [z]; exact h0))]; exact I.nw b h1 h2
theorem upd_le {G : Hp} {a : Addr} {o : HO} (g : G a = none) : Le G (upd G a o) := fun b u e => by
  rw [upd_ne (show b ≠ a from fun z => by rw [z, g] at e; cases e)]; exact e

/-- slot i is given other content: a private object of its own may have changed -/
theorem Fm.upAt (I : Fm K F G H σ ρ φ ts) (i : Nat) (s' : S) (hG : Le G G') (hGH : Le G' H') (kp : ∀ a, G a = none → H a ≠ none → a ∉ φ i → H' a = H a) (th : ∀ a ∈ φ i, H' a ≠ none) (hp : ∀ j a, a ∈ φ j → G' a = none)
    (ht : ∀ t ∈ ts, ∀ a ∈ t.fp, G' a = none) (nw : ∀ a, F.H0 a ≠ none → F.G0 a = none → G' a = none) (hv : ∃ v, σ[i]? = some (some v) ∧ RelS K F.cs σ G' H' v s' (φ i)) (hd : isDeck s' = deckAt ρ i) (hb : ∀ j, s' ≠ .bor j) :
    Fm K F G' H' σ (ρ.set i (some s')) φ ts where
  gh := hGH
  g0 := fun a o e => hG a o (I.g0 a o e)
  h0 := fun a o e hm => by
    have q := I.h0 a o e hm
    cases g : G a with
    | none =>
      have na : a ∉ φ i := fun ha => by
        rcases (I.ph i a ha).2.2 with z | ⟨z, _⟩
        · rw [e] at z; cases z
        · exact hm z
      rw [kp a g (by rw [q]; simp) na]; exact q
    | some u =>
      have q2 := I.gh a u g
      rw [q] at q2; cases q2
      exact hGH a _ (hG a _ g)
  m0 := fun a hm => by
    by_cases ha : a ∈ φ i
    · exact th a ha
    · cases g : G a with
      | none => rw [kp a g (I.m0 a hm) ha]; exact I.m0 a hm
      | some u => rw [hGH a _ (hG a _ g)]; simp
  nw := nw
  len := by rw [List.length_set]; exact I.len
  sl := fun j s e => by
    by_cases z : j = i
    · subst z
      have hl : j < ρ.length := by
        have := (List.getElem?_eq_some_iff.mp e).1
        rwa [List.length_set] at this
      rw [List.getElem?_set_self hl] at e
      cases e
      exact hv
    · rw [List.getElem?_set_ne (Ne.symm z)] at e
      obtain ⟨v, h1, h2⟩ := I.sl j s e
      exact ⟨v, h1, h2.mono hG fun a ha => kp a (I.ph j a ha).1 (I.ph j a ha).2.1 fun hi => z (I.dj j i a ha hi)⟩
  nb := fun j k e => by
    by_cases z : j = i
    · subst z
      have hl : j < ρ.length := by
        have := (List.getElem?_eq_some_iff.mp e).1
        rwa [List.length_set] at this
      rw [List.getElem?_set_self hl] at e
      cases e
      exact hb k rfl
    · rw [List.getElem?_set_ne (Ne.symm z)] at e
      exact I.nb j k e
  ph := fun j a ha => by
    obtain ⟨h1, h2, h3⟩ := I.ph j a ha
    refine ⟨hp j a ha, ?_, ?_⟩
    · by_cases hi : a ∈ φ i
      · exact th a hi
      · rw [kp a h1 h2 hi]; exact h2
    · rcases h3 with h3 | ⟨h3, h4⟩
      · exact .inl h3
      · refine .inr ⟨h3, ?_⟩
        by_cases z : j = i
        · subst z
          unfold deckAt at h4 ⊢
          cases q : ρ[j]? with
          | none => simp only [q] at h4; cases h4
          | some o =>
            have hl := (List.getElem?_eq_some_iff.mp q).1
            rw [List.getElem?_set_self hl]
            show isDeck s' = true
            rw [hd]; unfold deckAt; exact h4
        · unfold deckAt at h4 ⊢
          rw [List.getElem?_set_ne (Ne.symm z)]; exact h4
  dj := I.dj
  tm := fun t h => (I.tm t h).mono hG fun a ha => kp a (I.tp t h a ha).1 ((I.tm t h).there a ha) ((I.tp t h a ha).2.2 i)
  tp := fun t h a ha => ⟨ht t h a ha, (I.tp t h a ha).2⟩
  tt := I.tt
  md := fun hm => by
    obtain ⟨h1, h2⟩ := I.md hm
    refine ⟨h1, ?_⟩
    by_cases z : (0 : Nat) = i
    · subst z
      have h2' := h2
      unfold deckAt at h2 ⊢
      cases q : ρ[0]? with
      | none => simp only [q] at h2; cases h2
      | some o =>
        have hl := (List.getElem?_eq_some_iff.mp q).1
        rw [List.getElem?_set_self hl]
        show isDeck s' = true
        rw [hd]; exact h2'
    · unfold deckAt at h2 ⊢
      rw [List.getElem?_set_ne (Ne.symm z)]; exact h2

/-- what is on the way is stored in slot i -/
theorem Fm.set (I : Fm K F G H σ ρ φ (⟨v, s, fp⟩ :: ts)) {i : Nat} (hi : i < ρ.length) (h0 : (i == 0 && deckAt ρ 0) = false) (hs : ∀ j, s ≠ .bor j) (hts : ∀ t ∈ ts, t.s ≠ .bor i) :
    Fm K F G H (σ.set i (some v)) (ρ.set i (some s)) (fun j => if j = i then fp else φ j) ts := by
  have hr := I.head
  have hiσ : i < σ.length := by rw [I.len]; exact hi
  have nd : F.M0 ≠ [] → i ≠ 0 := fun hm z => by
    subst z
    rw [(I.md hm).2] at h0
    cases h0
  have key : ∀ j a, a ∈ (if j = i then fp else φ j) → (j = i ∧ a ∈ fp) ∨ (j ≠ i ∧ a ∈ φ j) := fun j a ha => by
    by_cases z : j = i
    · rw [if_pos z] at ha; exact .inl ⟨z, ha⟩
    · rw [if_neg z] at ha; exact .inr ⟨z, ha⟩
  have htp := I.tp _ (List.mem_cons_self (a := (⟨v, s, fp⟩ : Hd)) (l := ts))
  have htt := List.pairwise_cons.mp I.tt
  refine ⟨I.gh, I.g0, I.h0, I.m0, I.nw, by rw [List.length_set, List.length_set]; exact I.len, fun j s' e => ?_, fun j k e => ?_, fun j a ha => ?_, fun j k a ha hb => ?_, fun t ht => ?_, fun t ht a ha => ?_, fun hm => ?_, htt.2⟩
  · by_cases z : j = i
    · subst z
      rw [List.getElem?_set_self hi] at e
      cases e
      refine ⟨v, List.getElem?_set_self hiσ, ?_⟩
      rw [if_pos rfl]
      exact hr.slots fun k _ e => absurd e (hs k)
    · rw [List.getElem?_set_ne (Ne.symm z)] at e
      obtain ⟨w, h1, h2⟩ := I.sl j s' e
      refine ⟨w, by rw [List.getElem?_set_ne (Ne.symm z)]; exact h1, ?_⟩
      rw [if_neg z]
      exact h2.slots fun k _ e' => absurd (by rw [e, e'] : ρ[j]? = some (some (.bor k))) (I.nb j k)
  · by_cases z : j = i
    · subst z
      rw [List.getElem?_set_self hi] at e
      cases e
      exact hs k rfl
    · rw [List.getElem?_set_ne (Ne.symm z)] at e
      exact I.nb j k e
  · rcases key j a ha with ⟨z, ha⟩ | ⟨z, ha⟩
    · obtain ⟨q1, q2, q3⟩ := htp a ha
      exact ⟨q1, hr.there a ha, .inl q2⟩
    · obtain ⟨q1, q2, q3⟩ := I.ph j a ha
      refine ⟨q1, q2, q3.imp id fun ⟨m, q⟩ => ⟨m, ?_⟩⟩
      unfold deckAt at q ⊢
      rw [List.getElem?_set_ne (Ne.symm z)]; exact q
  · rcases key j a ha with ⟨z, ha⟩ | ⟨z, ha⟩
    · rcases key k a hb with ⟨z', hb⟩ | ⟨z', hb⟩
      · rw [z, z']
      · exact absurd hb ((htp a ha).2.2 k)
    · rcases key k a hb with ⟨z', hb⟩ | ⟨z', hb⟩
      · exact absurd ha ((htp a hb).2.2 j)
      · exact I.dj j k a ha hb
  · exact (I.tm t (List.mem_cons_of_mem _ ht)).slots fun k _ e => List.getElem?_set_ne fun z => hts t ht (by rw [e, z])
  · obtain ⟨q1, q2, q3⟩ := I.tp t (List.mem_cons_of_mem _ ht) a ha
    refine ⟨q1, q2, fun j hj => ?_⟩
    rcases key j a hj with ⟨_, hj⟩ | ⟨_, hj⟩
    · exact htt.1 t ht a hj ha
    · exact q3 j hj
  · obtain ⟨q1, q2⟩ := I.md hm
    have := nd hm
    refine ⟨by rw [if_neg (Ne.symm this)]; exact q1, ?_⟩
    unfold deckAt at q2 ⊢
    rw [List.getElem?_set_ne this]; exact q2
/-- a slot is forgotten -/
theorem Fm.wipeAt (I : Fm K F G H σ ρ φ ts) (i : Nat) (h0 : (i == 0 && deckAt ρ 0) = false) (hσ : ∀ j, j ≠ i → σ'[j]? = σ[j]?) (hl : σ'.length = σ.length) (hts : ∀ t ∈ ts, t.s ≠ .bor i) :
    Fm K F G H σ' (ρ.set i none) (fun j => if j = i then [] else φ j) ts := by
  have nd : F.M0 ≠ [] → i ≠ 0 := fun hm z => by
    subst z
    rw [(I.md hm).2] at h0
    cases h0
  have key : ∀ j a, a ∈ (if j = i then [] else φ j) → (j ≠ i ∧ a ∈ φ j) := fun j a ha => by
    by_cases z : j = i
    · rw [if_pos z] at ha; cases ha
    · rw [if_neg z] at ha; exact ⟨z, ha⟩
  have ent : ∀ j s', (ρ.set i none)[j]? = some (some s') → j ≠ i ∧ ρ[j]? = some (some s') := fun j s' e => by
    by_cases z : j = i
    · subst z
      have hl : j < ρ.length := by
        have := (List.getElem?_eq_some_iff.mp e).1
        rwa [List.length_set] at this
      rw [List.getElem?_set_self hl] at e
      cases e
    · rw [List.getElem?_set_ne (Ne.symm z)] at e
      exact ⟨z, e⟩
  refine ⟨I.gh, I.g0, I.h0, I.m0, I.nw, by rw [List.length_set, hl]; exact I.len, fun j s' e => ?_, fun j k e => ?_, fun j a ha => ?_, fun j k a ha hb => ?_, fun t ht => ?_, fun t ht a ha => ?_, fun hm => ?_, I.tt⟩
  · obtain ⟨z, e⟩ := ent j s' e
    obtain ⟨w, h1, h2⟩ := I.sl j s' e
    refine ⟨w, by rw [hσ j z]; exact h1, ?_⟩
    rw [if_neg z]
    exact h2.slots fun k _ e' => absurd (by rw [e, e'] : ρ[j]? = some (some (.bor k))) (I.nb j k)
  · exact I.nb j k (ent j _ e).2
  · obtain ⟨z, ha⟩ := key j a ha
    obtain ⟨q1, q2, q3⟩ := I.ph j a ha
    refine ⟨q1, q2, q3.imp id fun ⟨m, q⟩ => ⟨m, ?_⟩⟩
    unfold deckAt at q ⊢
    rw [List.getElem?_set_ne (Ne.symm z)]; exact q
  · exact I.dj j k a (key j a ha).2 (key k a hb).2
  · exact (I.tm t ht).slots fun k _ e => hσ k fun z => hts t ht (by rw [e, z])
  · obtain ⟨q1, q2, q3⟩ := I.tp t ht a ha
    exact ⟨q1, q2, fun j hj => q3 j (key j a hj).2⟩
  · obtain ⟨q1, q2⟩ := I.md hm
    have := nd hm
    refine ⟨by rw [if_neg (Ne.symm this)]; exact q1, ?_⟩
    unfold deckAt at q2 ⊢
    rw [List.getElem?_set_ne this]; exact q2

/-- what is on the way becomes shared data -/
def froze (ρ : Env) : S → Option (PyData × Env)
  | .sh d => some (d, ρ)
  | .ls xs => some (.list xs, ρ)
  | .dk kvs => some (.dict (kvs.map fun p => (keyD p.1, p.2)), ρ)
  | .dt kvs => some (.dict (kvs.map fun p => (.tuple (p.1.map keyD), p.2)), ρ)
  | .bor i => match ρ[i]? with
    | some (some (.sh d)) => some (d, ρ)
    | some (some (.ls xs)) => some (.list xs, ρ.set i (some (.sh (.list xs))))
    | some (some (.dk kvs)) => some (.dict (kvs.map fun p => (keyD p.1, p.2)), ρ.set i (some (.sh (.dict (kvs.map fun p => (keyD p.1, p.2))))))
    | some (some (.dt kvs)) => some (.dict (kvs.map fun p => (.tuple (p.1.map keyD), p.2)), ρ.set i (some (.sh (.dict (kvs.map fun p => (.tuple (p.1.map keyD), p.2))))))
    | _ => none
  | _ => none

theorem map_dk {ws : List (Key × V)} {kvs : List (Key × PyData)} (h : ws.map (·.1) = kvs.map (·.1)) : (kvs.map fun p => (keyD p.1, p.2)).map (·.1) = ws.map (fun p => keyD p.1) := by
  rw [List.map_map]
  have e1 : ws.map (fun p => keyD p.1) = (ws.map (·.1)).map keyD := by rw [List.map_map] <;> rfl
  rw [e1, h, List.map_map] <;> rfl
theorem map_dt {ws : List (List Key × V)} {kvs : List (List Key × PyData)} (h : ws.map (·.1) = kvs.map (·.1)) : (kvs.map fun p => (PyData.tuple (p.1.map keyD), p.2)).map (·.1) = ws.map (fun p => PyData.tuple (p.1.map keyD)) := by
  rw [List.map_map]
  have e1 : ws.map (fun p => PyData.tuple (p.1.map keyD)) = (ws.map (·.1)).map (fun k => PyData.tuple (k.map keyD)) := by rw [List.map_map] <;> rfl
  rw [e1, h, List.map_map] <;> rfl
theorem map_sndT (kvs : List (List Key × PyData)) : (kvs.map fun p => (PyData.tuple (p.1.map keyD), p.2)).map (·.2) = kvs.map (·.2) := by
  rw [List.map_map] <;> rfl
theorem map_snd {κ : Type} {f : κ → PyData} (kvs : List (κ × PyData)) : (kvs.map fun p => (f p.1, p.2)).map (·.2) = kvs.map (·.2) := by
  rw [List.map_map] <;> rfl

/-- slot i's private object is shared from now on -/
theorem Fm.shareSlot (I : Fm K F G H σ ρ φ ts) {i : Nat} {a : Addr} {o : HO} (e : ρ[i]? = some (some s)) (hs : isDeck s = false) (hf : φ i = [a]) (h : H a = some o) (hd : ∀ v, σ[i]? = some (some v) → RelS K F.cs σ G H v s (φ i) → Sh K (upd G a o) v d) :
    Fm K F (upd G a o) H σ (ρ.set i (some (.sh d))) (fun j => if j = i then [] else φ j) ts := by
  have hi : i < ρ.length := (List.getElem?_eq_some_iff.mp e).1
  have ndk : deckAt ρ i = false := by unfold deckAt; rw [e]; exact hs
  obtain ⟨g, _, h0⟩ := I.ph i a (by rw [hf]; exact List.mem_cons_self)
  have h0 : F.H0 a = none := by
    rcases h0 with z | ⟨_, z⟩
    · exact z
    · rw [ndk] at z; cases z
  have own : ∀ j b, j ≠ i → b ∈ φ j → b ≠ a := fun j b hj hb z => hj (I.dj j i b hb (by rw [hf, z]; exact List.mem_cons_self))
  have ownT : ∀ t ∈ ts, ∀ b ∈ t.fp, b ≠ a := fun t ht b hb z => (I.tp t ht b hb).2.2 i (by rw [hf, z]; exact List.mem_cons_self)
  have leG : Le G (upd G a o) := upd_le g
  have key : ∀ j b, b ∈ (if j = i then [] else φ j) → (j ≠ i ∧ b ∈ φ j) := fun j b ha => by
    by_cases z : j = i
    · rw [if_pos z] at ha; cases ha
    · rw [if_neg z] at ha; exact ⟨z, ha⟩
  refine ⟨fun b u q => ?_, fun b u q => leG b u (I.g0 b u q), I.h0, I.m0, fun b h1 h2 => ?_, by rw [List.length_set]; exact I.len, fun j s' q => ?_, fun j k q => ?_, fun j b hb => ?_, fun j k b hb hc => ?_, fun t ht => ?_, fun t ht b hb => ?_, fun hm => ?_, I.tt⟩
  · by_cases z : b = a
    · subst z; rw [upd_same] at q; cases q; exact h
    · rw [upd_ne z] at q; exact I.gh b u q
  · rw [upd_ne (show b ≠ a from fun z => h1 (by rw [z]; exact h0))]; exact I.nw b h1 h2
  · by_cases z : j = i
    · subst z
      rw [List.getElem?_set_self hi] at q
      cases q
      obtain ⟨v, h1, h2⟩ := I.sl j s e
      refine ⟨v, h1, ?_⟩
      rw [if_pos rfl]
      exact ⟨rfl, hd v h1 h2⟩
    · rw [List.getElem?_set_ne (Ne.symm z)] at q
      obtain ⟨v, h1, h2⟩ := I.sl j s' q
      refine ⟨v, h1, ?_⟩
      rw [if_neg z]
      exact h2.mono leG fun _ _ => rfl
  · by_cases z : j = i
    · subst z
      rw [List.getElem?_set_self hi] at q
      cases q
    · rw [List.getElem?_set_ne (Ne.symm z)] at q
      exact I.nb j k q
  · obtain ⟨z, hb⟩ := key j b hb
    obtain ⟨q1, q2, q3⟩ := I.ph j b hb
    refine ⟨by rw [upd_ne (own j b z hb)]; exact q1, q2, q3.imp id fun ⟨m, q⟩ => ⟨m, ?_⟩⟩
    unfold deckAt at q ⊢
    rw [List.getElem?_set_ne (Ne.symm z)]; exact q
  · exact I.dj j k b (key j b hb).2 (key k b hc).2
  · exact (I.tm t ht).mono leG fun _ _ => rfl
  · obtain ⟨q1, q2, q3⟩ := I.tp t ht b hb
    exact ⟨by rw [upd_ne (ownT t ht b hb)]; exact q1, q2, fun j hj => q3 j (key j b hj).2⟩
  · obtain ⟨q1, q2⟩ := I.md hm
    have z : (0 : Nat) ≠ i := fun z => by rw [← z, q2] at ndk; cases ndk
    refine ⟨by rw [if_neg z]; exact q1, ?_⟩
    unfold deckAt at q2 ⊢
    rw [List.getElem?_set_ne (Ne.symm z)]; exact q2

theorem Fm.froze (I : Fm K F G H σ ρ φ (t :: ts)) (e : froze ρ t.s = some (d, ρ')) : ∃ G' φ', Fm K F G' H σ ρ' φ' (⟨t.v, .sh d, []⟩ :: ts) ∧ Le G G' := by
  obtain ⟨v, s, fp⟩ := t
  have r := I.head
  have J := I.drop
  have htp := I.tp _ (List.mem_cons_self (a := (⟨v, s, fp⟩ : Hd)) (l := ts))
  have htt := (List.pairwise_cons.mp I.tt).1
  cases s with
  | sh d' => cases e; exact ⟨G, φ, J.pushD r.2, fun _ _ q => q⟩
  | ls xs =>
    cases e
    obtain ⟨a, ys, e1, rfl, h, q⟩ := r
    simp only at e1; subst e1
    obtain ⟨g, h0, hs⟩ := htp a List.mem_cons_self
    exact ⟨_, φ, (J.share h g h0 hs fun t ht => htt t ht a List.mem_cons_self).pushD (.lst upd_same (q.mono (upd_le g))), upd_le g⟩
  | dk kvs =>
    cases e
    obtain ⟨a, ys, e1, rfl, h, k, q⟩ := r
    simp only at e1; subst e1
    obtain ⟨g, h0, hs⟩ := htp a List.mem_cons_self
    exact ⟨_, φ, (J.share h g h0 hs fun t ht => htt t ht a List.mem_cons_self).pushD (.dkk upd_same (map_dk k) (by rw [map_snd]; exact q.mono (upd_le g))), upd_le g⟩
  | dt kvs =>
    cases e
    obtain ⟨a, ys, e1, rfl, h, k, q⟩ := r
    simp only at e1; subst e1
    obtain ⟨g, h0, hs⟩ := htp a List.mem_cons_self
    exact ⟨_, φ, (J.share h g h0 hs fun t ht => htt t ht a List.mem_cons_self).pushD (.dtt upd_same (map_dt k) (by rw [map_sndT]; exact q.mono (upd_le g))), upd_le g⟩
  | bor i =>
    unfold Dn.froze at e
    cases q : ρ[i]? with
    | none => simp only [q] at e; cases e
    | some o =>
      cases o with
      | none => simp only [q] at e; cases e
      | some s' =>
        have r' := I.slot r q
        have hv := r.2.2
        cases s' with
        | sh d' => simp only [q] at e; cases e; exact ⟨G, φ, J.pushD r'.2, fun _ _ q => q⟩
        | ls xs =>
          simp only [q] at e; cases e
          obtain ⟨a, ys, e1, ef, h, r2⟩ := r'
          simp only at e1; subst e1
          have g := (I.ph i a (by rw [ef]; exact List.mem_cons_self)).1
          have sh : Sh K (upd G a (.lst ys)) (.ref a) (.list xs) := .lst upd_same (r2.mono (upd_le g))
          refine ⟨_, _, (J.shareSlot q rfl ef h fun w hw _ => ?_).pushD sh, upd_le g⟩
          rw [hv] at hw; cases hw; exact sh
        | dk kvs =>
          simp only [q] at e; cases e
          obtain ⟨a, ys, e1, ef, h, k, r2⟩ := r'
          simp only at e1; subst e1
          have g := (I.ph i a (by rw [ef]; exact List.mem_cons_self)).1
          have sh : Sh K (upd G a (.dK ys)) (.ref a) (.dict (kvs.map fun p => (keyD p.1, p.2))) := .dkk upd_same (map_dk k) (by rw [map_snd]; exact r2.mono (upd_le g))
          refine ⟨_, _, (J.shareSlot q rfl ef h fun w hw _ => ?_).pushD sh, upd_le g⟩
          rw [hv] at hw; cases hw; exact sh
        | dt kvs =>
          simp only [q] at e; cases e
          obtain ⟨a, ys, e1, ef, h, k, r2⟩ := r'
          simp only at e1; subst e1
          have g := (I.ph i a (by rw [ef]; exact List.mem_cons_self)).1
          have sh : Sh K (upd G a (.dT ys)) (.ref a) (.dict (kvs.map fun p => (.tuple (p.1.map keyD), p.2))) := .dtt upd_same (map_dt k) (by rw [map_sndT]; exact r2.mono (upd_le g))
          refine ⟨_, _, (J.shareSlot q rfl ef h fun w hw _ => ?_).pushD sh, upd_le g⟩
          rw [hv] at hw; cases hw; exact sh
        | _ => simp only [q] at e; cases e
  | _ => cases e
end
end Dn
namespace Dn
open PySem L2
/-! Part 3: expressions -/

abbrev EE := Env → Option (S × Env)
abbrev BE := Env → Option (Bool × Env)
abbrev AE := Env → Option (List S × Env)

def tE (K : PySem.W.Frag) (F : Entry) (f : EE) : TE := fun σ H Q => ∃ G ρ φ ts r ρ', Fm K F G H σ ρ φ ts ∧ f ρ = some (r, ρ') ∧ ∀ G' H' φ' v fp, Fm K F G' H' σ ρ' φ' (⟨v, r, fp⟩ :: ts) → Q v H'
def tB (K : PySem.W.Frag) (F : Entry) (f : BE) : TT := fun σ H Q => ∃ G ρ φ ts b ρ', Fm K F G H σ ρ φ ts ∧ f ρ = some (b, ρ') ∧ ∀ G' H' φ', Fm K F G' H' σ ρ' φ' ts → Q b H'
def tAs (K : PySem.W.Frag) (F : Entry) (f : AE) : TA := fun σ H Q => ∃ G ρ φ ts rs ρ', Fm K F G H σ ρ φ ts ∧ f ρ = some (rs, ρ') ∧ ∀ G' H' φ' (hs : List Hd), hs.map Hd.s = rs → Fm K F G' H' σ ρ' φ' (hs.reverse ++ ts) → Q (hs.map Hd.v) H'

/-- what a def's context has: nothing is handled, names stand once, there is room, nothing is being shown -/
structure CtxOk (X : Cx) : Prop where
  calm : X.calm = true
  nd : X.N.Nodup
  un : X.A.units + 72 < cLine
  gd : X.A.guards = some []

abbrev DE (X : Cx) (F : Entry) (e : Expr) (f : EE) : Prop := PE X e (tE X.K F f)
abbrev DB (X : Cx) (F : Entry) (e : Expr) (f : BE) : Prop := PT X e (tB X.K F f)
abbrev DAs (X : Cx) (F : Entry) (es : List Expr) (f : AE) : Prop := PA X es (tAs X.K F f)

section
variable {X : Cx} {F : Entry} {a b c e : Expr} {es : List Expr} {pos : Pos} {fa fb fc f : EE} {ta : AE}

theorem pe_imp {t t' : TE} (h : PE X e t) (k : ∀ σ H Q, t' σ H Q → t σ H Q) : PE X e t' := ⟨fun pins s σ H Q I w => h.run pins s σ H Q I (k σ H Q w)⟩
theorem pt_imp {t t' : TT} (h : PT X e t) (k : ∀ σ H Q, t' σ H Q → t σ H Q) : PT X e t' := ⟨fun pins s σ H Q I w => h.run pins s σ H Q I (k σ H Q w)⟩
theorem pa_imp {t t' : TA} (h : PA X es t) (k : ∀ σ H Q, t' σ H Q → t σ H Q) : PA X es t' := ⟨fun p pins s σ H Q I w => h.run p pins s σ H Q I (k σ H Q w)⟩

theorem Sh.blv {K : PySem.W.Frag} {G : Hp} {v : V} {b : Bool} : Sh K G v (.bool b) → v = .bl b
  | .bl _ => rfl
/-! ### constants, names -/
def cst (d : PyData) : EE := fun ρ => some (.sh d, ρ)
theorem c_of {v : V} {d : PyData} (h : PE X e (tC v)) (r : ∀ G, Sh X.K G v d) : DE X F e (cst d) := pe_imp h fun σ H Q ⟨G, ρ, φ, ts, r', ρ', I, hf, k⟩ => by
  cases hf
  exact k G H φ v [] (I.pushD (r G))
theorem c_int {i : Int} {j : Nat} : DE X F (.Constant (.int i) j pos) (cst (.int i)) := c_of pe_int fun _ => .int i
theorem c_bl {i : Bool} {j : Nat} : DE X F (.Constant (.bool i) j pos) (cst (.bool i)) := c_of pe_bl fun _ => .bl i
theorem c_non {j : Nat} : DE X F (.Constant .none j pos) (cst .none) := c_of pe_non fun _ => .non
theorem c_str {x : Str} {j : Nat} : DE X F (.Constant (.str x) j pos) (cst (.str x)) := c_of pe_str fun _ => .str x
def nameE (cs : List Nat) (i : Nat) : EE := fun ρ =>
  match ρ[i]? with
  | some (some (.sh d)) => some (.sh d, ρ)
  | some (some _) => if cs.contains i then none else some (.bor i, ρ)
  | _ => none
theorem c_name {i : Nat} {x : Str} (h : PE X (.Name x pos) (tVar i)) : DE X F (.Name x pos) (nameE F.cs i) := pe_imp h fun σ H Q ⟨G, ρ, φ, ts, r, ρ', I, hf, k⟩ => by
  unfold nameE at hf
  cases q : ρ[i]? with
  | none => simp only [q] at hf; cases hf
  | some o =>
    cases o with
    | none => simp only [q] at hf; cases hf
    | some s =>
      obtain ⟨v, h1, h2⟩ := I.sl i s q
      have go : ¬ F.cs.contains i = true → (S.bor i, ρ) = (r, ρ') → ∃ v, σ[i]? = some (some v) ∧ Q v H := fun hc e => by
        cases e
        exact ⟨v, h1, k G H φ v [] (I.push ⟨rfl, fun hm => hc (List.contains_iff_mem.mpr hm), h1⟩ fun a ha => by cases ha)⟩
      cases s with
      | sh d =>
        simp only [q] at hf
        cases hf
        exact ⟨v, h1, k G H φ v [] (I.pushD h2.2)⟩
      | _ =>
        simp only [q] at hf
        split at hf
        · cases hf
        · exact go ‹_› (Option.some.inj hf)

/-! ### two operands -/
def binE (g : PyData → PyData → Option S) (fa fb : EE) : EE := fun ρ =>
  (fa ρ).bind fun p => (fb p.2).bind fun q => (view q.2 p.1).bind fun x => (view q.2 q.1).bind fun y => (g x y).map fun r => (r, q.2)
theorem binE_some {g : PyData → PyData → Option S} {ρ ρ' : Env} {r : S} (h : binE g fa fb ρ = some (r, ρ')) :
    ∃ ra ρ1 rb x y, fa ρ = some (ra, ρ1) ∧ fb ρ1 = some (rb, ρ') ∧ view ρ' ra = some x ∧ view ρ' rb = some y ∧ g x y = some r := by
  unfold binE at h
  obtain ⟨⟨ra, ρ1⟩, h1, h⟩ := Option.bind_eq_some_iff.mp h
  obtain ⟨⟨rb, ρ2⟩, h2, h⟩ := Option.bind_eq_some_iff.mp h
  obtain ⟨x, h3, h⟩ := Option.bind_eq_some_iff.mp h
  obtain ⟨y, h4, h⟩ := Option.bind_eq_some_iff.mp h
  obtain ⟨r', h5, h⟩ := Option.map_eq_some_iff.mp h
  cases h
  exact ⟨ra, ρ1, rb, x, y, h1, h2, h3, h4, h5⟩
/-- what an operation by values is to show -/
def OpD (X : Cx) (F : Entry) (rr : R2) (g : PyData → PyData → Option S) : Prop :=
  ∀ G H σ ρ φ ts x y d e r (Q : VK), Fm X.K F G H σ ρ φ ts → ShW X.K G H x d → ShW X.K G H y e → g d e = some r →
    (∀ G' H' φ' v fp, Fm X.K F G' H' σ ρ φ' (⟨v, r, fp⟩ :: ts) → Q v H') → rr x y H Q
theorem bin_run {rr : R2} {g : PyData → PyData → Option S} (hr : OpD X F rr g) : ∀ σ H Q, tE X.K F (binE g fa fb) σ H Q → tOp rr (tE X.K F fa) (tE X.K F fb) σ H Q := fun σ H Q ⟨G, ρ, φ, ts, r, ρ', I, hf, k⟩ => by
  obtain ⟨ra, ρ1, rb, x, y, h1, h2, h3, h4, h5⟩ := binE_some hf
  refine ⟨G, ρ, φ, ts, ra, ρ1, I, h1, fun G1 H1 φ1 va fpa I1 => ⟨G1, ρ1, φ1, _, rb, ρ', I1, h2, fun G2 H2 φ2 vb fpb I2 => ?_⟩⟩
  exact hr G2 H2 σ ρ' φ2 ts va vb x y r Q I2.drop.drop (I2.view I2.drop.head h3) (I2.view I2.head h4) h5 k
theorem c_bin {op : Operator} {rr : R2} {g : PyData → PyData → Option S} (ho : OpR X (binaryOp op) rr) (hr : OpD X F rr g) (ha : DE X F a fa) (hb : DE X F b fb) : DE X F (.BinOp a op b pos) (binE g fa fb) :=
  pe_imp (pe_op ho ha hb) (bin_run hr)
theorem c_cmp {op : CmpOp} {rr : R2} {g : PyData → PyData → Option S} (ho : OpR X (compareOp op) rr) (hr : OpD X F rr g) (ha : DE X F a fa) (hb : DE X F b fb) (hm : behindInMarks op b = false) : DE X F (.Compare a [op] [b] pos) (binE g fa fb) :=
  pe_imp (pe_cmpR ho ha hb hm) (bin_run hr)

theorem OpD.or {r r' : R2} {g g' : PyData → PyData → Option S} (h : OpD X F r g) (h' : OpD X F r' g') : OpD X F (fun x y H Q => r x y H Q ∨ r' x y H Q) (fun d e => (g d e).or (g' d e)) := by
  intro G H σ ρ φ ts x y d e s Q I hx hy hg k
  cases q : g d e with
  | some s' =>
    simp only [q, Option.some_or] at hg
    cases hg
    exact .inl (h G H σ ρ φ ts x y d e _ Q I hx hy q k)
  | none =>
    simp only [q, Option.none_or] at hg
    exact .inr (h' G H σ ρ φ ts x y d e s Q I hx hy hg k)

def gInt (c : Int → Int → Bool) (g : Int → Int → Int) : PyData → PyData → Option S
  | .int i, .int j => if c i j = true then some (.sh (.int (g i j))) else none
  | _, _ => none
theorem d_int {C : Int → Int → Prop} {c : Int → Int → Bool} {g : Int → Int → Int} (hc : ∀ i j, c i j = true → C i j) : OpD X F (rI C fun i j => .int (g i j)) (gInt c g) := by
  intro G H σ ρ φ ts x y d e r Q I hx hy hg k
  unfold gInt at hg
  split at hg
  · split at hg
    · cases hg
      exact ⟨_, _, hx.int, hy.int, hc _ _ ‹_›, k G H φ _ [] (I.pushD (.int _))⟩
    · cases hg
  · cases hg
def gInt0 (g : Int → Int → Int) : PyData → PyData → Option S
  | .int i, .int j => some (.sh (.int (g i j)))
  | _, _ => none
theorem d_int0 {g : Int → Int → Int} : OpD X F (rI0 fun i j => .int (g i j)) (gInt0 g) := by
  intro G H σ ρ φ ts x y d e r Q I hx hy hg k
  unfold gInt0 at hg
  split at hg
  · cases hg
    exact ⟨_, _, hx.int, hy.int, k G H φ _ [] (I.pushD (.int _))⟩
  · cases hg
def gIntB (g : Int → Int → Bool) : PyData → PyData → Option S
  | .int i, .int j => some (.sh (.bool (g i j)))
  | _, _ => none
theorem d_intB {g : Int → Int → Bool} : OpD X F (rI0 fun i j => .bl (g i j)) (gIntB g) := by
  intro G H σ ρ φ ts x y d e r Q I hx hy hg k
  unfold gIntB at hg
  split at hg
  · cases hg
    exact ⟨_, _, hx.int, hy.int, k G H φ _ [] (I.pushD (.bl _))⟩
  · cases hg

/-! ### + on ints, texts, lists, tuples -/
theorem line_big : (1000000 : Nat) ≤ sizeLine := by decide
def addS : PyData → PyData → Option S
  | .int i, .int j => some (.sh (.int (i + j)))
  | .str x, .str y => if x.length + y.length ≤ 1000000 then some (.sh (.str (x ++ y))) else none
  | .list xs, .list ys => if xs.length + ys.length ≤ 1000000 then some (.ls (xs ++ ys)) else none
  | .tuple (x :: xs), .tuple ys => if xs.length + ys.length < 1000000 then some (.sh (.tuple (x :: xs ++ ys))) else none
  | .tuple [], .tuple ys => if ys.length < 1000000 then some (.sh (.tuple ys)) else none
  | _, _ => none
abbrev rAddS (K : PySem.W.Frag) : R2 := fun x y H Q => rI0 (fun i j => .int (i + j)) x y H Q ∨ ((∃ i j, x = .str i ∧ y = .str j ∧ i.length + j.length ≤ sizeLine ∧ Q (.str (i ++ j)) H) ∨ (rCat x y H Q ∨ rCatA K x y H Q))
theorem d_add : OpD X F (rAddS X.K) addS := by
  intro G H σ ρ φ ts x y d e r Q I hx hy hg k
  unfold addS at hg
  split at hg
  · cases hg
    exact .inl ⟨_, _, hx.int, hy.int, k G H φ _ [] (I.pushD (.int _))⟩
  · split at hg
    · cases hg
      exact .inr (.inl ⟨_, _, hx.str, hy.str, Nat.le_trans ‹_› line_big, k G H φ _ [] (I.pushD (.str _))⟩)
    · cases hg
  · split at hg
    · cases hg
      obtain ⟨p, us, rfl, h1, r1⟩ := hx.list I.gh
      obtain ⟨q, ws, rfl, h2, r2⟩ := hy.list I.gh
      refine .inr (.inr (.inl ⟨_, _, _, _, rfl, rfl, h1, h2, ?_, fun p hp => k _ _ φ _ _ (I.newL hp (r1.append r2))⟩))
      rw [r1.length, r2.length]
      exact Nat.le_trans ‹_› line_big
    · cases hg
  · split at hg
    · cases hg
      obtain ⟨p, us, rfl, h1, r1⟩ := hx.tup
      obtain ⟨q, ws, rfl, h2, r2⟩ := hy.tup
      refine .inr (.inr (.inr ⟨_, _, _, _, rfl, rfl, Le.sqT I.gh h1, Le.sqT I.gh h2, ?_, fun z => ?_, fun _ e => ?_, fun _ _ p hp => k _ _ φ _ _ (I.newT hp (r1.append r2))⟩))
      rotate_left
      · have := r1.length
        rw [z] at this
        cases this
      rotate_left
      · rw [r1.length, r2.length]
        refine Nat.le_trans ?_ line_big
        simp only [List.length_cons]
        omega
      · rw [e] at r2
        cases r2
        rw [List.append_nil] at k
        exact k _ _ φ _ [] (I.pushD (.tup h1 r1))
    · cases hg
  · split at hg
    · cases hg
      obtain ⟨p, us, rfl, h1, r1⟩ := hx.tup
      obtain ⟨q, ws, rfl, h2, r2⟩ := hy.tup
      cases r1
      refine .inr (.inr (.inr ⟨_, _, _, _, rfl, rfl, Le.sqT I.gh h1, Le.sqT I.gh h2, ?_, fun z => ?_, fun e _ => ?_, fun e _ p hp => ?_⟩))
      · rw [r2.length]
        refine Nat.le_trans ?_ line_big
        simp only [List.length_nil]
        omega
      · exact k _ _ φ _ [] (I.pushD (.tup h2 r2))
      · exact absurd rfl e
      · exact absurd rfl e
    · cases hg
  · cases hg
theorem c_add (ha : DE X F a fa) (hb : DE X F b fb) : DE X F (.BinOp a .Add b pos) (binE addS fa fb) := c_bin (op_add.or (op_add_str.or (op_cat.or op_catA))) d_add ha hb
theorem c_sub (ha : DE X F a fa) (hb : DE X F b fb) : DE X F (.BinOp a .Sub b pos) (binE (gInt0 fun i j => i - j) fa fb) := c_bin op_sub d_int0 ha hb
theorem c_band (ha : DE X F a fa) (hb : DE X F b fb) : DE X F (.BinOp a .BitAnd b pos) (binE (gInt0 fun i j => Builtin.bitAnd i j) fa fb) := c_bin op_and d_int0 ha hb
theorem c_mod (ha : DE X F a fa) (hb : DE X F b fb) : DE X F (.BinOp a .Mod b pos) (binE (gInt (fun _ j => decide (0 < j)) fun i j => i % j) fa fb) := c_bin op_mod (d_int fun _ _ h => of_decide_eq_true h) ha hb
theorem c_fdiv (ha : DE X F a fa) (hb : DE X F b fb) : DE X F (.BinOp a .FloorDiv b pos) (binE (gInt (fun _ j => decide (0 < j) && decide (j.natAbs.log2 < 9000)) fun i j => i / j) fa fb) :=
  c_bin op_fdivW (d_int fun _ _ h => ⟨of_decide_eq_true (Bool.and_eq_true_iff.mp h).1, of_decide_eq_true (Bool.and_eq_true_iff.mp h).2⟩) ha hb
/-- * of ints, a list times an int -/
def mulS : PyData → PyData → Option S
  | .int i, .int j => if i.natAbs.log2 + j.natAbs.log2 < 1000000 then some (.sh (.int (i * j))) else none
  | .list [x], .int j => if j ≤ 1000000 ∧ -1000000 ≤ j then some (.ls (List.replicate j.toNat x)) else none
  | _, _ => none
theorem flat_one {α : Type} (x : α) : ∀ n : Nat, (List.replicate n [x]).flatten = List.replicate n x
  | 0 => rfl
  | n + 1 => by rw [List.replicate_succ, List.flatten_cons, flat_one x n] <;> rfl
theorem d_mul : OpD X F (fun x y H Q => rI CMulW (fun i j => .int (i * j)) x y H Q ∨ rRep x y H Q) mulS := by
  intro G H σ ρ φ ts x y d e r Q I hx hy hg k
  unfold mulS at hg
  split at hg
  · split at hg
    · cases hg
      exact .inl ⟨_, _, hx.int, hy.int, ‹_›, k G H φ _ [] (I.pushD (.int _))⟩
    · cases hg
  · split at hg
    · cases hg
      obtain ⟨p, us, rfl, h1, r1⟩ := hx.list I.gh
      obtain ⟨u, rfl⟩ : ∃ u, us = [u] := by
        cases r1 with
        | cons q qs => cases qs; exact ⟨_, rfl⟩
      rename_i hj
      refine .inr ⟨_, _, _, rfl, hy.int, h1, by omega, by omega, ?_, fun p hp => ?_⟩
      · refine Nat.le_trans ?_ line_big
        simp only [List.length_singleton]
        omega
      · rw [flat_one]
        cases r1 with
        | cons q qs => exact k _ _ φ _ _ (I.newL hp (ShL.repl q _))
    · cases hg
  · cases hg
theorem c_mul (ha : DE X F a fa) (hb : DE X F b fb) : DE X F (.BinOp a .Mult b pos) (binE mulS fa fb) := c_bin (op_mulW.or op_rep) d_mul ha hb

/-! ### comparisons -/
theorem c_lt (ha : DE X F a fa) (hb : DE X F b fb) : DE X F (.Compare a [.Lt] [b] pos) (binE (gIntB fun i j => decide (i < j)) fa fb) := c_cmp op_lt d_intB ha hb (nomark _)
theorem c_le (ha : DE X F a fa) (hb : DE X F b fb) : DE X F (.Compare a [.LtE] [b] pos) (binE (gIntB fun i j => decide (i ≤ j)) fa fb) := c_cmp op_le d_intB ha hb (nomark _)
theorem c_gt (ha : DE X F a fa) (hb : DE X F b fb) : DE X F (.Compare a [.Gt] [b] pos) (binE (gIntB fun i j => decide (j < i)) fa fb) := c_cmp op_gt d_intB ha hb (nomark _)
theorem c_ge (ha : DE X F a fa) (hb : DE X F b fb) : DE X F (.Compare a [.GtE] [b] pos) (binE (gIntB fun i j => decide (j ≤ i)) fa fb) := c_cmp op_ge d_intB ha hb (nomark _)

mutual
theorem Sh.dp {K : PySem.W.Frag} {G : Hp} : ∀ {v : V} {d : PyData}, Sh K G v d → d.canLay0 = true → Dp K G v d
  | _, _, .non, _ => .non
  | _, _, .bl b, _ => .bl b
  | _, _, .int i, _ => .int i
  | _, _, .str x, _ => .str x
  | _, _, .lst h r, q => .lst (.inl (.inl h)) (ShL.dp r (by simpa [PyData.canLay0] using q))
  | _, _, .tup h r, q => .tup h (ShL.dp r (by simpa [PyData.canLay0] using q))
  | _, _, .dkk h k r, q => by simp [PyData.canLay0] at q
  | _, _, .dtt h k r, q => by simp [PyData.canLay0] at q
theorem ShL.dp {K : PySem.W.Frag} {G : Hp} : ∀ {vs : List V} {ds : List PyData}, ShL K G vs ds → PyData.canLayAll0 ds = true → DpAll K G vs ds
  | _, _, .nil, _ => .nil
  | _, _, .cons (d := d) (ds := ds) h r, q => by
    have q' : d.canLay0 = true ∧ PyData.canLayAll0 ds = true := by simpa [PyData.canLayAll0] using q
    exact .cons (Sh.dp h q'.1) (ShL.dp r q'.2)
end
/-- == of ints at once, of other data at any depth -/
def eqS (neg : Bool) : PyData → PyData → Option S
  | .int i, .int j => some (.sh (.bool (neg != decide (i = j))))
  | .str x, .str y => some (.sh (.bool (neg != decide (x = y))))
  | d, e => if (SeqAt.shaped d && SeqAt.shaped e) = true then some (.sh (.bool (neg != PyData.eqv d e))) else none
theorem shaped_dp {K : PySem.W.Frag} {G : Hp} {v : V} {d : PyData} (h : Sh K G v d) (q : SeqAt.shaped d = true) : Dp K G v d := by
  unfold SeqAt.shaped at q
  exact h.dp (Bool.and_eq_true_iff.mp q).1
theorem eqv_int {i j : Int} : PyData.eqv (.int i) (.int j) = decide (i = j) := by
  simp only [PyData.eqv]
  first | rfl | exact Bool.beq_eq_decide_eq _ _
theorem eqS_some {neg : Bool} {d e : PyData} {r : S} (h : eqS neg d e = some r) : (∃ x y : Str, d = .str x ∧ e = .str y ∧ r = .sh (.bool (neg != decide (x = y)))) ∨ (SeqAt.shaped d = true ∧ SeqAt.shaped e = true ∧ r = .sh (.bool (neg != PyData.eqv d e))) := by
  unfold eqS at h
  split at h
  · cases h
    refine .inr ⟨by simp [SeqAt.shaped, PyData.canLay0, PyData.depth], by simp [SeqAt.shaped, PyData.canLay0, PyData.depth], ?_⟩
    rw [eqv_int]
  · cases h
    exact .inl ⟨_, _, rfl, rfl, rfl⟩
  · split at h
    · cases h
      rename_i hq
      exact .inr ⟨(Bool.and_eq_true_iff.mp hq).1, (Bool.and_eq_true_iff.mp hq).2, rfl⟩
    · cases h
abbrev rEqG (K : PySem.W.Frag) : R2 := fun x y H Q => rEq x y H Q ∨ rEqD K x y H Q
abbrev rNeG (K : PySem.W.Frag) : R2 := fun x y H Q => rNe x y H Q ∨ rNeD K x y H Q
theorem op_eqG (C : CtxOk X) : OpR X (compareOp .Eq) (rEqG X.K) := op_eq.or (op_eqD (by have := C.un; omega))
theorem op_neG (C : CtxOk X) : OpR X (compareOp .NotEq) (rNeG X.K) := op_ne.or (op_neD (by have := C.un; omega))
theorem d_eq : OpD X F (rEqG X.K) (eqS false) := fun G H σ ρ φ ts x y d e r Q I hx hy hg k => by
  rcases eqS_some hg with ⟨i, j, rfl, rfl, rfl⟩ | ⟨s1, s2, rfl⟩
  · rw [hx.str, hy.str]
    exact .inl ⟨rfl, k G H φ _ [] (I.pushD (by simp only [Bool.false_bne, V.str.injEq]; exact .bl _))⟩
  · exact .inr ⟨d, e, shaped_dp (hx.sh I.gh) s1, shaped_dp (hy.sh I.gh) s2, s1, s2, k G H φ _ [] (I.pushD (by rw [Bool.false_bne]; exact .bl _))⟩
theorem d_ne : OpD X F (rNeG X.K) (eqS true) := fun G H σ ρ φ ts x y d e r Q I hx hy hg k => by
  rcases eqS_some hg with ⟨i, j, rfl, rfl, rfl⟩ | ⟨s1, s2, rfl⟩
  · rw [hx.str, hy.str]
    exact .inl ⟨rfl, k G H φ _ [] (I.pushD (by simp only [Bool.true_bne, V.str.injEq]; exact .bl _))⟩
  · exact .inr ⟨d, e, shaped_dp (hx.sh I.gh) s1, shaped_dp (hy.sh I.gh) s2, s1, s2, k G H φ _ [] (I.pushD (by rw [Bool.true_bne]; exact .bl _))⟩
theorem c_eq (C : CtxOk X) (ha : DE X F a fa) (hb : DE X F b fb) : DE X F (.Compare a [.Eq] [b] pos) (binE (eqS false) fa fb) := c_cmp (op_eqG C) d_eq ha hb (nomark _)
theorem c_ne (C : CtxOk X) (ha : DE X F a fa) (hb : DE X F b fb) : DE X F (.Compare a [.NotEq] [b] pos) (binE (eqS true) fa fb) := c_cmp (op_neG C) d_ne ha hb (nomark _)
/-! ### minus -/
def unE (g : PyData → Option S) (fa : EE) : EE := fun ρ => (fa ρ).bind fun p => (view p.2 p.1).bind fun x => (g x).map fun r => (r, p.2)
theorem unE_some {g : PyData → Option S} {ρ ρ' : Env} {r : S} (h : unE g fa ρ = some (r, ρ')) : ∃ ra x, fa ρ = some (ra, ρ') ∧ view ρ' ra = some x ∧ g x = some r := by
  unfold unE at h
  obtain ⟨⟨ra, ρ1⟩, h1, h⟩ := Option.bind_eq_some_iff.mp h
  obtain ⟨x, h3, h⟩ := Option.bind_eq_some_iff.mp h
  obtain ⟨r', h5, h⟩ := Option.map_eq_some_iff.mp h
  cases h
  exact ⟨ra, x, h1, h3, h5⟩
def gNeg : PyData → Option S
  | .int i => some (.sh (.int (-i)))
  | _ => none
theorem c_neg (ha : DE X F a fa) : DE X F (.UnaryOp .USub a pos) (unE gNeg fa) := pe_imp (pe_un un_neg ha) fun σ H Q ⟨G, ρ, φ, ts, r, ρ', I, hf, k⟩ => by
  obtain ⟨ra, x, h1, h2, h3⟩ := unE_some hf
  refine ⟨G, ρ, φ, ts, ra, ρ', I, h1, fun G1 H1 φ1 va fpa I1 => ?_⟩
  have hx := I1.view I1.head h2
  unfold gNeg at h3
  split at h3
  · cases h3
    exact ⟨_, hx.int, k _ _ _ _ [] (I1.drop.pushD (.int _))⟩
  · cases h3

/-! ### tests -/
def truE (fa : EE) : BE := fun ρ => (fa ρ).bind fun p => match view p.2 p.1 with | some (.bool b) => some (b, p.2) | _ => none
theorem truE_some {ρ ρ' : Env} {b : Bool} (h : truE fa ρ = some (b, ρ')) : ∃ ra, fa ρ = some (ra, ρ') ∧ view ρ' ra = some (.bool b) := by
  unfold truE at h
  obtain ⟨⟨ra, ρ1⟩, h1, h⟩ := Option.bind_eq_some_iff.mp h
  split at h
  · cases h; exact ⟨ra, h1, ‹_›⟩
  · cases h
/-- an expression whose value is a bool, as a test -/
theorem b_val (ha : DE X F a fa) (he : ∀ whole, isTrue a X.env whole = (do let v ← whole; standAt a.pos; holding [v] (truthy v)) := by intro _; rfl) : DB X F a (truE fa) := pt_imp (pt_val ha he) fun σ H Q ⟨G, ρ, φ, ts, b, ρ', I, hf, k⟩ => by
  obtain ⟨ra, h1, h2⟩ := truE_some hf
  exact ⟨G, ρ, φ, ts, ra, ρ', I, h1, fun G1 H1 φ1 va fpa I1 => ⟨b, (I1.view I1.head h2).bl, k _ _ _ I1.drop⟩⟩
theorem b_cmpR {op : CmpOp} {rr : R2} {g : PyData → PyData → Option S} (ho : OpR X (compareOp op) rr) (hr : OpD X F rr g) (ha : DE X F a fa) (hb : DE X F b fb) (hm : behindInMarks op b = false) : DB X F (.Compare a [op] [b] pos) (truE (binE g fa fb)) :=
  pt_imp (pt_cmpR ho ha hb hm) fun σ H Q ⟨G, ρ, φ, ts, t, ρ', I, hf, k⟩ => by
    obtain ⟨ra, h1, h2⟩ := truE_some hf
    exact bin_run hr σ H _ ⟨G, ρ, φ, ts, ra, ρ', I, h1, fun G1 H1 φ1 va fpa I1 => ⟨t, (I1.view I1.head h2).bl, k _ _ _ I1.drop⟩⟩
def notB (f : BE) : BE := fun ρ => (f ρ).map fun p => (!p.1, p.2)
theorem b_not {t : BE} (h : DB X F a t) : DB X F (.UnaryOp .Not a pos) (notB t) := pt_imp (pt_not h) fun σ H Q ⟨G, ρ, φ, ts, b, ρ', I, hf, k⟩ => by
  unfold notB at hf
  obtain ⟨⟨b', ρ1⟩, h1, h⟩ := Option.map_eq_some_iff.mp hf
  cases h
  exact ⟨G, ρ, φ, ts, b', _, I, h1, k⟩
def andB (f g : BE) : BE := fun ρ => (f ρ).bind fun p => if p.1 = true then g p.2 else some (false, p.2)
def orB (f g : BE) : BE := fun ρ => (f ρ).bind fun p => if p.1 = true then some (true, p.2) else g p.2
abbrev DW (X : Cx) (F : Entry) (e : Expr) (f : BE) : Prop := PW X e (tB X.K F f)
theorem pw_imp {t t' : TT} (h : PW X e t) (k : ∀ σ H Q, t' σ H Q → t σ H Q) : PW X e t' := ⟨fun wh pins s σ H Q I w => h.run wh pins s σ H Q I (k σ H Q w)⟩
theorem w_and1 {t : BE} (h : DB X F a t) : DW X F (.BoolOp .And [a] pos) t := pw_and1 h
theorem w_or1 {t : BE} (h : DB X F a t) : DW X F (.BoolOp .Or [a] pos) t := pw_or1 h
theorem w_and {t u : BE} {rest : List Expr} (h : DB X F a t) (g : DW X F (.BoolOp .And (b :: rest) pos) u) : DW X F (.BoolOp .And (a :: b :: rest) pos) (andB t u) := pw_imp (pw_and h g) fun σ H Q ⟨G, ρ, φ, ts, r, ρ', I, hf, k⟩ => by
  unfold andB at hf
  obtain ⟨⟨b1, ρ1⟩, h1, h2⟩ := Option.bind_eq_some_iff.mp hf
  refine ⟨G, ρ, φ, ts, b1, ρ1, I, h1, fun G1 H1 φ1 I1 => ?_⟩
  cases b1 with
  | true => exact iteT ⟨G1, ρ1, φ1, ts, r, ρ', I1, h2, k⟩
  | false => cases h2; exact iteF (k _ _ _ I1)
theorem w_or {t u : BE} {rest : List Expr} (h : DB X F a t) (g : DW X F (.BoolOp .Or (b :: rest) pos) u) : DW X F (.BoolOp .Or (a :: b :: rest) pos) (orB t u) := pw_imp (pw_or h g) fun σ H Q ⟨G, ρ, φ, ts, r, ρ', I, hf, k⟩ => by
  unfold orB at hf
  obtain ⟨⟨b1, ρ1⟩, h1, h2⟩ := Option.bind_eq_some_iff.mp hf
  refine ⟨G, ρ, φ, ts, b1, ρ1, I, h1, fun G1 H1 φ1 I1 => ?_⟩
  cases b1 with
  | true => cases h2; exact iteT (k _ _ _ I1)
  | false => exact iteF ⟨G1, ρ1, φ1, ts, r, ρ', I1, h2, k⟩
theorem b_w {t : BE} (h : DW X F a t) : DB X F a t := h.pt

/-! ### and, or, not as values; a if t else b -/
def andE (f g : EE) : EE := fun ρ => (f ρ).bind fun p => match view p.2 p.1 with | some (.bool true) => g p.2 | some (.bool false) => some (.sh (.bool false), p.2) | _ => none
def orE (f g : EE) : EE := fun ρ => (f ρ).bind fun p => match view p.2 p.1 with | some (.bool false) => g p.2 | some (.bool true) => some (.sh (.bool true), p.2) | _ => none
theorem c_one {op : BoolOp} (h : DE X F a f) : DE X F (.BoolOp op [a] pos) f := pe_one h
theorem c_and {rest : List Expr} (ha : DE X F a fa) (hb : DE X F (.BoolOp .And (b :: rest) pos) fb) : DE X F (.BoolOp .And (a :: b :: rest) pos) (andE fa fb) := pe_imp (pe_and ha hb) fun σ H Q ⟨G, ρ, φ, ts, r, ρ', I, hf, k⟩ => by
  unfold andE at hf
  obtain ⟨⟨ra, ρ1⟩, h1, h2⟩ := Option.bind_eq_some_iff.mp hf
  refine ⟨G, ρ, φ, ts, ra, ρ1, I, h1, fun G1 H1 φ1 va fpa I1 => ?_⟩
  simp only at h2
  split at h2
  · refine ⟨true, (I1.view I1.head ‹_›).bl, iteT ⟨G1, ρ1, φ1, ts, r, ρ', I1.drop, h2, k⟩⟩
  · cases h2
    exact ⟨false, (I1.view I1.head ‹_›).bl, iteF (k _ _ _ _ [] (I1.drop.pushD (.bl _)))⟩
  · cases h2
theorem c_or {rest : List Expr} (ha : DE X F a fa) (hb : DE X F (.BoolOp .Or (b :: rest) pos) fb) : DE X F (.BoolOp .Or (a :: b :: rest) pos) (orE fa fb) := pe_imp (pe_or ha hb) fun σ H Q ⟨G, ρ, φ, ts, r, ρ', I, hf, k⟩ => by
  unfold orE at hf
  obtain ⟨⟨ra, ρ1⟩, h1, h2⟩ := Option.bind_eq_some_iff.mp hf
  refine ⟨G, ρ, φ, ts, ra, ρ1, I, h1, fun G1 H1 φ1 va fpa I1 => ?_⟩
  simp only at h2
  split at h2
  · refine ⟨false, (I1.view I1.head ‹_›).bl, iteF ⟨G1, ρ1, φ1, ts, r, ρ', I1.drop, h2, k⟩⟩
  · cases h2
    exact ⟨true, (I1.view I1.head ‹_›).bl, iteT (k _ _ _ _ [] (I1.drop.pushD (.bl _)))⟩
  · cases h2
def gNot : PyData → Option S
  | .bool b => some (.sh (.bool (!b)))
  | _ => none
theorem c_not (ha : DE X F a fa) (he : ∀ whole, isTrue a X.env whole = (do let v ← whole; standAt a.pos; holding [v] (truthy v)) := by intro _; rfl) : DE X F (.UnaryOp .Not a pos) (unE gNot fa) := pe_imp (pe_not ha) fun σ H Q ⟨G, ρ, φ, ts, r, ρ', I, hf, k⟩ => by
  obtain ⟨ra, x, h1, h2, h3⟩ := unE_some hf
  refine ⟨G, ρ, φ, ts, ra, ρ', I, h1, fun G1 H1 φ1 va fpa I1 => ?_⟩
  have hx := I1.view I1.head h2
  unfold gNot at h3
  split at h3
  · cases h3
    exact ⟨_, hx.bl, k _ _ _ _ [] (I1.drop.pushD (.bl _))⟩
  · cases h3
def ifE (t : BE) (f g : EE) : EE := fun ρ => (t ρ).bind fun p => if p.1 = true then f p.2 else g p.2
theorem c_if {t : BE} (ht : DB X F c t) (ha : DE X F a fa) (hb : DE X F b fb) : DE X F (.IfExp c a b pos) (ifE t fa fb) := pe_imp (pe_ifExp ht ha hb) fun σ H Q ⟨G, ρ, φ, ts, r, ρ', I, hf, k⟩ => by
  unfold ifE at hf
  obtain ⟨⟨b1, ρ1⟩, h1, h2⟩ := Option.bind_eq_some_iff.mp hf
  refine ⟨G, ρ, φ, ts, b1, ρ1, I, h1, fun G1 H1 φ1 I1 => ?_⟩
  cases b1 with
  | true => exact iteT ⟨G1, ρ1, φ1, ts, r, ρ', I1, h2, k⟩
  | false => exact iteF ⟨G1, ρ1, φ1, ts, r, ρ', I1, h2, k⟩
/-- a op1 b op2 c -/
def chainE (g g' : PyData → PyData → Option S) (fa fb fc : EE) : EE := fun ρ =>
  (fa ρ).bind fun p => (fb p.2).bind fun q => (view q.2 p.1).bind fun x => (view q.2 q.1).bind fun y => match g x y with
    | some (.sh (.bool true)) => (fc q.2).bind fun u => (view u.2 q.1).bind fun y' => (view u.2 u.1).bind fun z => (g' y' z).map fun r => (r, u.2)
    | some (.sh (.bool false)) => some (.sh (.bool false), q.2)
    | _ => none
theorem c_chain {op op' : CmpOp} {r r' : R2} {g g' : PyData → PyData → Option S} (ho : OpR X (compareOp op) r) (hr : OpD X F r g) (ho' : OpR X (compareOp op') r') (hr' : OpD X F r' g') (ha : DE X F a fa) (hb : DE X F b fb) (hc : DE X F c fc)
    (hm : lastMarks [op, op'] [b, c] = false := by with_unfolding_all rfl) : DE X F (.Compare a [op, op'] [b, c] pos) (chainE g g' fa fb fc) := pe_imp (pe_chain ho ho' ha hb hc hm) fun σ H Q ⟨G, ρ, φ, ts, s, ρ', I, hf, k⟩ => by
  unfold chainE at hf
  obtain ⟨⟨ra, ρ1⟩, h1, hf⟩ := Option.bind_eq_some_iff.mp hf
  obtain ⟨⟨rb, ρ2⟩, h2, hf⟩ := Option.bind_eq_some_iff.mp hf
  obtain ⟨x, h3, hf⟩ := Option.bind_eq_some_iff.mp hf
  obtain ⟨y, h4, hf⟩ := Option.bind_eq_some_iff.mp hf
  simp only at h2 h3 h4 hf
  refine ⟨G, ρ, φ, ts, ra, ρ1, I, h1, fun G1 H1 φ1 va fpa I1 => ⟨G1, ρ1, φ1, _, rb, ρ2, I1, h2, fun G2 H2 φ2 vb fpb I2 => ?_⟩⟩
  split at hf
  · rename_i hg
    obtain ⟨⟨rc, ρ3⟩, h5, hf⟩ := Option.bind_eq_some_iff.mp hf
    obtain ⟨y', h6, hf⟩ := Option.bind_eq_some_iff.mp hf
    obtain ⟨z, h7, hf⟩ := Option.bind_eq_some_iff.mp hf
    obtain ⟨s', h8, hf⟩ := Option.map_eq_some_iff.mp hf
    cases hf
    refine hr G2 H2 σ _ φ2 _ va vb x y _ _ I2 (I2.view I2.drop.head h3) (I2.view I2.head h4) hg fun G3 H3 φ3 v fp I3 => ⟨true, Sh.blv I3.head.2, iteT ?_⟩
    refine ⟨G3, ρ2, φ3, _, rc, ρ3, I3.drop, h5, fun G4 H4 φ4 vc fpc I4 => ?_⟩
    exact hr' G4 H4 σ ρ3 φ4 _ vb vc y' z s Q I4.drop.drop.drop (I4.view I4.drop.head h6) (I4.view I4.head h7) h8 k
  · rename_i hg
    cases hf
    refine hr G2 H2 σ _ φ2 _ va vb x y _ _ I2 (I2.view I2.drop.head h3) (I2.view I2.head h4) hg fun G3 H3 φ3 v fp I3 => ⟨false, Sh.blv I3.head.2, iteF ?_⟩
    exact k _ _ _ _ [] (I3.drop.drop.drop.pushD (.bl _))
  · cases hf
end
end Dn
namespace Dn
open PySem L2
/-! Part 4: arguments, displays, calls of built-in functions, items, slices -/

def ShWL (K : PySem.W.Frag) (G H : Hp) : List V → List PyData → Prop
  | [], [] => True
  | v :: vs, d :: ds => ShW K G H v d ∧ ShWL K G H vs ds
  | _, _ => False
def viewL (ρ : Env) : List S → Option (List PyData)
  | [] => some []
  | r :: rs => (view ρ r).bind fun d => (viewL ρ rs).map fun ds => d :: ds
/-- .. from the last one to the first -/
def frozeR : List S → Env → Option (List PyData × Env)
  | [], ρ => some ([], ρ)
  | r :: rs, ρ => (froze ρ r).bind fun p => (frozeR rs p.2).map fun q => (p.1 :: q.1, q.2)
def frozeL (rs : List S) (ρ : Env) : Option (List PyData × Env) := (frozeR rs.reverse ρ).map fun p => (p.1.reverse, p.2)

section
variable {K : PySem.W.Frag} {F : Entry} {G G' H H' : Hp} {σ σ' : L2.St} {ρ ρ' : Env} {φ φ' : Nat → List Addr} {ts : List Hd}
theorem Fm.dropN : ∀ {us : List Hd}, Fm K F G H σ ρ φ (us ++ ts) → Fm K F G H σ ρ φ ts
  | [], I => I
  | u :: us, I => Fm.dropN (us := us) (Fm.drop (t := u) (ts := us ++ ts) I)
theorem Fm.viewL {all : List Hd} (I : Fm K F G H σ ρ φ all) : ∀ {hs : List Hd} {ds : List PyData}, (∀ h ∈ hs, h ∈ all) → viewL ρ (hs.map Hd.s) = some ds → ShWL K G H (hs.map Hd.v) ds
  | [], ds, _, e => by
    cases e; exact True.intro
  | h :: hs, ds, hm, e => by
    simp only [List.map_cons, Dn.viewL] at e
    obtain ⟨d, h1, e⟩ := Option.bind_eq_some_iff.mp e
    obtain ⟨ds', h2, e⟩ := Option.map_eq_some_iff.mp e
    cases e
    exact ⟨I.view (I.tm h (hm h List.mem_cons_self)) h1, Fm.viewL I (fun x hx => hm x (List.mem_cons_of_mem _ hx)) h2⟩
theorem Fm.frozeR : ∀ {us : List Hd} {G : Hp} {ρ ρ' : Env} {φ : Nat → List Addr} {ds : List PyData}, Fm K F G H σ ρ φ (us ++ ts) → frozeR (us.map Hd.s) ρ = some (ds, ρ') →
    ∃ G' φ', Fm K F G' H σ ρ' φ' ts ∧ ShL K G' (us.map Hd.v) ds ∧ Le G G'
  | [], G, ρ, ρ', φ, ds, I, e => by
    cases e; exact ⟨G, φ, I, .nil, fun _ _ q => q⟩
  | u :: us, G, ρ, ρ', φ, ds, I, e => by
    simp only [List.map_cons, Dn.frozeR] at e
    obtain ⟨⟨d, ρ1⟩, h1, e⟩ := Option.bind_eq_some_iff.mp e
    obtain ⟨⟨ds', ρ2⟩, h2, e⟩ := Option.map_eq_some_iff.mp e
    cases e
    obtain ⟨G1, φ1, I1, l1⟩ := Fm.froze (t := u) (ts := us ++ ts) I h1
    have hd := I1.head.2
    obtain ⟨G2, φ2, I2, r2, l2⟩ := Fm.frozeR (us := us) I1.drop h2
    exact ⟨G2, φ2, I2, .cons (Sh.mono l2 hd) r2, fun a o q => l2 a o (l1 a o q)⟩
theorem Fm.frozeL {hs : List Hd} {ds : List PyData} (I : Fm K F G H σ ρ φ (hs.reverse ++ ts)) (e : frozeL (hs.map Hd.s) ρ = some (ds, ρ')) : ∃ G' φ', Fm K F G' H σ ρ' φ' ts ∧ ShL K G' (hs.map Hd.v) ds ∧ Le G G' := by
  unfold Dn.frozeL at e
  obtain ⟨⟨ds', ρ1⟩, h1, e⟩ := Option.map_eq_some_iff.mp e
  cases e
  rw [← List.map_reverse] at h1
  obtain ⟨G', φ', I', r, l⟩ := Fm.frozeR I h1
  refine ⟨G', φ', I', ?_, l⟩
  have q := r.reverse
  rwa [List.map_reverse, List.reverse_reverse] at q
end

section
variable {X : Cx} {F : Entry} {a b c e : Expr} {es : List Expr} {pos p : Pos} {fa fb fc f : EE} {ta : AE} {x : Str} {id T : String}

def nilA : AE := fun ρ => some ([], ρ)
def consA (f : EE) (g : AE) : AE := fun ρ => (f ρ).bind fun p => (g p.2).map fun q => (p.1 :: q.1, q.2)
theorem c_nil : DAs X F [] nilA := pa_imp pa_nil fun σ H Q ⟨G, ρ, φ, ts, rs, ρ', I, hf, k⟩ => by
  cases hf
  exact k G H φ [] rfl I
theorem c_cons (ha : DE X F e f) (hr : DAs X F es ta) (hs : starEach (e :: es) X.env = (false, eval e X.env) :: starEach es X.env := by rfl) : DAs X F (e :: es) (consA f ta) := pa_imp (pa_cons ha hr hs) fun σ H Q ⟨G, ρ, φ, ts, rs, ρ', I, hf, k⟩ => by
  unfold consA at hf
  obtain ⟨⟨ra, ρ1⟩, h1, hf⟩ := Option.bind_eq_some_iff.mp hf
  obtain ⟨⟨rs', ρ2⟩, h2, hf⟩ := Option.map_eq_some_iff.mp hf
  cases hf
  refine ⟨G, ρ, φ, ts, ra, ρ1, I, h1, fun G1 H1 φ1 va fpa I1 => ⟨G1, ρ1, φ1, _, rs', _, I1, h2, fun G2 H2 φ2 hs e2 I2 => ?_⟩⟩
  refine k G2 H2 φ2 (⟨va, ra, fpa⟩ :: hs) (by rw [List.map_cons, e2]) ?_
  rw [List.reverse_cons, List.append_assoc]
  exact I2

/-! ### displays -/
def tupE (ta : AE) : EE := fun ρ => (ta ρ).bind fun p => (frozeL p.1 p.2).bind fun q => if q.1.length ≤ 1000000 then some (.sh (.tuple q.1), q.2) else none
def lstE (ta : AE) : EE := fun ρ => (ta ρ).bind fun p => (frozeL p.1 p.2).bind fun q => if q.1.length ≤ 1000000 then some (.ls q.1, q.2) else none
theorem c_tup {x1 : Nat} (h : DAs X F es ta) : DE X F (.Tuple es x1 pos) (tupE ta) := pe_imp (pe_tup h) fun σ H Q ⟨G, ρ, φ, ts, r, ρ', I, hf, k⟩ => by
  unfold tupE at hf
  obtain ⟨⟨rs, ρ1⟩, h1, hf⟩ := Option.bind_eq_some_iff.mp hf
  obtain ⟨⟨ds, ρ2⟩, h2, hf⟩ := Option.bind_eq_some_iff.mp hf
  simp only at h2 hf
  split at hf
  · rename_i hz
    cases hf
    refine ⟨G, ρ, φ, ts, rs, ρ1, I, h1, fun G1 H1 φ1 hs e1 I1 => ?_⟩
    subst e1
    obtain ⟨G2, φ2, I2, r2, _⟩ := I1.frozeL h2
    refine ⟨?_, fun p hp => k _ _ φ2 _ _ (I2.newT hp r2)⟩
    rw [r2.length]
    exact Nat.le_trans hz line_big
  · cases hf
theorem c_lst (h : DAs X F es ta) : DE X F (.List es pos) (lstE ta) := pe_imp (pe_lst h) fun σ H Q ⟨G, ρ, φ, ts, r, ρ', I, hf, k⟩ => by
  unfold lstE at hf
  obtain ⟨⟨rs, ρ1⟩, h1, hf⟩ := Option.bind_eq_some_iff.mp hf
  obtain ⟨⟨ds, ρ2⟩, h2, hf⟩ := Option.bind_eq_some_iff.mp hf
  simp only at h2 hf
  split at hf
  · rename_i hz
    cases hf
    refine ⟨G, ρ, φ, ts, rs, ρ1, I, h1, fun G1 H1 φ1 hs e1 I1 => ?_⟩
    subst e1
    obtain ⟨G2, φ2, I2, r2, _⟩ := I1.frozeL h2
    refine ⟨?_, fun p hp => k _ _ φ2 _ _ (I2.newL hp r2)⟩
    rw [r2.length]
    exact Nat.le_trans hz line_big
  · cases hf

/-! ### calls of built-in functions -/
def callE (g : List PyData → Option S) (ta : AE) : EE := fun ρ => (ta ρ).bind fun p => (viewL p.2 p.1).bind fun ds => (g ds).map fun r => (r, p.2)
def CaD (X : Cx) (F : Entry) (rr : List V → Hp → VK → Prop) (g : List PyData → Option S) : Prop :=
  ∀ G H σ ρ φ ts vs ds r (Q : VK), Fm X.K F G H σ ρ φ ts → ShWL X.K G H vs ds → g ds = some r → (∀ G' H' φ' v fp, Fm X.K F G' H' σ ρ φ' (⟨v, r, fp⟩ :: ts) → Q v H') → rr vs H Q
theorem call_run {rr : List V → Hp → VK → Prop} {g : List PyData → Option S} (hr : CaD X F rr g) : ∀ σ H Q, tE X.K F (callE g ta) σ H Q → tCB rr (tAs X.K F ta) σ H Q := fun σ H Q ⟨G, ρ, φ, ts, r, ρ', I, hf, k⟩ => by
  unfold callE at hf
  obtain ⟨⟨rs, ρ1⟩, h1, hf⟩ := Option.bind_eq_some_iff.mp hf
  obtain ⟨ds, h2, hf⟩ := Option.bind_eq_some_iff.mp hf
  obtain ⟨r', h3, hf⟩ := Option.map_eq_some_iff.mp hf
  cases hf
  refine ⟨G, ρ, φ, ts, rs, _, I, h1, fun G1 H1 φ1 hs e1 I1 => ?_⟩
  subst e1
  exact hr G1 H1 σ _ φ1 ts _ ds r Q I1.dropN (I1.viewL (fun h hm => List.mem_append_left _ (List.mem_reverse.mpr hm)) h2) h3 k
theorem c_callB {rr : List V → Hp → VK → Prop} {g : List PyData → Option S} (hc : CallR X (.builtin id) rr) (hr : CaD X F rr g) (hg : Gl X x) (hm : X.mg x = none) (hv : bootBuiltins x = some (.builtin id)) (ha : DAs X F (e :: es) ta) (hn : x ≠ "__name__" := by decide)
    (hdb : (x == ("__debug__" : Str)) = false := by decide) (he : starEach (e :: es) X.env = (false, eval e X.env) :: starEach es X.env := by rfl) (hpl : (backTo pos (starEach es X.env)).any (·.1) = false := by rfl) :
    DE X F (.Call (.Name x p) (e :: es) [] pos) (callE g ta) := pe_imp (pe_callB hc hg hm hv ha hn hdb he hpl) (call_run hr)
theorem c_callTy {rr : List V → Hp → VK → Prop} {g : List PyData → Option S} (hc : CallR X (.type T) rr) (hr : CaD X F rr g) (hg : Gl X x) (hm : X.mg x = none) (hv : bootBuiltins x = some (.type T)) (ha : DAs X F (e :: es) ta) (hn : x ≠ "__name__" := by decide)
    (hdb : (x == ("__debug__" : Str)) = false := by decide) (he : starEach (e :: es) X.env = (false, eval e X.env) :: starEach es X.env := by rfl) (hpl : (backTo pos (starEach es X.env)).any (·.1) = false := by rfl) :
    DE X F (.Call (.Name x p) (e :: es) [] pos) (callE g ta) := pe_imp (pe_callTy hc hg hm hv ha hn hdb he hpl) (call_run hr)
theorem c_callG {rr : List V → Hp → VK → Prop} {g : List PyData → Option S} (hc : CallR X (.builtin id) rr) (hr : CaD X F rr g) (hg : Gl X x) (hm : X.mg x = some (.builtin id)) (ha : DAs X F (e :: es) ta)
    (hdb : (x == ("__debug__" : Str)) = false := by decide) (he : starEach (e :: es) X.env = (false, eval e X.env) :: starEach es X.env := by rfl) (hpl : (backTo pos (starEach es X.env)).any (·.1) = false := by rfl) :
    DE X F (.Call (.Name x p) (e :: es) [] pos) (callE g ta) := pe_imp (pe_callBfun hc hg hm ha hdb he hpl) (call_run hr)

theorem shwl1 {K : PySem.W.Frag} {G H : Hp} {vs : List V} {d : PyData} (h : ShWL K G H vs [d]) : ∃ v, vs = [v] ∧ ShW K G H v d := by
  cases vs with
  | nil => exact h.elim
  | cons v vs =>
    cases vs with
    | nil => exact ⟨v, rfl, h.1⟩
    | cons _ _ => exact h.2.elim
theorem shwl2 {K : PySem.W.Frag} {G H : Hp} {vs : List V} {d e : PyData} (h : ShWL K G H vs [d, e]) : ∃ v w, vs = [v, w] ∧ ShW K G H v d ∧ ShW K G H w e := by
  cases vs with
  | nil => exact h.elim
  | cons v vs =>
    obtain ⟨w, rfl, h2⟩ := shwl1 h.2
    exact ⟨v, w, rfl, h.1, h2⟩

/-- an item's list as ints -/
def intsOf : List PyData → Option (List Int)
  | [] => some []
  | .int i :: ds => (intsOf ds).map fun is => i :: is
  | _ => none
theorem intsOf_some : ∀ {ds : List PyData} {ns : List Int}, intsOf ds = some ns → ds = ns.map PyData.int
  | [], ns, h => by cases h; rfl
  | .int i :: ds, ns, h => by
    simp only [intsOf] at h
    obtain ⟨is, h1, h2⟩ := Option.map_eq_some_iff.mp h
    cases h2
    rw [List.map_cons, intsOf_some h1]
  | .none :: ds, ns, h => by cases h
  | .bool _ :: ds, ns, h => by cases h
  | .str _ :: ds, ns, h => by cases h
  | .list _ :: ds, ns, h => by cases h
  | .tuple _ :: ds, ns, h => by cases h
  | .dict _ :: ds, ns, h => by cases h

def gLen : List PyData → Option S
  | [.list xs] => some (.sh (.int xs.length))
  | [.tuple xs] => some (.sh (.int xs.length))
  | [.str x] => if x.length ≤ 1000000 then some (.sh (.int x.length)) else none
  | _ => none
theorem ca_len : CaD X F (fun xs H Q => ∃ x n, xs = [x] ∧ LenV X.K x H n ∧ Q (.int n) H) gLen := by
  intro G H σ ρ φ ts vs ds r Q I hw hg k
  unfold gLen at hg
  split at hg
  · cases hg
    obtain ⟨v, rfl, h⟩ := shwl1 hw
    obtain ⟨q, us, rfl, h1, r1⟩ := h.list I.gh
    exact ⟨_, us.length, rfl, .inl ⟨us, SqL.of h1, rfl⟩, k _ _ _ _ [] (I.pushD (by rw [r1.length]; exact .int _))⟩
  · cases hg
    obtain ⟨v, rfl, h⟩ := shwl1 hw
    obtain ⟨q, us, rfl, h1, r1⟩ := h.tup
    exact ⟨_, us.length, rfl, .inr ⟨us, Le.sqT I.gh h1, rfl⟩, k _ _ _ _ [] (I.pushD (by rw [r1.length]; exact .int _))⟩
  · split at hg
    · cases hg
      obtain ⟨v, rfl, h⟩ := shwl1 hw
      rw [h.str]
      exact ⟨_, _, rfl, ⟨Nat.le_trans ‹_› line_big, rfl⟩, k _ _ _ _ [] (I.pushD (.int _))⟩
    · cases hg
  · cases hg
def gInt1 : List PyData → Option S
  | [.int i] => some (.sh (.int i))
  | [.bool b] => some (.sh (.int (if b then 1 else 0)))
  | _ => none
theorem ca_int : CaD X F (fun xs H Q => (∃ i, xs = [.int i] ∧ Q (.int i) H) ∨ ∃ k, xs = [.bl k] ∧ Q (.int (if k then 1 else 0)) H) gInt1 := by
  intro G H σ ρ φ ts vs ds r Q I hw hg k
  unfold gInt1 at hg
  split at hg
  · cases hg
    obtain ⟨v, rfl, h⟩ := shwl1 hw
    rw [h.int]
    exact .inl ⟨_, rfl, k _ _ _ _ [] (I.pushD (.int _))⟩
  · cases hg
    obtain ⟨v, rfl, h⟩ := shwl1 hw
    rw [h.bl]
    exact .inr ⟨_, rfl, k _ _ _ _ [] (I.pushD (.int _))⟩
  · cases hg
def gAbs : List PyData → Option S
  | [.int i] => some (.sh (.int (if i < 0 then -i else i)))
  | _ => none
theorem ca_abs : CaD X F (fun xs H Q => ∃ i, xs = [.int i] ∧ Q (.int (if i < 0 then -i else i)) H) gAbs := by
  intro G H σ ρ φ ts vs ds r Q I hw hg k
  unfold gAbs at hg
  split at hg
  · cases hg
    obtain ⟨v, rfl, h⟩ := shwl1 hw
    rw [h.int]
    exact ⟨_, rfl, k _ _ _ _ [] (I.pushD (.int _))⟩
  · cases hg
def gMax2 : List PyData → Option S
  | [.int i, .int j] => some (.sh (.int (if j > i then j else i)))
  | _ => none
def gMin2 : List PyData → Option S
  | [.int i, .int j] => some (.sh (.int (if j < i then j else i)))
  | _ => none
theorem ca_max2 : CaD X F (fun xs H Q => ∃ i j, xs = [.int i, .int j] ∧ Q (.int (if j > i then j else i)) H) gMax2 := by
  intro G H σ ρ φ ts vs ds r Q I hw hg k
  unfold gMax2 at hg
  split at hg
  · cases hg
    obtain ⟨v, w, rfl, h1, h2⟩ := shwl2 hw
    rw [h1.int, h2.int]
    exact ⟨_, _, rfl, k _ _ _ _ [] (I.pushD (.int _))⟩
  · cases hg
theorem ca_min2 : CaD X F (fun xs H Q => ∃ i j, xs = [.int i, .int j] ∧ Q (.int (if j < i then j else i)) H) gMin2 := by
  intro G H σ ρ φ ts vs ds r Q I hw hg k
  unfold gMin2 at hg
  split at hg
  · cases hg
    obtain ⟨v, w, rfl, h1, h2⟩ := shwl2 hw
    rw [h1.int, h2.int]
    exact ⟨_, _, rfl, k _ _ _ _ [] (I.pushD (.int _))⟩
  · cases hg
def gGcd : List PyData → Option S
  | [.int i, .int j] => some (.sh (.int ((Nat.gcd i.natAbs j.natAbs : Nat) : Int)))
  | _ => none
theorem ca_gcd : CaD X F rGcd gGcd := by
  intro G H σ ρ φ ts vs ds r Q I hw hg k
  unfold gGcd at hg
  split at hg
  · cases hg
    obtain ⟨v, w, rfl, h1, h2⟩ := shwl2 hw
    rw [h1.int, h2.int]
    exact ⟨_, _, rfl, k _ _ _ _ [] (I.pushD (.int _))⟩
  · cases hg
def gSum : List PyData → Option S
  | [.list xs] => (intsOf xs).map fun ns => .sh (.int ns.sum)
  | _ => none
theorem ca_sum : CaD X F (rSum X.K) gSum := by
  intro G H σ ρ φ ts vs ds r Q I hw hg k
  unfold gSum at hg
  split at hg
  · obtain ⟨ns, h1, h2⟩ := Option.map_eq_some_iff.mp hg
    cases h2
    obtain ⟨v, rfl, h⟩ := shwl1 hw
    obtain ⟨q, us, rfl, h3, r1⟩ := h.list I.gh
    rw [intsOf_some h1] at r1
    rw [r1.ints] at h3
    exact ⟨_, ns, rfl, SqL.of h3, k _ _ _ _ [] (I.pushD (.int _))⟩
  · cases hg
def maxI : List Int → Int
  | [] => 0
  | [x] => x
  | x :: xs => if maxI xs ≤ x then x else maxI xs
def minI : List Int → Int
  | [] => 0
  | [x] => x
  | x :: xs => if x ≤ minI xs then x else minI xs
theorem maxI_spec : ∀ xs : List Int, xs ≠ [] → maxI xs ∈ xs ∧ ∀ y ∈ xs, y ≤ maxI xs
  | [], h => absurd rfl h
  | [x], _ => ⟨by simp [maxI], fun y hy => by simp at hy; simp [maxI, hy]⟩
  | x :: z :: xs, _ => by
    obtain ⟨h1, h2⟩ := maxI_spec (z :: xs) (by simp)
    rw [show maxI (x :: z :: xs) = if maxI (z :: xs) ≤ x then x else maxI (z :: xs) from rfl]
    split
    · refine ⟨List.mem_cons_self, fun y hy => ?_⟩
      rcases List.mem_cons.mp hy with e | e
      · omega
      · have := h2 y e; omega
    · refine ⟨List.mem_cons_of_mem _ h1, fun y hy => ?_⟩
      rcases List.mem_cons.mp hy with e | e
      · omega
      · exact h2 y e
theorem minI_spec : ∀ xs : List Int, xs ≠ [] → minI xs ∈ xs ∧ ∀ y ∈ xs, minI xs ≤ y
  | [], h => absurd rfl h
  | [x], _ => ⟨by simp [minI], fun y hy => by simp at hy; simp [minI, hy]⟩
  | x :: z :: xs, _ => by
    obtain ⟨h1, h2⟩ := minI_spec (z :: xs) (by simp)
    rw [show minI (x :: z :: xs) = if x ≤ minI (z :: xs) then x else minI (z :: xs) from rfl]
    split
    · refine ⟨List.mem_cons_self, fun y hy => ?_⟩
      rcases List.mem_cons.mp hy with e | e
      · omega
      · have := h2 y e; omega
    · refine ⟨List.mem_cons_of_mem _ h1, fun y hy => ?_⟩
      rcases List.mem_cons.mp hy with e | e
      · omega
      · exact h2 y e
def gMax : List PyData → Option S
  | [.list (x :: xs)] => (intsOf (x :: xs)).map fun ns => .sh (.int (maxI ns))
  | _ => none
def gMin : List PyData → Option S
  | [.list (x :: xs)] => (intsOf (x :: xs)).map fun ns => .sh (.int (minI ns))
  | _ => none
theorem ca_max : CaD X F (rMax X.K) gMax := by
  intro G H σ ρ φ ts vs ds r Q I hw hg k
  unfold gMax at hg
  split at hg
  · obtain ⟨ns, h1, h2⟩ := Option.map_eq_some_iff.mp hg
    cases h2
    obtain ⟨v, rfl, h⟩ := shwl1 hw
    obtain ⟨q, us, rfl, h3, r1⟩ := h.list I.gh
    have e := intsOf_some h1
    rw [e] at r1
    rw [r1.ints] at h3
    have ne : ns ≠ [] := fun z => by rw [z] at e; cases e
    obtain ⟨m1, m2⟩ := maxI_spec ns ne
    refine ⟨_, ns, rfl, SqL.of h3, List.length_pos_iff.mpr ne, fun m hm hy => ?_⟩
    have em : m = maxI ns := Int.le_antisymm (m2 m hm) (hy _ m1)
    rw [em]
    exact k _ _ _ _ [] (I.pushD (.int _))
  · cases hg
theorem ca_min : CaD X F (rMin X.K) gMin := by
  intro G H σ ρ φ ts vs ds r Q I hw hg k
  unfold gMin at hg
  split at hg
  · obtain ⟨ns, h1, h2⟩ := Option.map_eq_some_iff.mp hg
    cases h2
    obtain ⟨v, rfl, h⟩ := shwl1 hw
    obtain ⟨q, us, rfl, h3, r1⟩ := h.list I.gh
    have e := intsOf_some h1
    rw [e] at r1
    rw [r1.ints] at h3
    have ne : ns ≠ [] := fun z => by rw [z] at e; cases e
    obtain ⟨m1, m2⟩ := minI_spec ns ne
    refine ⟨_, ns, rfl, SqL.of h3, List.length_pos_iff.mpr ne, fun m hm hy => ?_⟩
    have em : m = minI ns := Int.le_antisymm (hy _ m1) (m2 m hm)
    rw [em]
    exact k _ _ _ _ [] (I.pushD (.int _))
  · cases hg
def gTuple : List PyData → Option S
  | [.list xs] => some (.sh (.tuple xs))
  | [.tuple xs] => some (.sh (.tuple xs))
  | _ => none
theorem ca_tuple : CaD X F (fun xs H Q => ∃ p ys, xs = [.ref p] ∧ ((SqL X.K H p ys ∧ ∀ l, H l = none → Q (.ref l) (upd H l (.tup ys))) ∨ (SqT X.K H p ys ∧ Q (.ref p) H))) gTuple := by
  intro G H σ ρ φ ts vs ds r Q I hw hg k
  unfold gTuple at hg
  split at hg
  · cases hg
    obtain ⟨v, rfl, h⟩ := shwl1 hw
    obtain ⟨q, us, rfl, h3, r1⟩ := h.list I.gh
    exact ⟨_, us, rfl, .inl ⟨SqL.of h3, fun l hl => k _ _ φ _ _ (I.newT hl r1)⟩⟩
  · cases hg
    obtain ⟨v, rfl, h⟩ := shwl1 hw
    obtain ⟨q, us, rfl, h3, r1⟩ := h.tup
    exact ⟨_, us, rfl, .inr ⟨Le.sqT I.gh h3, k _ _ φ _ [] (I.pushD (.tup h3 r1))⟩⟩
  · cases hg
def gList : List PyData → Option S
  | [.list xs] => some (.ls xs)
  | [.tuple xs] => some (.ls xs)
  | _ => none
theorem ca_list : CaD X F (fun xs H Q => ∃ p ys, xs = [.ref p] ∧ (SqL X.K H p ys ∨ SqT X.K H p ys) ∧ ∀ l, H l = none → Q (.ref l) (upd H l (.lst ys))) gList := by
  intro G H σ ρ φ ts vs ds r Q I hw hg k
  unfold gList at hg
  split at hg
  · cases hg
    obtain ⟨v, rfl, h⟩ := shwl1 hw
    obtain ⟨q, us, rfl, h3, r1⟩ := h.list I.gh
    exact ⟨_, us, rfl, .inl (SqL.of h3), fun l hl => k _ _ φ _ _ (I.newL hl r1)⟩
  · cases hg
    obtain ⟨v, rfl, h⟩ := shwl1 hw
    obtain ⟨q, us, rfl, h3, r1⟩ := h.tup
    exact ⟨_, us, rfl, .inr (Le.sqT I.gh h3), fun l hl => k _ _ φ _ _ (I.newL hl r1)⟩
  · cases hg

/-! ### repr -/
mutual
def smallD : PyData → Bool
  | .none | .bool _ => true
  | .int i => decide (i.natAbs.log2 < 600)
  | .str x => x.cps.toList.all fun c => decide (c < 16 ^ 8)
  | .list xs | .tuple xs => smallAll xs
  | .dict _ => false
def smallAll : List PyData → Bool
  | [] => true
  | x :: xs => smallD x && smallAll xs
end
mutual
theorem small_leaves : ∀ d : PyData, smallD d = true → d.leavesShort 604 = true ∧ d.showable = true
  | .none, _ => ⟨rfl, rfl⟩
  | .bool _, _ => ⟨rfl, rfl⟩
  | .int i, h => by
    have h' : i.natAbs.log2 < 600 := of_decide_eq_true (by simpa [smallD] using h)
    refine ⟨?_, ?_⟩
    · simp only [PyData.leavesShort]
      refine decide_eq_true ?_
      show (Str.ofString (toString i)).length ≤ 604
      rw [ofString_length]
      exact Nat.le_trans (int_text_length_le (k := 600) (by decide) h') (show 600 + 1 ≤ 604 by decide)
    · simp only [PyData.showable, decide_eq_true_eq]
      omega
  | .str x, h => ⟨by simpa [PyData.leavesShort, smallD] using h, rfl⟩
  | .list xs, h => by
    obtain ⟨h1, h2⟩ := small_leavesAll xs (by simpa [smallD] using h)
    exact ⟨by simpa [PyData.leavesShort] using h1, by simpa [PyData.showable] using h2⟩
  | .tuple xs, h => by
    obtain ⟨h1, h2⟩ := small_leavesAll xs (by simpa [smallD] using h)
    exact ⟨by simpa [PyData.leavesShort] using h1, by simpa [PyData.showable] using h2⟩
  | .dict _, h => by simp [smallD] at h
theorem small_leavesAll : ∀ xs : List PyData, smallAll xs = true → PyData.leavesShortAll 604 xs = true ∧ PyData.showableAll xs = true
  | [], _ => ⟨rfl, rfl⟩
  | x :: xs, h => by
    have h' : smallD x = true ∧ smallAll xs = true := by simpa [smallAll] using h
    obtain ⟨a1, a2⟩ := small_leaves x h'.1
    obtain ⟨b1, b2⟩ := small_leavesAll xs h'.2
    exact ⟨by simp [PyData.leavesShortAll, a1, b1], by simp [PyData.showableAll, a2, b2]⟩
end
def reprOk (d : PyData) : Bool := smallD d && d.canLay0 && decide (d.depth ≤ 50) && decide (d.bulk ≤ 20000)
def gRepr : List PyData → Option S
  | [d] => if reprOk d = true then some (.sh (.str d.shown)) else none
  | _ => none
def rRepr (K : PySem.W.Frag) : List V → Hp → VK → Prop := fun vs H Q => ∃ v d, vs = [v] ∧ Sh K H v d ∧ reprOk d = true ∧ Q (.str d.shown) H
theorem call_repr (C : CtxOk X) : CallR X (.builtin "repr") (rRepr X.K) := by
  intro pins s σ H xs us Q I r h
  obtain ⟨v, d, rfl, hs, ok, q⟩ := h
  obtain ⟨u, rfl, rx⟩ := vals1 r
  unfold reprOk at ok
  simp only [Bool.and_eq_true, decide_eq_true_eq] at ok
  obtain ⟨⟨⟨o1, o2⟩, o3⟩, o4⟩ := ok
  obtain ⟨l1, l2⟩ := small_leaves d o1
  have hsz : d.shown.length ≤ sizeLine := by
    have h1 := PyData.shown_le_bulk 604 (by decide) d l1
    have h2 : sizeLine = 16777216 := sizeLine_eq
    omega
  obtain ⟨as, rd⟩ := Dp.reads I d v u (hs.dp o2) rx
  cases hs with
  | non => cases rx; exact PySem.P.repr_of_none ⟨.str _, H, I.tok _, ⟨_, rfl⟩, q⟩
  | bl b =>
    cases rx
    refine PySem.P.repr_of_bool ⟨.str _, H, I.tok _, ⟨s.toks, rfl⟩, ?_⟩
    cases b <;> exact q
  | int i =>
    obtain ⟨t, rfl⟩ := rx
    exact PySem.P.repr_of_int (by simpa [PyData.showable] using l2) ⟨.str _, H, I.tok _, ⟨_, rfl⟩, q⟩
  | str x =>
    obtain ⟨t, rfl⟩ := rx
    exact PySem.P.repr_of_str ⟨.str _, H, I.tok _, ⟨_, rfl⟩, q⟩ hsz
  | lst h1 h2 =>
    cases rx
    exact repr_of_reads' rd l2 (PyData.noDict_hsm (PyData.hasDict_of_canLay _ o2)) C.gd (by have := C.un; omega) (fun _ _ e => e) (fun h' u tk kk => ⟨.str _, H, I.kept kk, ⟨_, rfl⟩, q⟩) hsz
  | tup h1 h2 =>
    cases rx
    exact repr_of_reads' rd l2 (PyData.noDict_hsm (PyData.hasDict_of_canLay _ o2)) C.gd (by have := C.un; omega) (fun _ _ e => e) (fun h' u tk kk => ⟨.str _, H, I.kept kk, ⟨_, rfl⟩, q⟩) hsz
  | dkk _ _ _ => simp [PyData.canLay0] at o2
  | dtt _ _ _ => simp [PyData.canLay0] at o2
theorem ca_repr : CaD X F (rRepr X.K) gRepr := by
  intro G H σ ρ φ ts vs ds r Q I hw hg k
  unfold gRepr at hg
  split at hg
  · split at hg
    · cases hg
      obtain ⟨v, rfl, h⟩ := shwl1 hw
      exact ⟨v, _, rfl, h.sh I.gh, ‹_›, k _ _ _ _ [] (I.pushD (.str _))⟩
    · cases hg
  · cases hg

/-! ### isinstance -/
def tyN : PyData → String
  | .none => "NoneType"
  | .bool _ => "bool"
  | .int _ => "int"
  | .str _ => "str"
  | .list _ => "list"
  | .tuple _ => "tuple"
  | .dict _ => "dict"
theorem Sh.ty {K : PySem.W.Frag} {H : Hp} {v : V} {d : PyData} (h : Sh K H v d) : TyX K H v (.type (tyN d)) := by
  cases h with
  | non => exact .base .non
  | bl b => exact .base (.bl b)
  | int i => exact .base (.int i)
  | str x => exact .base (.str x)
  | lst h _ => exact .base (.lst h)
  | tup h _ =>
    rcases h with (h | ⟨o, h⟩) | ⟨o, its, n, hk, hc, _⟩
    · exact .base (.tup h)
    · exact .fTuple h
    · exact .kTuple hk hc
  | dkk h _ _ => exact .base (.dK h)
  | dtt h _ _ => exact .base (.dT h)
def isT (T : String) (d : PyData) : Bool := (kitB (tyN d) T).getD false
/-- isinstance(e, T) for a built-in type T -/
def isiE (p : PyData → Bool) (fa : EE) : EE := unE (fun d => some (.sh (.bool (p d)))) fa
theorem c_isi {p1 p2 p3 : Pos} {T : String} {y : Str} {pr : PyData → Bool} (hp : ∀ d, kitB (tyN d) T = some (pr d)) (hg : Gl X "isinstance") (hm : X.mg "isinstance" = none) (hgT : Gl X y) (hmT : X.mg y = none) (hvT : bootBuiltins y = some (.type T)) (ha : DE X F a fa)
    (hnT : y ≠ "__name__" := by decide) (hdT : (y == ("__debug__" : Str)) = false := by decide)
    (hs : starEach [a, .Name y p2] X.env = (false, eval a X.env) :: starEach [.Name y p2] X.env := by rfl) (hpl : (backTo p3 (starEach [.Name y p2] X.env)).any (·.1) = false := by rfl)
    (hs2 : starEach [.Name y p2] X.env = (false, eval (.Name y p2) X.env) :: starEach [] X.env := by rfl) :
    DE X F (.Call (.Name "isinstance" p1) [a, .Name y p2] [] p3) (isiE pr fa) :=
  pe_imp (pe_callB (pos := p3) call_isi hg hm (by decide +kernel) (pa_cons ha (pa_cons (pe_bltn hgT hmT hvT (v := .ty T) rfl hnT hdT) pa_nil hs2) hs) (by decide) (by decide) hs hpl) fun σ H Q ⟨G, ρ, φ, ts, r, ρ', I, hf, k⟩ => by
    obtain ⟨ra, x, h1, h2, h3⟩ := unE_some hf
    cases h3
    refine ⟨G, ρ, φ, ts, ra, ρ', I, h1, fun G1 H1 φ1 va fpa I1 => ?_⟩
    have hx := (I1.view I1.head h2).sh I1.gh
    exact ⟨va, .ty T, .type (tyN x), .type T, pr x, rfl, .ty T, hx.ty, kit_ty (hp x), k _ _ _ _ [] (I1.drop.pushD (.bl _))⟩
def isInt : PyData → Bool
  | .int _ | .bool _ => true
  | _ => false
def isBool : PyData → Bool
  | .bool _ => true
  | _ => false
def isTup : PyData → Bool
  | .tuple _ => true
  | _ => false
def isStr : PyData → Bool
  | .str _ => true
  | _ => false
def isLst : PyData → Bool
  | .list _ => true
  | _ => false
theorem kit_int : ∀ d : PyData, kitB (tyN d) "int" = some (isInt d)
  | .none => (by decide +kernel : kitB "NoneType" "int" = some false)
  | .bool _ => (by decide +kernel : kitB "bool" "int" = some true)
  | .int _ => (by decide +kernel : kitB "int" "int" = some true)
  | .str _ => (by decide +kernel : kitB "str" "int" = some false)
  | .list _ => (by decide +kernel : kitB "list" "int" = some false)
  | .tuple _ => (by decide +kernel : kitB "tuple" "int" = some false)
  | .dict _ => (by decide +kernel : kitB "dict" "int" = some false)
theorem kit_bool : ∀ d : PyData, kitB (tyN d) "bool" = some (isBool d)
  | .none => (by decide +kernel : kitB "NoneType" "bool" = some false)
  | .bool _ => (by decide +kernel : kitB "bool" "bool" = some true)
  | .int _ => (by decide +kernel : kitB "int" "bool" = some false)
  | .str _ => (by decide +kernel : kitB "str" "bool" = some false)
  | .list _ => (by decide +kernel : kitB "list" "bool" = some false)
  | .tuple _ => (by decide +kernel : kitB "tuple" "bool" = some false)
  | .dict _ => (by decide +kernel : kitB "dict" "bool" = some false)
theorem kit_tuple : ∀ d : PyData, kitB (tyN d) "tuple" = some (isTup d)
  | .none => (by decide +kernel : kitB "NoneType" "tuple" = some false)
  | .bool _ => (by decide +kernel : kitB "bool" "tuple" = some false)
  | .int _ => (by decide +kernel : kitB "int" "tuple" = some false)
  | .str _ => (by decide +kernel : kitB "str" "tuple" = some false)
  | .list _ => (by decide +kernel : kitB "list" "tuple" = some false)
  | .tuple _ => (by decide +kernel : kitB "tuple" "tuple" = some true)
  | .dict _ => (by decide +kernel : kitB "dict" "tuple" = some false)
theorem kit_str : ∀ d : PyData, kitB (tyN d) "str" = some (isStr d)
  | .none => (by decide +kernel : kitB "NoneType" "str" = some false)
  | .bool _ => (by decide +kernel : kitB "bool" "str" = some false)
  | .int _ => (by decide +kernel : kitB "int" "str" = some false)
  | .str _ => (by decide +kernel : kitB "str" "str" = some true)
  | .list _ => (by decide +kernel : kitB "list" "str" = some false)
  | .tuple _ => (by decide +kernel : kitB "tuple" "str" = some false)
  | .dict _ => (by decide +kernel : kitB "dict" "str" = some false)
theorem kit_list : ∀ d : PyData, kitB (tyN d) "list" = some (isLst d)
  | .none => (by decide +kernel : kitB "NoneType" "list" = some false)
  | .bool _ => (by decide +kernel : kitB "bool" "list" = some false)
  | .int _ => (by decide +kernel : kitB "int" "list" = some false)
  | .str _ => (by decide +kernel : kitB "str" "list" = some false)
  | .list _ => (by decide +kernel : kitB "list" "list" = some true)
  | .tuple _ => (by decide +kernel : kitB "tuple" "list" = some false)
  | .dict _ => (by decide +kernel : kitB "dict" "list" = some false)

/-! ### items -/
theorem ShL.atI {K : PySem.W.Frag} {G : Hp} {vs : List V} {ds : List PyData} {i : Int} {d : PyData} (h : ShL K G vs ds) (e : atI ds i = some d) : ∃ v, atI vs i = some v ∧ Sh K G v d := by
  unfold L2.atI at e ⊢
  rw [h.length]
  cases q : ixN ds.length i with
  | none => rw [q] at e; cases e
  | some j =>
    rw [q] at e
    exact h.get' e
def gIx : PyData → PyData → Option S
  | .list xs, .int i => (atI xs i).map .sh
  | .tuple xs, .int i => (atI xs i).map .sh
  | _, _ => none
theorem d_ix : OpD X F (rIx X.K) gIx := by
  intro G H σ ρ φ ts x y d e r Q I hx hy hg k
  unfold gIx at hg
  split at hg
  · obtain ⟨d', h1, h2⟩ := Option.map_eq_some_iff.mp hg
    cases h2
    obtain ⟨p, us, rfl, h3, r1⟩ := hx.list I.gh
    obtain ⟨v, h4, h5⟩ := r1.atI h1
    exact .inl ⟨p, us, _, v, rfl, hy.int, SqL.of h3, h4, k _ _ φ _ [] (I.pushD h5)⟩
  · obtain ⟨d', h1, h2⟩ := Option.map_eq_some_iff.mp hg
    cases h2
    obtain ⟨p, us, rfl, h3, r1⟩ := hx.tup
    obtain ⟨v, h4, h5⟩ := r1.atI h1
    exact .inr (.inl ⟨p, us, _, v, rfl, hy.int, Le.sqT I.gh h3, h4, k _ _ φ _ [] (I.pushD h5)⟩)
  · cases hg
theorem c_ix (ha : DE X F a fa) (hb : DE X F b fb) (hs : PlainIx b) : DE X F (.Subscript a b pos) (binE gIx fa fb) := pe_imp (pe_ix ix_seq ha hb hs) (bin_run d_ix)
/-- xs[::-1] -/
def gRev : PyData → Option S
  | .list xs => some (.ls xs.reverse)
  | _ => none
theorem c_rev {k : Nat} {p1 p2 p3 : Pos} (ha : DE X F a fa) : DE X F (.Subscript a (.Slice none none (some (.UnaryOp .USub (.Constant (.int 1) k p1) p2)) p3) pos) (unE gRev fa) := pe_imp (pe_revL ha) fun σ H Q ⟨G, ρ, φ, ts, r, ρ', I, hf, k⟩ => by
  obtain ⟨ra, x, h1, h2, h3⟩ := unE_some hf
  refine ⟨G, ρ, φ, ts, ra, ρ', I, h1, fun G1 H1 φ1 va fpa I1 => ?_⟩
  have hx := I1.view I1.head h2
  unfold gRev at h3
  split at h3
  · cases h3
    obtain ⟨p, us, rfl, h4, r1⟩ := hx.list I1.gh
    exact ⟨p, us, rfl, SqL.of h4, fun q hq => k _ _ _ _ _ (I1.drop.newL hq r1.reverse)⟩
  · cases h3
end
end Dn
namespace Dn
open PySem L2
/-! Part 5: what is walked, targets, comprehensions -/

section
variable {K : PySem.W.Frag} {F : Entry} {G G' H H' : Hp} {σ σ' : L2.St} {ρ ρ' : Env} {φ φ' : Nat → List Addr} {ts : List Hd} {t : Hd}
/-- other slots' values may have changed -/
theorem Fm.sig (I : Fm K F G H σ ρ φ ts) (hl : σ'.length = σ.length) (h : ∀ (j : Nat) s, ρ[j]? = some (some s) → σ'[j]? = σ[j]?) (ht : ∀ t ∈ ts, ∀ j, t.s = .bor j → σ'[j]? = σ[j]?) : Fm K F G H σ' ρ φ ts :=
  ⟨I.gh, I.g0, I.h0, I.m0, I.nw, by rw [hl]; exact I.len, fun i s e => by
    obtain ⟨v, h1, h2⟩ := I.sl i s e
    exact ⟨v, by rw [h i s e]; exact h1, h2.slots fun k _ e' => absurd (by rw [e, e'] : ρ[i]? = some (some (.bor k))) (I.nb i k)⟩, I.nb, I.ph, I.dj, fun t hm => (I.tm t hm).slots fun k _ e => ht t hm k e, I.tp, I.md, I.tt⟩
/-- the list on top of what is on the way takes one more item -/
theorem Fm.more {p : Addr} {xs : List V} {ds : List PyData} {v : V} {d : PyData} (I : Fm K F G H σ ρ φ (⟨.ref p, .ls ds, [p]⟩ :: ts)) (r : Sh K G v d) (h : H p = some (.lst xs)) : Fm K F G (upd H p (.lst (xs ++ [v]))) σ ρ φ (⟨.ref p, .ls (ds ++ [d]), [p]⟩ :: ts) := by
  have hr := I.head
  obtain ⟨a, ys, e1, e2, h3, h4⟩ := hr
  simp only [V.ref.injEq] at e1
  subst e1
  rw [h] at h3
  cases h3
  obtain ⟨g, h0, hs⟩ := I.tp _ List.mem_cons_self p List.mem_cons_self
  have htt := (List.pairwise_cons.mp I.tt).1
  have J := I.drop
  have own : ∀ i b, b ∈ φ i → b ≠ p := fun i b hb z => hs i (by rw [← z]; exact hb)
  have ownT : ∀ u ∈ ts, ∀ b ∈ u.fp, b ≠ p := fun u hu b hb z => htt u hu p List.mem_cons_self (by rw [← z]; exact hb)
  have J' : Fm K F G (upd H p (.lst (xs ++ [v]))) σ ρ φ ts := by
    refine ⟨fun b u e => ?_, J.g0, fun b u e hm => ?_, fun b hm => ?_, J.nw, J.len, fun i s e => ?_, J.nb, fun i b hb => ?_, J.dj, fun u hu => ?_, J.tp, J.md, J.tt⟩
    · rw [upd_ne (show b ≠ p from fun z => by rw [z, g] at e; cases e)]; exact J.gh b u e
    · rw [upd_ne (show b ≠ p from fun z => by rw [z, h0] at e; cases e)]; exact J.h0 b u e hm
    · by_cases z : b = p
      · rw [z, upd_same]; simp
      · rw [upd_ne z]; exact J.m0 b hm
    · obtain ⟨w, h1, h2⟩ := J.sl i s e
      exact ⟨w, h1, h2.mono (fun _ _ q => q) fun b hb => upd_ne (own i b hb)⟩
    · obtain ⟨q1, q2, q3⟩ := J.ph i b hb
      exact ⟨q1, by rw [upd_ne (own i b hb)]; exact q2, q3⟩
    · exact (J.tm u hu).mono (fun _ _ q => q) fun b hb => upd_ne (ownT u hu b hb)
  exact J'.push ⟨p, _, rfl, rfl, upd_same, h4.append (.cons r .nil)⟩ fun b hb => by
    rw [List.mem_singleton.mp hb]
    exact ⟨g, h0, hs, fun u hu => htt u hu p List.mem_cons_self⟩
theorem Fm.list (I : Fm K F G H σ ρ φ (t :: ts)) {p : Addr} {ds : List PyData} (e : t = ⟨.ref p, .ls ds, [p]⟩) : ∃ xs, H p = some (.lst xs) ∧ ShL K G xs ds := by
  subst e
  obtain ⟨a, xs, h1, h2, h3, h4⟩ := I.head
  simp only [V.ref.injEq] at h1
  subst h1
  exact ⟨xs, h3, h4⟩
/-- the second one on top is dropped -/
theorem Fm.drop2 {u : Hd} (I : Fm K F G H σ ρ φ (t :: u :: ts)) : Fm K F G H σ ρ φ (t :: ts) := by
  have h := List.pairwise_cons.mp I.tt
  have h2 := List.pairwise_cons.mp h.2
  exact I.drop.drop.push I.head fun a ha =>
    have q := I.tp t List.mem_cons_self a ha
    ⟨q.1, q.2.1, q.2.2, fun w hw => h.1 w (List.mem_cons_of_mem _ hw) a ha⟩
end

/-! ### what is walked -/
/-- the iterator J hands out the items ds, in any heap behind G -/
structure Walk (K : PySem.W.Frag) (G : Hp) (ds : List PyData) (J : It) : Prop where
  go : ∀ i H, Le G H → i < ds.length → J.go i H
  stop : ∀ i H, Le G H → ds.length ≤ i → J.stop i H
  yld : ∀ i H x H', Le G H → i < ds.length → J.yld i H x H' → ∃ d, ds[i]? = some d ∧ ((H' = H ∧ Sh K G x d) ∨ (∃ p xs es, x = .ref p ∧ H p = none ∧ H' = upd H p (.tup xs) ∧ d = .tuple es ∧ ShL K G xs es) ∨
    ∃ p q xs es n, x = .ref q ∧ H p = none ∧ H q = none ∧ q ≠ p ∧ H' = upd (upd H p (.tup xs)) q (.tup [.int n, .ref p]) ∧ d = .tuple [.int n, .tuple es] ∧ ShL K G xs es)
theorem Walk.take {K : PySem.W.Frag} {F : Entry} {G G1 H H' : Hp} {σ : L2.St} {ρ : Env} {φ : Nat → List Addr} {ts : List Hd} {ds : List PyData} {J : It} {i : Nat} {x : V} (W : Walk K G ds J) (I : Fm K F G1 H σ ρ φ ts) (l : Le G G1) (hi : i < ds.length) (y : J.yld i H x H') :
    ∃ d G2, ds[i]? = some d ∧ Le G1 G2 ∧ Fm K F G2 H' σ ρ φ ts ∧ Sh K G2 x d := by
  obtain ⟨d, h1, h2⟩ := W.yld i H x H' (fun a o q => I.gh a o (l a o q)) hi y
  rcases h2 with ⟨rfl, h2⟩ | ⟨p, xs, es, rfl, hp, rfl, rfl, h2⟩ | ⟨p, q, xs, es, n, rfl, hp, hq, hqp, rfl, rfl, h2⟩
  · exact ⟨d, G1, h1, fun _ _ q => q, I, h2.mono l⟩
  · have q := I.newT hp (h2.mono l)
    exact ⟨_, _, h1, upd_le (I.fresh hp).2.1, q.drop, q.head.2⟩
  · have J := I.newT hp (h2.mono l)
    have l1 := upd_le (o := .tup xs) (I.fresh hp).2.1
    have hq' : upd H p (.tup xs) q = none := by rw [upd_ne hqp]; exact hq
    have J2 := J.newT hq' (.cons (.int n) (.cons J.head.2 .nil))
    have l2 := upd_le (o := .tup [.int n, .ref p]) (J.fresh hq').2.1
    exact ⟨_, _, h1, fun a o z => l2 a o (l1 a o z), J2.drop2.drop, J2.head.2⟩

abbrev IE := Env → Option (List PyData × Env)
def tI (K : PySem.W.Frag) (F : Entry) (f : IE) : TI := fun σ H R => ∃ G ρ φ ts ds ρ', Fm K F G H σ ρ φ ts ∧ f ρ = some (ds, ρ') ∧ ∀ G' H' φ' J, Fm K F G' H' σ ρ' φ' ts → Walk K G' ds J → R J H'
abbrev DI (X : Cx) (F : Entry) (tg iter : Expr) (f : IE) : Prop := PI X tg iter (tI X.K F f)
theorem pi_imp {X : Cx} {tg iter : Expr} {t t' : TI} (h : PI X tg iter t) (k : ∀ σ H R, t' σ H R → t σ H R) : PI X tg iter t' := ⟨fun pins s σ H R I w => h.run pins s σ H R I (k σ H R w)⟩

section
variable {X : Cx} {F : Entry} {tg iter e e2 : Expr} {es : List Expr} {pos p : Pos} {f : EE} {ta : AE}
def seqI (f : EE) : IE := fun ρ => (f ρ).bind fun p => (froze p.2 p.1).bind fun q => match q.1 with | .list ds => some (ds, q.2) | _ => none
def tupI (f : EE) : IE := fun ρ => (f ρ).bind fun p => (froze p.2 p.1).bind fun q => match q.1 with | .tuple ds => some (ds, q.2) | _ => none
theorem walk_list {K : PySem.W.Frag} {G : Hp} {a : Addr} {xs : List V} {ds : List PyData} (h : G a = some (.lst xs)) (r : ShL K G xs ds) : Walk K G ds (Itl K a) where
  go := fun i H l hi => ⟨xs, xs[i]'(by rw [r.length]; exact hi), SqL.of (l a _ h), by simp [r.length, hi]⟩
  stop := fun i H l hi => ⟨xs, SqL.of (l a _ h), by rw [r.length]; exact hi⟩
  yld := fun i H x H' l _ y => by
    obtain ⟨e, y⟩ := y
    subst e
    obtain ⟨d, h1, h2⟩ := r.get (y xs (SqL.of (l a _ h)))
    exact ⟨d, h1, .inl ⟨rfl, h2⟩⟩
theorem walk_tup {K : PySem.W.Frag} {G : Hp} {a : Addr} {xs : List V} {ds : List PyData} (h : SqT K G a xs) (r : ShL K G xs ds) : Walk K G ds (Itt K a) where
  go := fun i H l hi => ⟨xs, xs[i]'(by rw [r.length]; exact hi), Le.sqT l h, by simp [r.length, hi]⟩
  stop := fun i H l hi => ⟨xs, Le.sqT l h, by rw [r.length]; exact hi⟩
  yld := fun i H x H' l _ y => by
    obtain ⟨e, y⟩ := y
    subst e
    obtain ⟨d, h1, h2⟩ := r.get (y xs (Le.sqT l h))
    exact ⟨d, h1, .inl ⟨rfl, h2⟩⟩
theorem i_list (h : DE X F e f) : DI X F tg e (seqI f) := pi_imp (pi_list h) fun σ H R ⟨G, ρ, φ, ts, ds, ρ', I, hf, k⟩ => by
  unfold seqI at hf
  obtain ⟨⟨r, ρ1⟩, h1, hf⟩ := Option.bind_eq_some_iff.mp hf
  obtain ⟨⟨d, ρ2⟩, h2, hf⟩ := Option.bind_eq_some_iff.mp hf
  simp only at h2 hf
  split at hf
  · cases hf
    refine ⟨G, ρ, φ, ts, r, ρ1, I, h1, fun G1 H1 φ1 v fp I1 => ?_⟩
    obtain ⟨G2, φ2, I2, l2⟩ := I1.froze h2
    cases I2.head.2 with
    | lst h3 r3 => exact ⟨_, rfl, ⟨_, SqL.of (I2.gh _ _ h3)⟩, k G2 H1 φ2 _ I2.drop (walk_list h3 r3)⟩
  · cases hf
theorem i_tup (h : DE X F e f) : DI X F tg e (tupI f) := pi_imp (pi_tup h) fun σ H R ⟨G, ρ, φ, ts, ds, ρ', I, hf, k⟩ => by
  unfold tupI at hf
  obtain ⟨⟨r, ρ1⟩, h1, hf⟩ := Option.bind_eq_some_iff.mp hf
  obtain ⟨⟨d, ρ2⟩, h2, hf⟩ := Option.bind_eq_some_iff.mp hf
  simp only at h2 hf
  split at hf
  · cases hf
    refine ⟨G, ρ, φ, ts, r, ρ1, I, h1, fun G1 H1 φ1 v fp I1 => ?_⟩
    obtain ⟨G2, φ2, I2, l2⟩ := I1.froze h2
    cases I2.head.2 with
    | tup h3 r3 => exact ⟨_, rfl, ⟨_, Le.sqT I2.gh h3⟩, k G2 H1 φ2 _ I2.drop (walk_tup h3 r3)⟩
  · cases hf
/-- lo, lo + 1, .., n of them -/
def rngD : Int → Nat → List PyData
  | _, 0 => []
  | lo, n + 1 => .int lo :: rngD (lo + 1) n
theorem rngD_length : ∀ (n : Nat) (lo : Int), (rngD lo n).length = n
  | 0, _ => rfl
  | n + 1, lo => by rw [rngD, List.length_cons, rngD_length n]
theorem rngD_get : ∀ (n : Nat) (lo : Int) (i : Nat), i < n → (rngD lo n)[i]? = some (.int (lo + i))
  | 0, _, _, h => absurd h (Nat.not_lt_zero _)
  | n + 1, lo, 0, _ => by simp [rngD]
  | n + 1, lo, i + 1, h => by
    rw [rngD, List.getElem?_cons_succ, rngD_get n (lo + 1) i (Nat.lt_of_succ_lt_succ h)]
    congr 2
    omega
theorem walk_rng {K : PySem.W.Frag} {G : Hp} {lo : Int} {n : Nat} : Walk K G (rngD lo n) (Itr lo n) where
  go := fun i H l hi => by rw [rngD_length] at hi; exact hi
  stop := fun i H l hi => by rw [rngD_length] at hi; exact hi
  yld := fun i H x H' l hi y => by
    rw [rngD_length] at hi
    obtain ⟨e1, e2⟩ := y
    exact ⟨_, rngD_get n lo i hi, .inl ⟨e1, by rw [e2]; exact .int _⟩⟩
/-- at most a million either way; written so that it is stuck at an open number -/
def okR : Int → Bool
  | .ofNat n => Nat.ble n 1000000
  | .negSucc n => Nat.ble n 999999
theorem okR_iff {j : Int} : okR j = true ↔ j ≤ 1000000 ∧ -1000000 ≤ j := by
  cases j with
  | ofNat n =>
    show Nat.ble n 1000000 = true ↔ _
    rw [Nat.ble_eq, show Int.ofNat n = (n : Int) from rfl]
    omega
  | negSucc n =>
    show Nat.ble n 999999 = true ↔ _
    rw [Nat.ble_eq, Int.negSucc_eq]
    omega
def rng1I (ta : AE) : IE := fun ρ => (ta ρ).bind fun p => (viewL p.2 p.1).bind fun ds => match ds with | [.int j] => if okR j = true then some (rngD 0 j.toNat, p.2) else none | _ => none
def rng2I (ta : AE) : IE := fun ρ => (ta ρ).bind fun p => (viewL p.2 p.1).bind fun ds => match ds with | [.int i, .int j] => if (okR j && okR i) = true then some (rngD i (j - i).toNat, p.2) else none | _ => none
theorem i_rng1 (hg : Gl X "range") (hm : X.mg "range" = none) (ha : DAs X F [e] ta) (hs : starEach [e] X.env = [(false, eval e X.env)] := by rfl) : DI X F tg (.Call (.Name "range" p) [e] [] pos) (rng1I ta) := pi_imp (pi_range1 hg hm ha hs) fun σ H R ⟨G, ρ, φ, ts, ds, ρ', I, hf, k⟩ => by
  unfold rng1I at hf
  obtain ⟨⟨rs, ρ1⟩, h1, hf⟩ := Option.bind_eq_some_iff.mp hf
  obtain ⟨d, h2, hf⟩ := Option.bind_eq_some_iff.mp hf
  simp only at h2 hf
  split at hf
  · split at hf
    · rename_i hz
      have hz := okR_iff.mp hz
      cases hf
      refine ⟨G, ρ, φ, ts, rs, _, I, h1, fun G1 H1 φ1 hs e1 I1 => ?_⟩
      subst e1
      obtain ⟨v, e2, h3⟩ := shwl1 (I1.viewL (fun h hm => List.mem_append_left _ (List.mem_reverse.mpr hm)) h2)
      exact ⟨_, by rw [e2, h3.int], by omega, by omega, k G1 H1 φ1 _ I1.dropN walk_rng⟩
    · cases hf
  · cases hf
theorem i_rng2 (hg : Gl X "range") (hm : X.mg "range" = none) (ha : DAs X F [e, e2] ta) (hs : starEach [e, e2] X.env = [(false, eval e X.env), (false, eval e2 X.env)] := by rfl) (hs2 : starEach [e2] X.env = [(false, eval e2 X.env)] := by rfl) :
    DI X F tg (.Call (.Name "range" p) [e, e2] [] pos) (rng2I ta) := pi_imp (pi_range2 hg hm ha hs hs2) fun σ H R ⟨G, ρ, φ, ts, ds, ρ', I, hf, k⟩ => by
  unfold rng2I at hf
  obtain ⟨⟨rs, ρ1⟩, h1, hf⟩ := Option.bind_eq_some_iff.mp hf
  obtain ⟨d, h2, hf⟩ := Option.bind_eq_some_iff.mp hf
  simp only at h2 hf
  split at hf
  · split at hf
    · rename_i hz
      rw [Bool.and_eq_true, okR_iff, okR_iff] at hz
      cases hf
      refine ⟨G, ρ, φ, ts, rs, _, I, h1, fun G1 H1 φ1 hs e1 I1 => ?_⟩
      subst e1
      obtain ⟨v, w, e2, h3, h4⟩ := shwl2 (I1.viewL (fun h hm => List.mem_append_left _ (List.mem_reverse.mpr hm)) h2)
      exact ⟨_, _, by rw [e2, h3.int, h4.int], ⟨by omega, by omega, by omega, by omega⟩, k G1 H1 φ1 _ I1.dropN walk_rng⟩
    · cases hf
  · cases hf
end

/-! ### targets -/
abbrev GE := PyData → Env → Option Env
/-- the slots that a target stores into are vs -/
def tG (K : PySem.W.Frag) (F : Entry) (vs : List Nat) (f : GE) : TG := fun v σ H Q => ∃ G ρ φ ts d ρ', Fm K F G H σ ρ φ ts ∧ Sh K G v d ∧ f d ρ = some ρ' ∧ (∀ t ∈ ts, ∀ i ∈ vs, t.s ≠ .bor i) ∧
  ∀ G' H' φ' (σ' : L2.St), Fm K F G' H' σ' ρ' φ' ts → σ'.length = σ.length → (∀ j, j ∉ vs → σ'[j]? = σ[j]?) → Q σ' H'
abbrev DG (X : Cx) (F : Entry) (tg : Expr) (vs : List Nat) (f : GE) : Prop := PG X tg (tG X.K F vs f)
theorem pg_imp {X : Cx} {tg : Expr} {t t' : TG} (h : PG X tg t) (k : ∀ v σ H Q, t' v σ H Q → t v σ H Q) : PG X tg t' := ⟨fun pins s σ H v u Q I r w => h.run pins s σ H v u Q I r (k v σ H Q w)⟩
theorem pgs_imp {X : Cx} {es : List Expr} {t t' : TGs} (h : PGs X es t) (k : ∀ v σ H Q, t' v σ H Q → t v σ H Q) : PGs X es t' := ⟨fun pins s σ H v u Q I r w => h.run pins s σ H v u Q I r (k v σ H Q w)⟩
def setE (i : Nat) (s : S) (ρ : Env) : Option Env := if (i == 0 && deckAt ρ 0) = true then none else if i < ρ.length then some (ρ.set i (some s)) else none
def nameG (i : Nat) : GE := fun d ρ => setE i (.sh d) ρ
section
variable {X : Cx} {F : Entry} {tg iter e e2 : Expr} {es : List Expr} {pos p : Pos} {f : EE} {ta : AE}
theorem setE_some {i : Nat} {s : S} {ρ ρ' : Env} (h : setE i s ρ = some ρ') : (i == 0 && deckAt ρ 0) = false ∧ i < ρ.length ∧ ρ' = ρ.set i (some s) := by
  unfold setE at h
  split at h
  · cases h
  · split at h
    · cases h; exact ⟨by simpa using ‹¬ (i == 0 && deckAt ρ 0) = true›, ‹_›, rfl⟩
    · cases h
theorem g_name {i : Nat} {x : Str} (h : PG X (.Name x pos) (gName i)) : DG X F (.Name x pos) [i] (nameG i) := pg_imp h fun v σ H Q ⟨G, ρ, φ, ts, d, ρ', I, r, hf, hb, k⟩ => by
  obtain ⟨h1, h2, rfl⟩ := setE_some hf
  exact k G H _ _ ((I.pushD r).set h2 h1 (fun _ => nofun) fun t ht => hb t ht i List.mem_cons_self) List.length_set fun j hj => List.getElem?_set_ne fun z => hj (by rw [z]; exact List.mem_cons_self)
abbrev GsE := List PyData → Env → Option Env
def tGs (K : PySem.W.Frag) (F : Entry) (vs : List Nat) (f : GsE) : TGs := fun us σ H Q => ∃ G ρ φ ts ds ρ', Fm K F G H σ ρ φ ts ∧ ShL K G us ds ∧ f ds ρ = some ρ' ∧ (∀ t ∈ ts, ∀ i ∈ vs, t.s ≠ .bor i) ∧
  ∀ G' H' φ' (σ' : L2.St), Fm K F G' H' σ' ρ' φ' ts → σ'.length = σ.length → (∀ j, j ∉ vs → σ'[j]? = σ[j]?) → Q σ' H'
abbrev DGs (X : Cx) (F : Entry) (es : List Expr) (vs : List Nat) (f : GsE) : Prop := PGs X es (tGs X.K F vs f)
def nilG : GsE := fun ds ρ => match ds with | [] => some ρ | _ => none
/-- names alone are stored into here, so what is shared stays so -/
def consG (i : Nat) (g : GsE) : GsE := fun ds ρ => match ds with | d :: ds => (setE i (.sh d) ρ).bind fun ρ' => g ds ρ' | _ => none
theorem g_nil : DGs X F [] [] nilG := pgs_imp pgs_nil fun us σ H Q ⟨G, ρ, φ, ts, ds, ρ', I, r, hf, hb, k⟩ => by
  cases r with
  | nil => cases hf; exact ⟨rfl, k G H φ σ I rfl fun _ _ => rfl⟩
  | cons _ _ => cases hf
theorem g_cons {i : Nat} {x : Str} {vs : List Nat} {g : GsE} (h : PG X (.Name x pos) (gName i)) (hr : DGs X F es vs g) (hs : (assignEach (.Name x pos :: es) X.env).map (·.2) = assign (.Name x pos) X.env :: (assignEach es X.env).map (·.2) := by rfl) :
    DGs X F (.Name x pos :: es) (i :: vs) (consG i g) := pgs_imp (pgs_cons h hr hs) fun us σ H Q ⟨G, ρ, φ, ts, ds, ρ', I, r, hf, hb, k⟩ => by
  cases r with
  | nil => cases hf
  | cons r rr =>
    obtain ⟨ρ1, h1, h2⟩ := Option.bind_eq_some_iff.mp hf
    obtain ⟨h3, h4, rfl⟩ := setE_some h1
    refine ⟨_, _, rfl, ?_⟩
    refine ⟨G, _, _, ts, _, ρ', (I.pushD r).set h4 h3 (fun _ => nofun) (fun t ht => hb t ht i List.mem_cons_self), rr, h2, fun t ht j hj => hb t ht j (List.mem_cons_of_mem _ hj), fun G' H' φ' σ' I' hl hσ => k G' H' φ' σ' I' (hl.trans List.length_set) fun j hj => ?_⟩
    rw [hσ j fun z => hj (List.mem_cons_of_mem _ z)]
    exact List.getElem?_set_ne fun z => hj (by rw [z]; exact List.mem_cons_self)
def tupG (g : GsE) : GE := fun d ρ => match d with | .tuple ds => g ds ρ | _ => none
theorem g_tup {k : Nat} {n : Nat} {vs : List Nat} {g : GsE} (C : X.calm = true) (h : DGs X F es vs g) (hl : ∀ ds ρ ρ', g ds ρ = some ρ' → ds.length = n) (hn : (assignEach es X.env).length = n := by rfl) (hst : (assignEach es X.env).findIdx? (·.1) = none := by rfl) :
    DG X F (.Tuple es k pos) vs (tupG g) := pg_imp (pg_tup C h hn hst) fun v σ H Q ⟨G, ρ, φ, ts, d, ρ', I, r, hf, hb, k⟩ => by
  unfold tupG at hf
  split at hf
  · cases r with
    | tup h1 r1 =>
      exact ⟨_, _, rfl, Le.sqT I.gh h1, by rw [r1.length]; exact hl _ _ _ hf, G, ρ, φ, ts, _, ρ', I, r1, hf, hb, k⟩
  · cases hf
theorem nilG_len : ∀ ds ρ ρ', nilG ds ρ = some ρ' → ds.length = 0 := by
  intro ds ρ ρ' h
  cases ds with
  | nil => rfl
  | cons _ _ => cases h
theorem consG_len {i n : Nat} {g : GsE} (h : ∀ ds ρ ρ', g ds ρ = some ρ' → ds.length = n) : ∀ ds ρ ρ', consG i g ds ρ = some ρ' → ds.length = n + 1 := by
  intro ds ρ ρ' e
  cases ds with
  | nil => cases e
  | cons d ds =>
    obtain ⟨ρ1, _, h2⟩ := Option.bind_eq_some_iff.mp e
    rw [List.length_cons, h _ _ _ h2]
end

/-! ### list comprehensions -/
def wipeE (ρ : Env) : List Nat → Env
  | [] => ρ
  | v :: vs => (wipeE ρ vs).set v none
def deadE (ρ : Env) (vs : List Nat) : Bool := vs.all fun v => match ρ[v]? with | some none => v != 0 | _ => false
def lcGo (vs : List Nat) (tg : GE) (tt : BE) (el : EE) : List PyData → Env → Option (List PyData × Env)
  | [], ρ => some ([], ρ)
  | d :: ds, ρ => (tg d ρ).bind fun ρ1 => (tt ρ1).bind fun p => if p.1 = true then (el p.2).bind fun q => (froze q.2 q.1).bind fun r => (lcGo vs tg tt el ds (wipeE r.2 vs)).map fun u => (r.1 :: u.1, u.2)
      else lcGo vs tg tt el ds (wipeE p.2 vs)
def lcE (vs : List Nat) (it : IE) (tg : GE) (tt : BE) (el : EE) : EE := fun ρ => (it ρ).bind fun p => if deadE p.2 vs = true ∧ p.1.length ≤ 1000000 then (lcGo vs tg tt el p.1 p.2).map fun q => (.ls q.1, q.2) else none
section
variable {K : PySem.W.Frag} {F : Entry} {G G' H H' : Hp} {σ σ' : L2.St} {ρ ρ' : Env} {φ φ' : Nat → List Addr} {ts : List Hd} {t : Hd}
theorem wipeE_length (ρ : Env) : ∀ vs : List Nat, (wipeE ρ vs).length = ρ.length
  | [] => rfl
  | v :: vs => by rw [wipeE, List.length_set, wipeE_length ρ vs]
theorem wipeE_some {i : Nat} {s : S} : ∀ {vs : List Nat}, (wipeE ρ vs)[i]? = some (some s) → ρ[i]? = some (some s) ∧ i ∉ vs
  | [], h => ⟨h, by simp⟩
  | v :: vs, h => by
    rw [wipeE] at h
    by_cases z : v = i
    · subst z
      have hl := (List.getElem?_eq_some_iff.mp h).1
      rw [List.length_set] at hl
      rw [List.getElem?_set_self hl] at h
      cases h
    · rw [List.getElem?_set_ne z] at h
      obtain ⟨h1, h2⟩ := wipeE_some h
      exact ⟨h1, by simp only [List.mem_cons, not_or]; exact ⟨fun e => z e.symm, h2⟩⟩
theorem wipe_out {i : Nat} {vs : List Nat} (h : i ∉ vs) : (wipe σ vs)[i]? = σ[i]? := by
  induction vs with
  | nil => rfl
  | cons v vs ih =>
    rw [wipe, List.getElem?_set_ne (fun z => h (by rw [z]; exact List.mem_cons_self))]
    exact ih fun hm => h (List.mem_cons_of_mem _ hm)
theorem wipe_in {i : Nat} : ∀ {vs : List Nat}, i ∈ vs → i < σ.length → (wipe σ vs)[i]? = some none
  | v :: vs, h, hl => by
    rw [wipe]
    by_cases z : v = i
    · subst z
      exact List.getElem?_set_self (by rw [wipe_length]; exact hl)
    · rw [List.getElem?_set_ne z]
      exact wipe_in ((List.mem_cons.mp h).resolve_left (Ne.symm z)) hl
theorem wipe_eq {vs : List Nat} (hl : σ'.length = σ.length) (h : ∀ j, j ∉ vs → σ'[j]? = σ[j]?) : wipe σ' vs = wipe σ vs := by
  refine List.ext_getElem? fun j => ?_
  by_cases hj : j ∈ vs
  · by_cases hlt : j < σ.length
    · rw [wipe_in hj hlt, wipe_in hj (by rw [hl]; exact hlt)]
    · rw [List.getElem?_eq_none (by rw [wipe_length]; omega), List.getElem?_eq_none (by rw [wipe_length]; omega)]
  · rw [wipe_out hj, wipe_out hj, h j hj]
theorem dead_spec {vs : List Nat} (h : deadE ρ vs = true) : ∀ v ∈ vs, ρ[v]? = some none ∧ v ≠ 0 := fun v hv => by
  have q := List.all_eq_true.mp h v hv
  split at q
  · exact ⟨‹_›, by simpa using q⟩
  · cases q
/-- the frame while a comprehension's block runs -/
theorem Fm.inBlock {vs : List Nat} (I : Fm K F G H σ ρ φ ts) (h : ∀ v ∈ vs, v ∈ F.cs) (hd : ∀ v ∈ vs, ∀ s, ρ[v]? ≠ some (some s)) : Fm K F G H (wipe σ vs) ρ φ ts :=
  I.sig (wipe_length σ vs) (fun j s e => wipe_out fun hj => hd j hj s e) fun t ht j e => wipe_out fun hj => by
    have r := I.tm t ht
    rw [e] at r
    exact r.2.1 (h j hj)
theorem Fm.outBlock {vs : List Nat} (I : Fm K F G H (wipe σ vs) ρ φ ts) (h : ∀ v ∈ vs, v ∈ F.cs) (hd : ∀ v ∈ vs, ∀ s, ρ[v]? ≠ some (some s)) : Fm K F G H σ ρ φ ts :=
  I.sig (wipe_length σ vs).symm (fun j s e => (wipe_out fun hj => hd j hj s e).symm) fun t ht j e => (wipe_out fun hj => by
    have r := I.tm t ht
    rw [e] at r
    exact r.2.1 (h j hj)).symm
theorem Fm.wipeN : ∀ {vs : List Nat}, (∀ v ∈ vs, v ≠ 0) → (∀ v ∈ vs, ∀ t ∈ ts, t.s ≠ .bor v) → Fm K F G H σ ρ φ ts → ∃ φ', Fm K F G H (wipe σ vs) (wipeE ρ vs) φ' ts
  | [], _, _, I => ⟨φ, I⟩
  | v :: vs, h0, hb, I => by
    obtain ⟨φ', I'⟩ := Fm.wipeN (vs := vs) (fun u hu => h0 u (List.mem_cons_of_mem _ hu)) (fun u hu => hb u (List.mem_cons_of_mem _ hu)) I
    refine ⟨_, I'.wipeAt v ?_ (fun j hj => ?_) ?_ fun t ht => hb v List.mem_cons_self t ht⟩
    · have : (v == 0) = false := by simpa using h0 v List.mem_cons_self
      rw [this]; rfl
    · show ((wipe σ vs).set v none)[j]? = _
      exact List.getElem?_set_ne (Ne.symm hj)
    · show ((wipe σ vs).set v none).length = _
      exact List.length_set
end
section
variable {X : Cx} {F : Entry} {tg iter elt : Expr} {ifs : List Expr} {scope : Scope} {own : List (Str × Nat)} {pos spos : Pos} {it : IE} {g : GE} {tt : BE} {el : EE}
abbrev Blk (X : Cx) (scope : Scope) (s : Shared) (H : Hp) (C : Addr) (cl : List (Str × Addr)) (fp : List Addr) : Cx := X.blk s H scope (compEnvC scope cl C X.env) fp
abbrev DTs (X : Cx) (F : Entry) (ifs : List Expr) (f : BE) : Prop := PTs X ifs (tB X.K F f)
def yesB : BE := fun ρ => some (true, ρ)
theorem t_nil : DTs X F [] yesB := ⟨fun pins s σ H Q I ⟨G, ρ, φ, ts, b, ρ', J, hf, k⟩ => by
  cases hf
  exact pts_nil.run pins s σ H Q I (k G H φ J)⟩
theorem t_one {c : Expr} {t : BE} (h : DB X F c t) : DTs X F [c] t := pts_one h
theorem lcGo_len {vs : List Nat} {tg : GE} {tt : BE} {el : EE} : ∀ {ds : List PyData} {ρ ρ' : Env} {ys : List PyData}, lcGo vs tg tt el ds ρ = some (ys, ρ') → ys.length ≤ ds.length
  | [], _, _, _, h => by cases h; exact Nat.le_refl _
  | d :: ds, ρ, ρ', ys, h => by
    rw [lcGo] at h
    obtain ⟨ρ1, h1, h⟩ := Option.bind_eq_some_iff.mp h
    obtain ⟨⟨b, ρ2⟩, h2, h⟩ := Option.bind_eq_some_iff.mp h
    simp only at h
    split at h
    · obtain ⟨⟨r, ρ3⟩, h3, h⟩ := Option.bind_eq_some_iff.mp h
      obtain ⟨⟨y, ρ4⟩, h4, h⟩ := Option.bind_eq_some_iff.mp h
      obtain ⟨⟨us, ρ5⟩, h5, h⟩ := Option.map_eq_some_iff.mp h
      cases h
      exact Nat.succ_le_succ (lcGo_len h5)
    · exact Nat.le_succ_of_le (lcGo_len h)
theorem lc_run (hvs : ∀ p ∈ own, p.2 ∈ F.cs) : ∀ σ H Q, tE X.K F (lcE (own.map (·.2)) it g tt el) σ H Q →
    tLc (tI X.K F it) (tG X.K F (own.map (·.2)) g) (tB X.K F tt) (tE X.K F el) (own.map (·.2)) σ H Q := fun σ H Q ⟨G, ρ, φ, ts, r, ρ', I, hf, k⟩ => by
  have hcs : ∀ v ∈ own.map (·.2), v ∈ F.cs := fun v hv => by
    obtain ⟨q, hq, e⟩ := List.mem_map.mp hv
    rw [← e]; exact hvs q hq
  generalize own.map (·.2) = vs at *
  unfold lcE at hf
  obtain ⟨⟨ds, ρ1⟩, h1, hf⟩ := Option.bind_eq_some_iff.mp hf
  simp only at hf
  split at hf
  · rename_i hz
    obtain ⟨⟨ys, ρ2⟩, h2, hf⟩ := Option.map_eq_some_iff.mp hf
    cases hf
    obtain ⟨hdead, hlen⟩ := hz
    have dead := dead_spec hdead
    refine ⟨G, ρ, φ, ts, ds, ρ1, I, h1, fun G1 H1 φ1 J I1 W D hD => ?_⟩
    have nob : ∀ t ∈ (⟨.non, .mk G1, []⟩ :: ts : List Hd), ∀ i ∈ vs, t.s ≠ .bor i := fun t ht i hi e => by
      rcases List.mem_cons.mp ht with z | z
      · rw [z] at e; cases e
      · have r := I.tm t z
        rw [e] at r
        exact r.2.1 (hcs i hi)
    have live1 : ∀ v ∈ vs, ∀ s, ρ1[v]? ≠ some (some s) := fun v hv s e => by rw [(dead v hv).1] at e; cases e
    have I2 := (I1.inBlock hcs live1).mark.newL hD .nil
    have lenY := lcGo_len h2
    have big : (1000000 : Nat) < sizeLine := by decide
    refine ⟨fun i m H => m = ds.length - i ∧ i ≤ ds.length ∧ ∃ G2 ρ3 φ3 acc rest, Fm X.K F G2 H (wipe σ vs) ρ3 φ3 (⟨.ref D, .ls acc, [D]⟩ :: ⟨.non, .mk G1, []⟩ :: ts) ∧ (∀ v ∈ vs, ∀ s, ρ3[v]? ≠ some (some s)) ∧ acc ++ rest = ys ∧ lcGo vs g tt el (ds.drop i) ρ3 = some (rest, ρ2), ⟨_, rfl, Nat.zero_le _, G1, ρ1, φ1, [], ys, I2, live1, rfl, h2⟩, ?_⟩
    rintro i m H2 ⟨rfl, hi, G2, ρ3, φ3, acc, rest, I3, hd3, hacc, hgo⟩
    have l2 : Le G1 G2 := I3.marked (List.mem_cons_of_mem _ List.mem_cons_self)
    have hle : Le G1 H2 := fun a o q => I3.gh a o (l2 a o q)
    by_cases hlt : i < ds.length
    · right
      refine ⟨W.go i H2 hle hlt, fun H' => i + 1 ≤ ds.length ∧ ∃ G2 ρ3 φ3 acc rest, Fm X.K F G2 H' (wipe σ vs) ρ3 φ3 (⟨.ref D, .ls acc, [D]⟩ :: ⟨.non, .mk G1, []⟩ :: ts) ∧ (∀ v ∈ vs, ∀ s, ρ3[v]? ≠ some (some s)) ∧ acc ++ rest = ys ∧ lcGo vs g tt el (ds.drop (i + 1)) ρ3 = some (rest, ρ2),
        fun H' hN => ⟨ds.length - (i + 1), by omega, rfl, hN⟩, fun x H' hy => ?_⟩
      obtain ⟨d, G3, hd, l3, I4, rx⟩ := W.take I3 l2 hlt hy
      have edrop : ds.drop i = d :: ds.drop (i + 1) := by
        obtain ⟨h5, h6⟩ := List.getElem?_eq_some_iff.mp hd
        rw [List.drop_eq_getElem_cons h5, h6]
      rw [edrop, lcGo] at hgo
      obtain ⟨ρ4, g1, hgo⟩ := Option.bind_eq_some_iff.mp hgo
      obtain ⟨⟨b, ρ5⟩, g2, hgo⟩ := Option.bind_eq_some_iff.mp hgo
      simp only at hgo
      have nobD : ∀ t ∈ (⟨.ref D, .ls acc, [D]⟩ :: ⟨.non, .mk G1, []⟩ :: ts : List Hd), ∀ i ∈ vs, t.s ≠ .bor i := fun t ht j hj e => by
        rcases List.mem_cons.mp ht with z | z
        · rw [z] at e; cases e
        · exact nob t z j hj e
      refine ⟨G3, ρ3, φ3, _, d, ρ4, I4, rx, g1, nobD, fun G4 H4 φ4 σ4 I5 hl4 hσ => ?_⟩
      have wsame : wipe σ4 vs = wipe σ vs := (wipe_eq hl4 hσ).trans (wipe_eq (wipe_length _ _) fun j hj => wipe_out hj)
      have zero : ∀ v ∈ vs, v ≠ 0 := fun v hv => (dead v hv).2
      have nobD' : ∀ v ∈ vs, ∀ t ∈ (⟨.ref D, .ls acc, [D]⟩ :: ⟨.non, .mk G1, []⟩ :: ts : List Hd), t.s ≠ .bor v := fun v hv t ht => nobD t ht v hv
      refine ⟨wsame, G4, ρ4, φ4, _, b, ρ5, I5, g2, fun G5 H5 φ5 I6 => ?_⟩
      cases b with
      | true =>
        rw [if_pos rfl] at hgo
        obtain ⟨⟨r, ρ6⟩, g3, hgo⟩ := Option.bind_eq_some_iff.mp hgo
        obtain ⟨⟨y, ρ7⟩, g4, hgo⟩ := Option.bind_eq_some_iff.mp hgo
        obtain ⟨⟨us, ρ8⟩, g5, hgo⟩ := Option.map_eq_some_iff.mp hgo
        simp only at g4 g5
        have e1 : y :: us = rest := (Prod.mk.inj hgo).1
        have e2 : ρ8 = ρ2 := (Prod.mk.inj hgo).2
        subst e1 e2
        refine iteT ⟨G5, ρ5, φ5, _, r, ρ6, I6, g3, fun G6 H6 φ6 v fp I7 => ?_⟩
        obtain ⟨G7, φ7, I8, l7⟩ := I7.froze g4
        have ry : Sh X.K G7 v y := I8.head.2
        have I9 := I8.drop
        obtain ⟨av, hav, rav⟩ := I9.list rfl
        have I10 := I9.more ry hav
        obtain ⟨φ8, I11⟩ := Fm.wipeN (vs := vs) zero (fun v hv t ht => by
          rcases List.mem_cons.mp ht with z | z
          · rw [z]; exact nofun
          · exact fun e => nob t z v hv e) I10
        rw [wsame] at I11
        refine ⟨av, hav, ?_, hlt, G7, _, φ8, acc ++ [y], us, I11, fun v hv s e => (wipeE_some e).2 hv, by rw [List.append_assoc]; exact hacc, g5⟩
        have e1 : acc.length + (us.length + 1) = ys.length := by rw [← hacc, List.length_append, List.length_cons]
        have e2 := rav.length
        omega
      | false =>
        rw [if_neg Bool.false_ne_true] at hgo
        obtain ⟨φ8, I7⟩ := Fm.wipeN (vs := vs) zero nobD' I6
        rw [wsame] at I7
        exact iteF ⟨hlt, G5, _, φ8, acc, rest, I7, fun v hv s e => (wipeE_some e).2 hv, hacc, hgo⟩
    · have ei : i = ds.length := by omega
      subst ei
      rw [List.drop_length] at hgo
      cases hgo
      rw [List.append_nil] at hacc
      subst hacc
      exact .inl ⟨W.stop _ H2 hle (Nat.le_refl _), k _ _ _ _ _ (I3.drop2.outBlock hcs hd3)⟩
  · cases hf
end
end Dn
namespace Dn
open PySem L2
/-! Part 6: statements -/

inductive Out where
  | nx (ρ : Env)
  | rt (s : S) (ρ : Env)
  | bk (ρ : Env)
  | ct (ρ : Env)
abbrev SE := Env → Option Out

def After (K : PySem.W.Frag) (F : Entry) (ts : List Hd) (D : Ends) : Out → Prop
  | .nx ρ' => ∀ G' H' φ' σ', Fm K F G' H' σ' ρ' φ' ts → D.nx σ' H'
  | .rt s ρ' => ∀ G' H' φ' σ' v fp, Fm K F G' H' σ' ρ' φ' (⟨v, s, fp⟩ :: ts) → D.rt v H'
  | .bk ρ' => ∀ G' H' φ' σ', Fm K F G' H' σ' ρ' φ' ts → D.bk σ' H'
  | .ct ρ' => ∀ G' H' φ' σ', Fm K F G' H' σ' ρ' φ' ts → D.ct σ' H'
def NoBor (ts : List Hd) : Prop := ∀ t ∈ ts, ∀ i, t.s ≠ .bor i
def tS (K : PySem.W.Frag) (F : Entry) (f : SE) : TS := fun D σ H => ∃ G ρ φ ts o, Fm K F G H σ ρ φ ts ∧ NoBor ts ∧ f ρ = some o ∧ After K F ts D o
abbrev DS (X : Cx) (F : Entry) (st : Stmt) (f : SE) : Prop := PS X st (tS X.K F f)
abbrev DSs (X : Cx) (F : Entry) (st : List Stmt) (f : SE) : Prop := PSs X st (tS X.K F f)

section
variable {X : Cx} {F : Entry} {a b c e : Expr} {es : List Expr} {pos p : Pos} {st : Stmt} {rest body orelse : List Stmt} {f g : EE} {t : BE} {ta : AE} {sf sg : SE}
theorem ps_imp {t t' : TS} (h : PS X st t) (k : ∀ D σ H, t' D σ H → t D σ H) : PS X st t' := ⟨fun pins s σ H D I w => h.run pins s σ H D I (k D σ H w)⟩
theorem pss_imp {t t' : TS} (h : PSs X rest t) (k : ∀ D σ H, t' D σ H → t D σ H) : PSs X rest t' := ⟨fun pins s σ H D I w => h.run pins s σ H D I (k D σ H w)⟩

def nxS : SE := fun ρ => some (.nx ρ)
theorem s_nil : DSs X F [] nxS := pss_imp pss_nil fun D σ H ⟨G, ρ, φ, ts, o, I, nb, hf, k⟩ => by
  cases hf
  exact k G H φ σ I
theorem s_pass : DS X F (.Pass pos) nxS := ps_imp ps_pass fun D σ H ⟨G, ρ, φ, ts, o, I, nb, hf, k⟩ => by
  cases hf
  exact k G H φ σ I
def bkS : SE := fun ρ => some (.bk ρ)
def ctS : SE := fun ρ => some (.ct ρ)
theorem s_break : DS X F (.Break pos) bkS := ps_imp ps_break fun D σ H ⟨G, ρ, φ, ts, o, I, nb, hf, k⟩ => by
  cases hf
  exact k G H φ σ I
theorem s_continue : DS X F (.Continue pos) ctS := ps_imp ps_continue fun D σ H ⟨G, ρ, φ, ts, o, I, nb, hf, k⟩ => by
  cases hf
  exact k G H φ σ I
def neverS : SE := fun _ => none
theorem s_never : DS X F st neverS := ⟨fun _ _ _ _ _ _ h => by obtain ⟨_, _, _, _, _, _, _, hf, _⟩ := h; cases hf⟩
theorem ss_never : DSs X F rest neverS := ⟨fun _ _ _ _ _ _ h => by obtain ⟨_, _, _, _, _, _, _, hf, _⟩ := h; cases hf⟩
def seqS (f g : SE) : SE := fun ρ => (f ρ).bind fun o => match o with | .nx ρ' => g ρ' | o => some o
theorem s_cons (h : DS X F st sf) (hr : DSs X F rest sg) : DSs X F (st :: rest) (seqS sf sg) := pss_imp (pss_cons h hr) fun D σ H ⟨G, ρ, φ, ts, o, I, nb, hf, k⟩ => by
  unfold seqS at hf
  obtain ⟨o1, h1, hf⟩ := Option.bind_eq_some_iff.mp hf
  refine ⟨G, ρ, φ, ts, o1, I, nb, h1, ?_⟩
  cases o1 with
  | nx ρ1 => exact fun G' H' φ' σ' I' => ⟨G', ρ1, φ', ts, o, I', nb, hf, k⟩
  | rt s ρ1 => cases hf; exact k
  | bk ρ1 => cases hf; exact k
  | ct ρ1 => cases hf; exact k
theorem s_one (h : DS X F st sf) : DSs X F [st] sf := pss_one h

/-! ### return, an expression alone -/
theorem Fm.takeSlot {K : PySem.W.Frag} {G H : Hp} {σ : L2.St} {ρ : Env} {φ : Nat → List Addr} {ts : List Hd} {v : V} {s : S} {fp : List Addr} {i : Nat} (I : Fm K F G H σ ρ φ (⟨v, .bor i, fp⟩ :: ts)) (e : ρ[i]? = some (some s)) (hs : isDeck s = false) (nb : NoBor ts) :
    ∃ φ', Fm K F G H σ (ρ.set i none) φ' (⟨v, s, φ i⟩ :: ts) := by
  have r := I.slot I.head e
  have J := I.drop
  have nd : deckAt ρ i = false := by unfold deckAt; rw [e]; exact hs
  have nd0 : (i == 0 && deckAt ρ 0) = false := by
    by_cases z : i = 0
    · subst z; rw [nd, Bool.and_false]
    · have : (i == 0) = false := by simpa using z
      rw [this]; rfl
  have J2 := J.wipeAt (σ' := σ) i nd0 (fun _ _ => rfl) rfl fun t ht => nb t ht i
  refine ⟨_, J2.push r fun a ha => ?_⟩
  obtain ⟨q1, q2, q3⟩ := J.ph i a ha
  refine ⟨q1, ?_, fun j hj => ?_, fun t ht hm => ?_⟩
  · rcases q3 with z | ⟨_, z⟩
    · exact z
    · rw [nd] at z; cases z
  · by_cases z : j = i
    · simp only [z, if_pos rfl] at hj; cases hj
    · simp only [if_neg z] at hj
      exact z (J.dj j i a hj ha)
  · exact (J.tp t ht a hm).2.2 i ha
def retE (r : S) (ρ : Env) : Option Out := match r with
  | .bor i => match ρ[i]? with
    | some (some (.sh d)) => some (.rt (.sh d) ρ)
    | some (some (.ls xs)) => some (.rt (.ls xs) (ρ.set i none))
    | some (some (.dk xs)) => some (.rt (.dk xs) (ρ.set i none))
    | some (some (.dt xs)) => some (.rt (.dt xs) (ρ.set i none))
    | _ => none
  | .sh d => some (.rt (.sh d) ρ)
  | .ls xs => some (.rt (.ls xs) ρ)
  | .dk xs => some (.rt (.dk xs) ρ)
  | .dt xs => some (.rt (.dt xs) ρ)
  | .deck st => some (.rt (.deck st) ρ)
  | _ => none
def retS (f : EE) : SE := fun ρ => (f ρ).bind fun p => retE p.1 p.2
theorem s_ret (h : DE X F e f) : DS X F (.Return (some e) pos) (retS f) := ps_imp (ps_ret h) fun D σ H ⟨G, ρ, φ, ts, o, I, nb, hf, k⟩ => by
  unfold retS at hf
  obtain ⟨⟨r, ρ1⟩, h1, hf⟩ := Option.bind_eq_some_iff.mp hf
  simp only at hf
  refine ⟨G, ρ, φ, ts, r, ρ1, I, h1, fun G1 H1 φ1 v fp I1 => ?_⟩
  unfold retE at hf
  split at hf
  · split at hf
    · cases hf
      have q : RelS X.K F.cs σ G1 H1 v (.sh _) _ := I1.slot I1.head ‹_›
      exact k _ _ _ _ _ [] (I1.drop.pushD q.2)
    · cases hf
      obtain ⟨φ2, I2⟩ := I1.takeSlot ‹_› rfl nb
      exact k _ _ _ _ _ _ I2
    · cases hf
      obtain ⟨φ2, I2⟩ := I1.takeSlot ‹_› rfl nb
      exact k _ _ _ _ _ _ I2
    · cases hf
      obtain ⟨φ2, I2⟩ := I1.takeSlot ‹_› rfl nb
      exact k _ _ _ _ _ _ I2
    · cases hf
  · cases hf; exact k _ _ _ _ _ _ I1
  · cases hf; exact k _ _ _ _ _ _ I1
  · cases hf; exact k _ _ _ _ _ _ I1
  · cases hf; exact k _ _ _ _ _ _ I1
  · cases hf; exact k _ _ _ _ _ _ I1
  · cases hf
def retNS : SE := fun ρ => some (.rt (.sh .none) ρ)
theorem s_retN : DS X F (.Return none pos) retNS := ps_imp ps_retN fun D σ H ⟨G, ρ, φ, ts, o, I, nb, hf, k⟩ => by
  cases hf
  exact k _ _ _ _ _ [] (I.pushD .non)
def exprS (f : EE) : SE := fun ρ => (f ρ).map fun p => .nx p.2
theorem s_expr (h : DE X F e f) (hs : swapsWith e none pos.line X.env = pure false := by rfl) : DS X F (.Expr e pos) (exprS f) := ps_imp (ps_expr h hs) fun D σ H ⟨G, ρ, φ, ts, o, I, nb, hf, k⟩ => by
  unfold exprS at hf
  obtain ⟨⟨r, ρ1⟩, h1, hf⟩ := Option.map_eq_some_iff.mp hf
  cases hf
  exact ⟨G, ρ, φ, ts, r, _, I, h1, fun G1 H1 φ1 v fp I1 => k _ _ _ _ I1.drop⟩

/-! ### stores -/
def ownE (r : S) (ρ : Env) : Option (S × Env) := match r with
  | .bor i => (froze ρ (.bor i)).map fun p => (.sh p.1, p.2)
  | .scr _ => none
  | .mk _ => none
  | r => some (r, ρ)
theorem Fm.own {K : PySem.W.Frag} {G H : Hp} {σ : L2.St} {ρ ρ' : Env} {φ : Nat → List Addr} {ts : List Hd} {v : V} {s r : S} {fp : List Addr} (I : Fm K F G H σ ρ φ (⟨v, r, fp⟩ :: ts)) (e : ownE r ρ = some (s, ρ')) :
    (∃ G' φ' fp', Fm K F G' H σ ρ' φ' (⟨v, s, fp'⟩ :: ts)) ∧ ∀ j, s ≠ .bor j := by
  unfold ownE at e
  split at e
  · obtain ⟨⟨d, ρ1⟩, h1, e⟩ := Option.map_eq_some_iff.mp e
    cases e
    obtain ⟨G', φ', I', _⟩ := Fm.froze (t := ⟨v, .bor _, fp⟩) I h1
    exact ⟨⟨G', φ', [], I'⟩, fun _ => nofun⟩
  · cases e
  · cases e
  · cases e
    rename_i h1 h2 h3
    exact ⟨⟨G, φ, fp, I⟩, fun j z => h1 j z⟩
def asgS (i : Nat) (f : EE) : SE := fun ρ => (f ρ).bind fun p => (ownE p.1 p.2).bind fun q => (setE i q.1 q.2).map .nx
theorem asg_run {i : Nat} : ∀ D σ H, tS X.K F (asgS i f) D σ H → tAsg (tE X.K F f) (gName i) D σ H := fun D σ H ⟨G, ρ, φ, ts, o, I, nb, hf, k⟩ => by
  unfold asgS at hf
  obtain ⟨⟨r, ρ1⟩, h1, hf⟩ := Option.bind_eq_some_iff.mp hf
  obtain ⟨⟨s, ρ2⟩, h2, hf⟩ := Option.bind_eq_some_iff.mp hf
  obtain ⟨ρ3, h3, hf⟩ := Option.map_eq_some_iff.mp hf
  cases hf
  simp only at h2 h3
  obtain ⟨q1, q2, rfl⟩ := setE_some h3
  refine ⟨G, ρ, φ, ts, r, ρ1, I, h1, fun G1 H1 φ1 v fp I1 => ?_⟩
  obtain ⟨⟨G2, φ2, fp2, I2⟩, ns⟩ := I1.own h2
  exact k _ _ _ _ (I2.set q2 q1 ns fun t ht => nb t ht i)
theorem s_asg {i : Nat} {x : Str} {pos' : Pos} (h : PS X (.Assign [.Name x pos'] e pos) (tAsg (tE X.K F f) (gName i))) : DS X F (.Assign [.Name x pos'] e pos) (asgS i f) := ps_imp h asg_run
/-- target = value, the target a tuple of names (or a name) -/
def asgG (tg : GE) (f : EE) : SE := fun ρ => (f ρ).bind fun p => (froze p.2 p.1).bind fun q => (tg q.1 q.2).map .nx
theorem s_asgG {tg : Expr} {vs : List Nat} {gg : GE} (h : DE X F e f) (hg : DG X F tg vs gg) (hs : swapsWithSole [tg] e pos.line X.env = pure false := by rfl) (hw : swappedStores [tg] e X.env = pure none := by rfl) (h1 : (assignEach [tg] X.env).map (·.2) = [assign tg X.env] := by rfl) :
    DS X F (.Assign [tg] e pos) (asgG gg f) := ps_imp (ps_asg h hg hs hw h1) fun D σ H ⟨G, ρ, φ, ts, o, I, nb, hf, k⟩ => by
  unfold asgG at hf
  obtain ⟨⟨r, ρ1⟩, h1, hf⟩ := Option.bind_eq_some_iff.mp hf
  obtain ⟨⟨d, ρ2⟩, h2, hf⟩ := Option.bind_eq_some_iff.mp hf
  obtain ⟨ρ3, h3, hf⟩ := Option.map_eq_some_iff.mp hf
  cases hf
  simp only at h2 h3
  refine ⟨G, ρ, φ, ts, r, ρ1, I, h1, fun G1 H1 φ1 v fp I1 => ?_⟩
  obtain ⟨G2, φ2, I2, _⟩ := I1.froze h2
  exact ⟨G2, ρ2, φ2, ts, d, ρ3, I2.drop, I2.head.2, h3, fun t ht i _ => nb t ht i, fun G' H' φ' σ' I' _ _ => k _ _ _ _ I'⟩

/-- values kept on the way: what is private stays so, what a slot holds is shared -/
def ownR : List S → Env → Option (List S × Env)
  | [], ρ => some ([], ρ)
  | r :: rs, ρ => match r with
    | .bor i => (froze ρ (.bor i)).bind fun p => (ownR rs p.2).map fun q => (.sh p.1 :: q.1, q.2)
    | .scr _ => none
    | .mk _ => none
    | r => (ownR rs ρ).map fun q => (r :: q.1, q.2)
/-- the second holder goes on top -/
theorem Fm.swap {K : PySem.W.Frag} {G H : Hp} {σ : L2.St} {ρ : Env} {φ : Nat → List Addr} {ts : List Hd} {u w : Hd} (I : Fm K F G H σ ρ φ (u :: w :: ts)) : Fm K F G H σ ρ φ (w :: u :: ts) := by
  have h := List.pairwise_cons.mp I.tt
  have h2 := List.pairwise_cons.mp h.2
  refine (I.drop2).push (I.tm w (List.mem_cons_of_mem _ List.mem_cons_self)) fun a ha => ?_
  have q := I.tp w (List.mem_cons_of_mem _ List.mem_cons_self) a ha
  refine ⟨q.1, q.2.1, q.2.2, fun t ht => ?_⟩
  rcases List.mem_cons.mp ht with z | z
  · rw [z]; exact fun hm => h.1 w List.mem_cons_self a hm ha
  · exact h2.1 t z a ha
/-- a, b = x, y: two values, stored -/
def par2S (i j : Nat) (ta : AE) : SE := fun ρ => (ta ρ).bind fun p => match p.1 with
  | [r1, r2] => (ownE r2 p.2).bind fun q2 => (ownE r1 q2.2).bind fun q1 => (setE j q2.1 q1.2).bind fun ρ1 => (setE i q1.1 ρ1).map .nx
  | _ => none
theorem list2 {hs : List Hd} {r1 r2 : S} (h : hs.map Hd.s = [r1, r2]) : ∃ h1 h2 : Hd, hs = [h1, h2] ∧ h1.s = r1 ∧ h2.s = r2 := by
  match hs, h with
  | [h1, h2], h => exact ⟨h1, h2, rfl, by simpa using congrArg List.head? h, by simpa using congrArg List.getLast? h⟩
theorem par2_run {i j : Nat} (hij : i ≠ j) : ∀ D σ H, tS X.K F (par2S i j ta) D σ H → tPar i j (tAs X.K F ta) D σ H := fun D σ H ⟨G, ρ, φ, ts, o, I, nb, hf, k⟩ => by
  unfold par2S at hf
  obtain ⟨⟨rs, ρ1⟩, h1, hf⟩ := Option.bind_eq_some_iff.mp hf
  simp only at hf
  split at hf
  · obtain ⟨⟨s2, ρ2⟩, h2, hf⟩ := Option.bind_eq_some_iff.mp hf
    obtain ⟨⟨s1, ρ3⟩, h3, hf⟩ := Option.bind_eq_some_iff.mp hf
    obtain ⟨ρ4, h4, hf⟩ := Option.bind_eq_some_iff.mp hf
    obtain ⟨ρ5, h5, hf⟩ := Option.map_eq_some_iff.mp hf
    cases hf
    simp only at h2 h3 h4 h5
    refine ⟨G, ρ, φ, ts, _, ρ1, I, h1, fun G1 H1 φ1 hs e I1 => ?_⟩
    obtain ⟨u, w, rfl, eu, ew⟩ := list2 e
    obtain ⟨v1, t1, f1⟩ := u
    obtain ⟨v2, t2, f2⟩ := w
    simp only at eu ew
    subst eu ew
    refine ⟨v1, v2, rfl, ?_⟩
    have I1' : Fm X.K F G1 H1 σ ρ1 φ1 (⟨v2, t2, f2⟩ :: ⟨v1, t1, f1⟩ :: ts) := I1
    obtain ⟨⟨G2, φ2, g2, I2⟩, n2⟩ := I1'.own h2
    obtain ⟨⟨G3, φ3, g3, I3⟩, n3⟩ := (I2.swap).own h3
    obtain ⟨a1, a2, e4⟩ := setE_some h4
    obtain ⟨b1, b2, e5⟩ := setE_some h5
    subst e4 e5
    have I4 := I3.swap.set a2 a1 n2 fun t ht => by
      rcases List.mem_cons.mp ht with z | z
      · rw [z]; exact n3 j
      · exact nb t z j
    have I5 := I4.set b2 b1 n3 fun t ht => nb t ht i
    rw [List.set_comm _ _ (Ne.symm hij)] at I5
    exact k _ _ _ _ I5
  · cases hf
theorem s_par2 {i j : Nat} (hij : i ≠ j) (h : PS X st (tPar i j (tAs X.K F ta))) : DS X F st (par2S i j ta) := ps_imp h (par2_run hij)
def par3S (i j l : Nat) (ta : AE) : SE := fun ρ => (ta ρ).bind fun p => match p.1 with
  | [r1, r2, r3] => (ownE r3 p.2).bind fun q3 => (ownE r2 q3.2).bind fun q2 => (ownE r1 q2.2).bind fun q1 => (setE l q3.1 q1.2).bind fun ρ0 => (setE j q2.1 ρ0).bind fun ρ1 => (setE i q1.1 ρ1).map .nx
  | _ => none
theorem list3 {hs : List Hd} {r1 r2 r3 : S} (h : hs.map Hd.s = [r1, r2, r3]) : ∃ h1 h2 h3 : Hd, hs = [h1, h2, h3] ∧ h1.s = r1 ∧ h2.s = r2 ∧ h3.s = r3 := by
  match hs, h with
  | [h1, h2, h3], h =>
    simp only [List.map_cons, List.map_nil, List.cons.injEq, and_true] at h
    exact ⟨h1, h2, h3, rfl, h.1, h.2.1, h.2.2⟩
theorem par3_run {i j l : Nat} (hij : i ≠ j) (hil : i ≠ l) (hjl : j ≠ l) : ∀ D σ H, tS X.K F (par3S i j l ta) D σ H → tPar3 i j l (tAs X.K F ta) D σ H := fun D σ H ⟨G, ρ, φ, ts, o, I, nb, hf, k⟩ => by
  unfold par3S at hf
  obtain ⟨⟨rs, ρ1⟩, h1, hf⟩ := Option.bind_eq_some_iff.mp hf
  simp only at hf
  split at hf
  · obtain ⟨⟨s3, ρ2⟩, h2, hf⟩ := Option.bind_eq_some_iff.mp hf
    obtain ⟨⟨s2, ρ3⟩, h3, hf⟩ := Option.bind_eq_some_iff.mp hf
    obtain ⟨⟨s1, ρ4⟩, h4, hf⟩ := Option.bind_eq_some_iff.mp hf
    obtain ⟨ρ5, h5, hf⟩ := Option.bind_eq_some_iff.mp hf
    obtain ⟨ρ6, h6, hf⟩ := Option.bind_eq_some_iff.mp hf
    obtain ⟨ρ7, h7, hf⟩ := Option.map_eq_some_iff.mp hf
    cases hf
    simp only at h2 h3 h4 h5 h6 h7
    refine ⟨G, ρ, φ, ts, _, ρ1, I, h1, fun G1 H1 φ1 hs e I1 => ?_⟩
    obtain ⟨u, w, x, rfl, eu, ew, ex⟩ := list3 e
    obtain ⟨v1, t1, f1⟩ := u
    obtain ⟨v2, t2, f2⟩ := w
    obtain ⟨v3, t3, f3⟩ := x
    simp only at eu ew ex
    subst eu ew ex
    refine ⟨v1, v2, v3, rfl, ?_⟩
    have I1' : Fm X.K F G1 H1 σ ρ1 φ1 (⟨v3, t3, f3⟩ :: ⟨v2, t2, f2⟩ :: ⟨v1, t1, f1⟩ :: ts) := I1
    obtain ⟨⟨G2, φ2, g2, I2⟩, n3⟩ := I1'.own h2
    obtain ⟨⟨G3, φ3, g3, I3⟩, n2⟩ := (I2.swap).own h3
    -- order now: v2, v3, v1; bring v1 on top
    have I3' : Fm X.K F G3 H1 σ ρ3 φ3 (⟨v1, t1, f1⟩ :: ⟨v2, s2, g3⟩ :: ⟨v3, s3, g2⟩ :: ts) := by
      have pw := List.pairwise_cons.mp I3.tt
      have pw2 := List.pairwise_cons.mp pw.2
      have pw3 := List.pairwise_cons.mp pw2.2
      have J : Fm X.K F G3 H1 σ ρ3 φ3 (⟨v2, s2, g3⟩ :: ⟨v3, s3, g2⟩ :: ts) := by
        refine I3.drop.drop2.push I3.head fun a ha => ?_
        have q := I3.tp _ List.mem_cons_self a ha
        refine ⟨q.1, q.2.1, q.2.2, fun t ht => ?_⟩
        rcases List.mem_cons.mp ht with z | z
        · rw [z]; exact pw.1 _ List.mem_cons_self a ha
        · exact pw.1 t (List.mem_cons_of_mem _ (List.mem_cons_of_mem _ z)) a ha
      refine J.push (I3.tm _ (List.mem_cons_of_mem _ (List.mem_cons_of_mem _ List.mem_cons_self))) fun a ha => ?_
      have q := I3.tp _ (List.mem_cons_of_mem _ (List.mem_cons_of_mem _ List.mem_cons_self)) a ha
      refine ⟨q.1, q.2.1, q.2.2, fun t ht hm => ?_⟩
      rcases List.mem_cons.mp ht with z | z
      · rw [z] at hm; exact pw.1 _ (List.mem_cons_of_mem _ List.mem_cons_self) a hm ha
      · rcases List.mem_cons.mp z with z | z
        · rw [z] at hm; exact pw2.1 _ List.mem_cons_self a hm ha
        · exact pw3.1 t z a ha hm
    obtain ⟨⟨G4, φ4, g4, I4⟩, n1⟩ := I3'.own h4
    obtain ⟨a1, a2, e5⟩ := setE_some h5
    obtain ⟨b1, b2, e6⟩ := setE_some h6
    obtain ⟨c1, c2, e7⟩ := setE_some h7
    subst e5 e6 e7
    -- bring v3 on top
    have pw := List.pairwise_cons.mp I4.tt
    have pw2 := List.pairwise_cons.mp pw.2
    have pw3 := List.pairwise_cons.mp pw2.2
    have I5 : Fm X.K F G4 H1 σ ρ4 φ4 (⟨v3, s3, g2⟩ :: ⟨v1, s1, g4⟩ :: ⟨v2, s2, g3⟩ :: ts) := by
      have J : Fm X.K F G4 H1 σ ρ4 φ4 (⟨v1, s1, g4⟩ :: ⟨v2, s2, g3⟩ :: ts) := by
        refine I4.drop.drop2.push I4.head fun a ha => ?_
        have q := I4.tp _ List.mem_cons_self a ha
        refine ⟨q.1, q.2.1, q.2.2, fun t ht => ?_⟩
        rcases List.mem_cons.mp ht with z | z
        · rw [z]; exact pw.1 _ List.mem_cons_self a ha
        · exact pw.1 t (List.mem_cons_of_mem _ (List.mem_cons_of_mem _ z)) a ha
      refine J.push (I4.tm _ (List.mem_cons_of_mem _ (List.mem_cons_of_mem _ List.mem_cons_self))) fun a ha => ?_
      have q := I4.tp _ (List.mem_cons_of_mem _ (List.mem_cons_of_mem _ List.mem_cons_self)) a ha
      refine ⟨q.1, q.2.1, q.2.2, fun t ht hm => ?_⟩
      rcases List.mem_cons.mp ht with z | z
      · rw [z] at hm; exact pw.1 _ (List.mem_cons_of_mem _ List.mem_cons_self) a hm ha
      · rcases List.mem_cons.mp z with z | z
        · rw [z] at hm; exact pw2.1 _ List.mem_cons_self a hm ha
        · exact pw3.1 t z a ha hm
    have I6 := I5.set a2 a1 n3 fun t ht => by
      rcases List.mem_cons.mp ht with z | z
      · rw [z]; exact n1 l
      · rcases List.mem_cons.mp z with z | z
        · rw [z]; exact n2 l
        · exact nb t z l
    have I7 := I6.swap.set b2 b1 n2 fun t ht => by
      rcases List.mem_cons.mp ht with z | z
      · rw [z]; exact n1 j
      · exact nb t z j
    have I8 := I7.set c2 c1 n1 fun t ht => nb t ht i
    rw [List.set_comm _ _ (Ne.symm hjl), List.set_comm _ _ (Ne.symm hil), List.set_comm _ _ (Ne.symm hij)] at I8
    exact k _ _ _ _ I8
  · cases hf
theorem s_par3 {i j l : Nat} (hij : i ≠ j) (hil : i ≠ l) (hjl : j ≠ l) (h : PS X st (tPar3 i j l (tAs X.K F ta))) : DS X F st (par3S i j l ta) := ps_imp h (par3_run hij hil hjl)

/-- name op= value -/
def augS (i : Nat) (gg : PyData → PyData → Option S) (f : EE) : SE := fun ρ => match ρ[i]? with
  | some (some (.sh d)) => (f ρ).bind fun p => (view p.2 p.1).bind fun y => (gg d y).bind fun r => match r with
    | .sh z => (setE i (.sh z) p.2).map .nx
    | _ => none
  | _ => none
theorem s_aug {i : Nat} {x : Str} {pos' : Pos} {op : Operator} {rr : R2} {gg : PyData → PyData → Option S} (hr : OpD X F rr gg) (h : PS X (.AugAssign (.Name x pos') op e pos) (tAug i (tE X.K F f) rr)) : DS X F (.AugAssign (.Name x pos') op e pos) (augS i gg f) := ps_imp h fun D σ H ⟨G, ρ, φ, ts, o, I, nb, hf, k⟩ => by
  unfold augS at hf
  split at hf
  · rename_i d hi
    obtain ⟨⟨r, ρ1⟩, h1, hf⟩ := Option.bind_eq_some_iff.mp hf
    obtain ⟨y, h2, hf⟩ := Option.bind_eq_some_iff.mp hf
    obtain ⟨s, h3, hf⟩ := Option.bind_eq_some_iff.mp hf
    simp only at h2 hf
    split at hf
    · obtain ⟨ρ2, h4, hf⟩ := Option.map_eq_some_iff.mp hf
      cases hf
      obtain ⟨q1, q2, rfl⟩ := setE_some h4
      obtain ⟨v, e1, e2⟩ := I.sl i _ hi
      refine ⟨v, e1, G, ρ, φ, _, r, ρ1, I.pushD e2.2, h1, fun G1 H1 φ1 w fp I1 => ?_⟩
      have rv : Sh X.K G1 v d := (I1.tm ⟨v, .sh d, []⟩ (List.mem_cons_of_mem _ List.mem_cons_self)).2
      refine hr G1 H1 σ ρ1 φ1 ts v w d y _ _ I1.drop.drop (.sc rv) (I1.view I1.head h2) h3 fun G2 H2 φ2 u fp2 I2 => ?_
      exact k _ _ _ _ (I2.set q2 q1 (fun _ => nofun) fun t ht => nb t ht i)
    · cases hf
  · cases hf

/-! ### if, while, for -/
def ifS (t : BE) (f g : SE) : SE := fun ρ => (t ρ).bind fun p => if p.1 = true then f p.2 else g p.2
theorem s_if (hc : DB X F c t) (ha : DSs X F body sf) (hb : DSs X F orelse sg) : DS X F (.If c body orelse pos) (ifS t sf sg) := ps_imp (ps_if hc ha hb) fun D σ H ⟨G, ρ, φ, ts, o, I, nb, hf, k⟩ => by
  unfold ifS at hf
  obtain ⟨⟨b1, ρ1⟩, h1, h2⟩ := Option.bind_eq_some_iff.mp hf
  refine ⟨G, ρ, φ, ts, b1, ρ1, I, h1, fun G1 H1 φ1 I1 => ?_⟩
  cases b1 with
  | true => exact iteT ⟨G1, ρ1, φ1, ts, o, I1, nb, h2, k⟩
  | false => exact iteF ⟨G1, ρ1, φ1, ts, o, I1, nb, h2, k⟩
def whileGo (t : BE) (f : SE) : Nat → SE
  | 0, _ => none
  | n + 1, ρ => (t ρ).bind fun p => if p.1 = true then (f p.2).bind fun o => match o with
      | .nx ρ' => whileGo t f n ρ'
      | .ct ρ' => whileGo t f n ρ'
      | .bk ρ' => some (.nx ρ')
      | .rt s ρ' => some (.rt s ρ')
    else some (.nx p.2)
def fuelN : Nat := 1000000000000
def whileS (t : BE) (f : SE) : SE := whileGo t f fuelN
theorem s_while (hp : PassesOwn (model X.prog X.w) X.A X.env X.xe) (hc : DB X F c t) (hb : DSs X F body sf) : DS X F (.While c body [] pos) (whileS t sf) := ps_imp (ps_while hp hc hb) fun D σ H ⟨G, ρ, φ, ts, o, I, nb, hf, k⟩ => by
  unfold whileS at hf
  refine ⟨fun m σ H => ∃ G ρ φ, Fm X.K F G H σ ρ φ ts ∧ whileGo t sf m ρ = some o, ⟨fuelN, G, ρ, φ, I, hf⟩, ?_⟩
  rintro m σ1 H1 ⟨G1, ρ1, φ1, I1, h1⟩
  cases m with
  | zero => cases h1
  | succ n =>
    rw [whileGo] at h1
    obtain ⟨⟨b1, ρ2⟩, h2, h3⟩ := Option.bind_eq_some_iff.mp h1
    refine ⟨G1, ρ1, φ1, ts, b1, ρ2, I1, h2, fun G2 H2 φ2 I2 => ?_⟩
    cases b1 with
    | false => cases h3; exact iteF (k _ _ _ _ I2)
    | true =>
      rw [if_pos rfl] at h3
      obtain ⟨o2, h4, h5⟩ := Option.bind_eq_some_iff.mp h3
      refine iteT ⟨fun σ' H' => ∃ G ρ φ, Fm X.K F G H' σ' ρ φ ts ∧ whileGo t sf n ρ = some o, fun σ' H' q => ⟨n, Nat.lt_succ_self n, q⟩, G2, ρ2, φ2, ts, o2, I2, nb, h4, ?_⟩
      cases o2 with
      | nx ρ3 => exact fun G' H' φ' σ' I' => ⟨G', ρ3, φ', I', h5⟩
      | ct ρ3 => exact fun G' H' φ' σ' I' => ⟨G', ρ3, φ', I', h5⟩
      | bk ρ3 => cases h5; exact k
      | rt s ρ3 => cases h5; exact k
def forGo (tg : GE) (f : SE) : List PyData → SE
  | [], ρ => some (.nx ρ)
  | d :: ds, ρ => (tg d ρ).bind fun ρ1 => (f ρ1).bind fun o => match o with
    | .nx ρ' => forGo tg f ds ρ'
    | .ct ρ' => forGo tg f ds ρ'
    | .bk ρ' => some (.nx ρ')
    | .rt s ρ' => some (.rt s ρ')
def forS (it : IE) (tg : GE) (f : SE) : SE := fun ρ => (it ρ).bind fun p => forGo tg f p.1 p.2
theorem NoBor.mark {ts : List Hd} (nb : NoBor ts) (G : Hp) : NoBor (⟨.non, .mk G, []⟩ :: ts) := fun t ht i => by
  rcases List.mem_cons.mp ht with z | z
  · rw [z]; exact nofun
  · exact nb t z i
theorem s_for {tg iter : Expr} {vs : List Nat} {it : IE} {gg : GE} (hp : PassesOwn (model X.prog X.w) X.A X.env X.xe) (hc : X.calm = true) (hi : DI X F tg iter it) (hg : DG X F tg vs gg) (hb : DSs X F body sf) (hs : ∀ x, foldedSetIterable iter X.env x = pure x := by intro _; rfl) :
    DS X F (.For tg iter body [] pos) (forS it gg sf) := ps_imp (ps_for hp hc hi hg hb hs) fun D σ H ⟨G, ρ, φ, ts, o, I, nb, hf, k⟩ => by
  unfold forS at hf
  obtain ⟨⟨ds, ρ1⟩, h1, hf⟩ := Option.bind_eq_some_iff.mp hf
  simp only at hf
  refine ⟨G, ρ, φ, ts, ds, ρ1, I, h1, fun G1 H1 φ1 J I1 W => ?_⟩
  refine ⟨fun i m σ H => m = ds.length - i ∧ i ≤ ds.length ∧ ∃ G ρ φ, Fm X.K F G H σ ρ φ (⟨.non, .mk G1, []⟩ :: ts) ∧ forGo gg sf (ds.drop i) ρ = some o, ⟨_, rfl, Nat.zero_le _, G1, ρ1, φ1, I1.mark, hf⟩, ?_⟩
  rintro i m σ2 H2 ⟨rfl, hi, G2, ρ2, φ2, I2, hgo⟩
  have l2 : Le G1 G2 := I2.marked List.mem_cons_self
  have hle : Le G1 H2 := fun a o q => I2.gh a o (l2 a o q)
  by_cases hlt : i < ds.length
  · refine .inr ⟨W.go i H2 hle hlt, fun σ' H' => i + 1 ≤ ds.length ∧ ∃ G ρ φ, Fm X.K F G H' σ' ρ φ (⟨.non, .mk G1, []⟩ :: ts) ∧ forGo gg sf (ds.drop (i + 1)) ρ = some o, fun σ' H' q => ⟨ds.length - (i + 1), by omega, rfl, q⟩, fun x H' hy => ?_⟩
    obtain ⟨d, G3, hd, l3, I4, rx⟩ := W.take I2 l2 hlt hy
    have edrop : ds.drop i = d :: ds.drop (i + 1) := by
      obtain ⟨h5, h6⟩ := List.getElem?_eq_some_iff.mp hd
      rw [List.drop_eq_getElem_cons h5, h6]
    rw [edrop, forGo] at hgo
    obtain ⟨ρ4, g1, hgo⟩ := Option.bind_eq_some_iff.mp hgo
    obtain ⟨o2, g2, hgo⟩ := Option.bind_eq_some_iff.mp hgo
    refine ⟨G3, ρ2, φ2, _, d, ρ4, I4, rx, g1, fun t ht j _ => nb.mark G1 t ht j, fun G5 H5 φ5 σ5 I5 _ _ => ?_⟩
    refine ⟨G5, ρ4, φ5, _, o2, I5, nb.mark G1, g2, ?_⟩
    cases o2 with
    | nx ρ5 => exact fun G' H' φ' σ' I' => ⟨hlt, G', ρ5, φ', I', hgo⟩
    | ct ρ5 => exact fun G' H' φ' σ' I' => ⟨hlt, G', ρ5, φ', I', hgo⟩
    | bk ρ5 => cases hgo; exact fun G' H' φ' σ' I' => k _ _ _ _ I'.drop
    | rt s ρ5 => cases hgo; exact fun G' H' φ' σ' v fp I' => k _ _ _ _ _ _ I'.drop2
  · have ei : i = ds.length := by omega
    subst ei
    rw [List.drop_length] at hgo
    cases hgo
    exact .inl ⟨W.stop _ H2 hle (Nat.le_refl _), k _ _ _ _ I2.drop⟩
end
end Dn
namespace Dn
open PySem PyProof.Rows L2
/-! Part 7: defs and their calls. As FnOk of the hand layer, but nothing is being shown (repr) where the def runs -/

structure FnG (P : Program) (w : World) (K : PySem.W.Frag) (mg : Str → Option Value) (base : Heap) (k : Nat) (f : Addr) (fd : FuncData) (ps : List Str) (sp : Sp) : Prop where
  len : ∀ vs H Q E, sp vs H Q E → vs.length = ps.length
  go : ∀ (A : Around) (outer : List PySem.Env) (s : Shared) (H : Hp) (args : Args) (us : List Value) (vs : List V) (Q : VK) (E : XK), Room k A → A.guards = some [] → Env0 P w K mg base A outer s H →
    BindsTo s fd args (ps.zip us) → Vals vs us → sp vs H Q E → codeAny (model P w) A (.call (.ref f) args) (CR CX0 outer P w H s Q E) s
theorem FnG.mono {P : Program} {w : World} {K : PySem.W.Frag} {mg : Str → Option Value} {base : Heap} {j k : Nat} {f : Addr} {fd : FuncData} {ps : List Str} {sp : Sp} (F : FnG P w K mg base j f fd ps sp) (h : j ≤ k) : FnG P w K mg base k f fd ps sp :=
  ⟨F.len, fun A outer s H args us vs Q E hr => F.go A outer s H args us vs Q E (hr.mono h)⟩

section
variable {P : Program} {w : World} {K : PySem.W.Frag} {mg : Str → Option Value} {base : Heap}
/-- a def's body, walked in any context at its entry, gives its promise -/
theorem okG {x qual : Str} {st : Stmt} {f : Addr} {fd : FuncData} {N ps : List Str} {k : Nat} {sp : Sp} (D : Fun K x qual st f fd) (S : FnScope N ps (defScope st)) (len : ∀ vs H Q E, sp vs H Q E → vs.length = ps.length)
    (walk : ∀ (cdv : Value) (A : Around) (outer : List PySem.Env) (s : Shared) (H : Hp) (vs : List V) (Q : VK) (E : XK), CtxOk (cxOf CX0 P w K mg base N qual (defScope st) f cdv A outer s H E).nox → Room k (cxOf CX0 P w K mg base N qual (defScope st) f cdv A outer s H E).nox.A → sp vs H Q E →
      ∃ t, PSs (cxOf CX0 P w K mg base N qual (defScope st) f cdv A outer s H E).nox (defBody st) t ∧ t { nx := fun _ H' => Q .non H', rt := Q } (L2.start N vs) H) : FnG P w K mg base (k + 1) f fd ps sp := by
  obtain ⟨oc, od, kV, doc, pm, an, cdv, ct, osl, efd, lk, hcd⟩ := D.ex
  subst efd
  refine ⟨len, ?_⟩
  intro A outer s H args us vs Q E hr hgd env0 bnd vals hsp
  have hlen := len _ _ _ _ hsp
  have inK : K.In s.heap := env0.mod.kin.keeps fun b o q => (env0.bs b o q).1
  have free : s.heap.NoLimit := env0.mod.nolimit.keeps fun b o q => (env0.bs b o q).1
  have kinds : ∀ y ∈ ps.zip us, (defScope st).names.lookup y.1 = some .local ∨ ((defScope st).names.lookup y.1 = some .cell ∧ ((cellsFrom (s.heap.objs.size + 1) (defScope st).names []).lookup y.1).isSome = true) := by
    rintro ⟨n, v⟩ hy
    cases S.par n (List.of_mem_zip hy).1 with
    | inl q => exact Or.inl q
    | inr q => exact Or.inr ⟨q, PySem.W.cellsFrom_some _ _ _ (Or.inl q)⟩
  apply codeAny_call_function hr.depth (inK _ _ lk) rfl S.co S.gen rfl (PySem.W.codeRec_of inK hcd)
  apply bnd
  apply wpAny_newFunctionEnv_cells S.kind kinds
  intro env hEnv s1 hIn
  subst hEnv
  refine ⟨free.keeps hIn.toInCall.keep, codeAny_func ?_⟩
  have room : Room k (A.deeper (envOfC qual (defScope st) s.heap.objs.size f cdv)) := hr.deeper _
  have units : A.units + 64 + 16 + 3 ≤ cLine := by
    have := hr.un
    omega
  have cx : CtxOk (cxOf CX0 P w K mg base N qual (defScope st) f cdv A outer s H E).nox := by
    refine ⟨rfl, S.nd, ?_, hgd⟩
    show A.units + 3 + 72 < cLine
    have := hr.un
    omega
  obtain ⟨t, ht, hq⟩ := walk cdv A outer s H vs Q E cx room hsp
  have start_ok : Inv (cxOf CX0 P w K mg base N qual (defScope st) f cdv A outer s H E) [] (L2.start N vs) H s1 := inv_start S hr.hd env0 hlen vals hIn
  have ends : ∀ {σ' : L2.St} {H' : Hp} {v : V} {u : Value} {s' : Shared}, Inv (cxOf CX0 P w K mg base N qual (defScope st) f cdv A outer s H E) [] σ' H' s' → RelV v u → Q v H' → CE outer P w H s Q u s' :=
    fun {σ' H' v u s'} J rv q => ⟨v, H', J.os, J.bare, J.base, J.hok, rv, q⟩
  apply wpAny_mono (ht.nox.run [] s1 (L2.start N vs) H _ start_ok hq)
  · intro fl s' hs
    cases fl with
    | ret u => obtain ⟨v, σ', H', J, rv, q⟩ := hs; exact ends J rv q
    | next => obtain ⟨σ', H', J, q⟩ := hs; exact ends (v := V.non) (u := Value.none) J rfl q
    | brk => obtain ⟨_, _, _, q⟩ := hs; exact q.elim
    | cont => obtain ⟨_, _, _, q⟩ := hs; exact q.elim
  · intro e s' hs
    exact hs
end

section
variable {X : Cx} {k : Nat} {f : Addr} {fd : FuncData} {ps : List Str} {sp : Sp} {dvs : List V} {ds : List Value} {x : Str} {p pos : Pos} {e : Expr} {es : List Expr} {ta : TA}
/-- the callee runs -/
theorem run_fnG (C : CtxOk X) (D : FnG X.prog X.w X.K X.mg X.base k f fd ps sp) (hr : Room k X.A) (hb : Binds X.K fd ps []) {pins : List (Addr × Obj)} {σ : L2.St} {H : Hp} {s : Shared} {Q : VK} {us : List Value} {vs : List V}
    (I : Inv X pins σ H s) (r : Vals vs us) (h : sp vs H Q E0) : wpAny (model X.prog X.w) X.A (call (.ref f) us) (EP X pins σ Q) X.xe s := by
  have hl : (us ++ []).length = ps.length := by
    rw [List.append_nil, ← r.length]
    exact D.len _ _ _ _ h
  have bnd := hb s us I.kIn hl
  rw [List.append_nil] at bnd
  apply wpAny_call
  apply codeAny_mono (D.go X.A X.stack s H ⟨us, []⟩ us vs Q E0 hr C.gd I.env0 bnd r h)
  intro res s' hq
  match res, hq with
  | .ok (.ret u), hq => exact I.after hq
theorem pe_callG (C : CtxOk X) (D : FnG X.prog X.w X.K X.mg X.base k f fd ps sp) (hr : Room k X.A) (hg : Gl X x) (hm : X.mg x = some (.ref f)) (hk : PySem.W.keepIn X.K (.ref f) = true) (hb : Binds X.K fd ps []) (ha : PA X (e :: es) ta) (hdb : (x == ("__debug__" : Str)) = false := by decide)
    (he : starEach (e :: es) X.env = (false, eval e X.env) :: starEach es X.env := by rfl) (hpl : (backTo pos (starEach es X.env)).any (·.1) = false := by rfl) : PE X (.Call (.Name x p) (e :: es) [] pos) (tCall sp [] E0 ta) := by
  constructor
  intro pins s σ H Q I h
  apply wpAny_Call_Name_kw
  apply ld_glob I hg hm _ hdb
  apply PySem.W.callWith_K (h₀ := X.base) I.ok.mod.kin hk _ he hpl
  apply thn (ha.run pos pins s σ H _ I h)
  rintro us s1 ⟨vs, H1, I1, r, q⟩
  refine ⟨I1.kIn, ?_⟩
  rw [List.append_nil] at q
  exact run_fnG C D hr hb I1 r q
end

/-! ### the promise of a def over data -/
def flatD : PyData → Bool
  | .list _ => false
  | .dict _ => false
  | .tuple xs => flatAll xs
  | _ => true
where flatAll : List PyData → Bool
  | [] => true
  | x :: xs => flatD x && flatAll xs
def flatS : S → Bool
  | .sh d => flatD d
  | .ls xs => flatD.flatAll xs
  | .dk kvs => flatD.flatAll (kvs.map (·.2))
  | .dt kvs => flatD.flatAll (kvs.map (·.2))
  | .deck _ => true
  | _ => false
/-- what is handed back: nothing of a slot -/
def resS : S → Bool
  | .bor _ => false
  | .scr _ => false
  | .mk _ => false
  | _ => true
def spF (K : PySem.W.Frag) (n : Nat) (g : List PyData → Option S) : Sp := fun vs H Q _ => vs.length = n ∧ ∃ G ds r, Le G H ∧ ShL K G vs ds ∧ g ds = some r ∧
  ∀ G' H' v fp, Le G' H' → Le G G' → Le H H' → (∀ a, H a ≠ none → G a = none → G' a = none) → RelS K [] [] G' H' v r fp → (∀ a ∈ fp, H a = none ∧ G' a = none) → resS r = true → Q v H'
/-- .. of a body: its slots at the entry, what it hands back -/
def startE (n : Nat) (ds : List PyData) : Env := ds.map (fun d => some (.sh d)) ++ List.replicate (n - ds.length) none
def outG : Out → Option S
  | .rt s _ => if resS s = true then some s else none
  | .nx _ => some (.sh .none)
  | _ => none
def bodyG (n m : Nat) (f : SE) (ds : List PyData) : Option S := if ds.length = m then (f (startE n ds)).bind outG else none

theorem startE_get {n i : Nat} {ds : List PyData} {s : S} (h : (startE n ds)[i]? = some (some s)) : ∃ d, ds[i]? = some d ∧ s = .sh d := by
  unfold startE at h
  by_cases hi : i < ds.length
  · rw [List.getElem?_append_left (by simpa using hi), List.getElem?_map] at h
    cases q : ds[i]? with
    | none => rw [q] at h; cases h
    | some d => rw [q] at h; cases h; exact ⟨d, rfl, rfl⟩
  · rw [List.getElem?_append_right (by simpa using hi)] at h
    have := List.mem_of_getElem? h
    have := List.eq_of_mem_replicate this
    cases this
theorem start_get {N : List Str} {vs : List V} {i : Nat} {v : V} (h : vs[i]? = some v) : (L2.start N vs)[i]? = some (some v) := by
  unfold L2.start
  have hi := (List.getElem?_eq_some_iff.mp h).1
  rw [List.getElem?_append_left (by simpa using hi), List.getElem?_map, h] <;> rfl
/-- the frame at a def's entry -/
theorem Fm.entry {K : PySem.W.Frag} {G H : Hp} {N : List Str} {vs : List V} {ds : List PyData} {cs : List Nat} (l : Le G H) (r : ShL K G vs ds) (hn : vs.length ≤ N.length) : Fm K ⟨H, G, [], cs⟩ G H (L2.start N vs) (startE N.length ds) (fun _ => []) [] where
  gh := l
  g0 := fun _ _ q => q
  h0 := fun _ _ q _ => q
  m0 := fun a h => by cases h
  nw := fun _ _ q => q
  len := by
    unfold L2.start startE
    simp only [List.length_append, List.length_map, List.length_replicate, r.length]
  sl := fun i s e => by
    obtain ⟨d, h1, rfl⟩ := startE_get e
    obtain ⟨v, h2, h3⟩ := r.get' h1
    exact ⟨v, start_get h2, rfl, h3⟩
  nb := fun i j e => by
    obtain ⟨d, _, z⟩ := startE_get e
    cases z
  ph := fun i a h => by cases h
  dj := fun i j a h => by cases h
  tm := fun t h => by cases h
  tp := fun t h => by cases h
  md := fun h => absurd rfl h
  tt := List.Pairwise.nil
theorem RelS.out {K : PySem.W.Frag} {cs : List Nat} {σ : L2.St} {G H : Hp} {v : V} {s : S} {fp : List Addr} (h : RelS K cs σ G H v s fp) (r : resS s = true) : RelS K [] [] G H v s fp := by
  cases s with
  | bor i => cases r
  | _ => exact h
theorem RelS.into {K : PySem.W.Frag} {cs : List Nat} {σ : L2.St} {G H : Hp} {v : V} {s : S} {fp : List Addr} (h : RelS K [] [] G H v s fp) (r : resS s = true) : RelS K cs σ G H v s fp := by
  cases s with
  | bor i => cases r
  | _ => exact h
/-- what a body does, told by its denotation, is the promise -/
theorem body_run {K : PySem.W.Frag} {N : List Str} {m : Nat} {cs : List Nat} {f : SE} {vs : List V} {H : Hp} {Q : VK} {E : XK} (hm : m ≤ N.length) (h : spF K m (bodyG N.length m f) vs H Q E) :
    ∃ F, F.cs = cs ∧ tS K F f { nx := fun _ H' => Q .non H', rt := Q } (L2.start N vs) H := by
  obtain ⟨hl, G, ds, r, l, sh, hg, k⟩ := h
  unfold bodyG at hg
  split at hg
  · obtain ⟨o, h1, h2⟩ := Option.bind_eq_some_iff.mp hg
    refine ⟨⟨H, G, [], cs⟩, rfl, G, _, _, [], o, Fm.entry l sh (by rw [hl]; exact hm), (fun t ht => by cases ht), h1, ?_⟩
    cases o with
    | nx ρ' =>
      cases h2
      intro G' H' φ' σ' I
      exact k G' H' .non [] I.gh I.g0 (fun a o q => I.h0 a o q (by exact List.not_mem_nil)) I.nw ⟨rfl, .non⟩ (fun a ha => by cases ha) rfl
    | rt s ρ' =>
      have h2' : (if resS s = true then some s else none) = some r := h2
      split at h2'
      · cases h2'
        intro G' H' φ' σ' v fp I
        exact k G' H' v fp I.gh I.g0 (fun a o q => I.h0 a o q (by exact List.not_mem_nil)) I.nw (I.head.out ‹_›) (fun a ha => ⟨(I.tp _ List.mem_cons_self a ha).2.1, (I.tp _ List.mem_cons_self a ha).1⟩) ‹_›
      · cases h2'
    | bk ρ' => cases h2
    | ct ρ' => cases h2
  · cases hg

/-! ### a call of such a def -/
def callF (g : List PyData → Option S) (ta : AE) : EE := fun ρ => (ta ρ).bind fun p => (viewL p.2 p.1).bind fun ds => (g ds).bind fun r => if flatS r = true then some (r, p.2) else none
/-- .. whose answer may hold on to its arguments: they are shared from then on -/
def callFz (g : List PyData → Option S) (ta : AE) : EE := fun ρ => (ta ρ).bind fun p => (frozeL p.1 p.2).bind fun q => (g q.1).map fun r => (r, q.2)
/-- the addresses of private objects -/
def Prv (φ : Nat → List Addr) (hs : List Hd) (a : Addr) : Prop := ∃ h ∈ hs, a ∈ h.fp ∨ ∃ i, h.s = .bor i ∧ a ∈ φ i
mutual
theorem Sh.flat {K : PySem.W.Frag} {G G' : Hp} (e : ∀ a xs, SqT K G a xs → SqT K G' a xs) : ∀ {v : V} {d : PyData}, Sh K G v d → flatD d = true → Sh K G' v d
  | _, _, .non, _ => .non
  | _, _, .bl b, _ => .bl b
  | _, _, .int i, _ => .int i
  | _, _, .str x, _ => .str x
  | _, _, .lst h r, q => by simp [flatD] at q
  | _, _, .tup h r, q => .tup (e _ _ h) (ShL.flat e r (by simpa [flatD] using q))
  | _, _, .dkk h k r, q => by simp [flatD] at q
  | _, _, .dtt h k r, q => by simp [flatD] at q
theorem ShL.flat {K : PySem.W.Frag} {G G' : Hp} (e : ∀ a xs, SqT K G a xs → SqT K G' a xs) : ∀ {vs : List V} {ds : List PyData}, ShL K G vs ds → flatD.flatAll ds = true → ShL K G' vs ds
  | _, _, .nil, _ => .nil
  | _, _, .cons (d := d) (ds := ds) h r, q => by
    have q' : flatD d = true ∧ flatD.flatAll ds = true := by simpa [flatD.flatAll] using q
    exact .cons (Sh.flat e h q'.1) (ShL.flat e r q'.2)
end
theorem RelS.flat {K : PySem.W.Frag} {G G' H : Hp} {v : V} {s : S} {fp : List Addr} (e : ∀ a xs, SqT K G a xs → SqT K G' a xs) (h : RelS K [] [] G H v s fp) (r : flatS s = true) : RelS K [] [] G' H v s fp := by
  cases s with
  | sh d => exact ⟨h.1, h.2.flat e r⟩
  | ls xs =>
    obtain ⟨a, ys, h1, h2, h3, h4⟩ := h
    exact ⟨a, ys, h1, h2, h3, h4.flat e r⟩
  | dk kvs =>
    obtain ⟨a, ys, h1, h2, h3, h4, h5⟩ := h
    exact ⟨a, ys, h1, h2, h3, h4, h5.flat e r⟩
  | dt kvs =>
    obtain ⟨a, ys, h1, h2, h3, h4, h5⟩ := h
    exact ⟨a, ys, h1, h2, h3, h4, h5.flat e r⟩
  | deck st => exact h
  | scr ns => cases r
  | bor i => cases r
  | mk G1 => cases r
/-- a private object is a list or a dict -/
theorem RelS.kind {K : PySem.W.Frag} {cs : List Nat} {σ : L2.St} {G H : Hp} {v : V} {s : S} {fp : List Addr} (r : RelS K cs σ G H v s fp) : ∀ a ∈ fp, (∃ xs, H a = some (.lst xs)) ∨ (∃ xs, H a = some (.dK xs)) ∨ ∃ xs, H a = some (.dT xs) := by
  intro b hb
  cases s with
  | sh d => rw [r.1] at hb; cases hb
  | ls ds =>
    obtain ⟨a, xs, h1, h2, h3, h4⟩ := r
    rw [h2] at hb; rw [List.mem_singleton.mp hb]; exact .inl ⟨_, h3⟩
  | dk kvs =>
    obtain ⟨a, xs, h1, h2, h3, h4⟩ := r
    rw [h2] at hb; rw [List.mem_singleton.mp hb]; exact .inr (.inl ⟨_, h3⟩)
  | dt kvs =>
    obtain ⟨a, xs, h1, h2, h3, h4⟩ := r
    rw [h2] at hb; rw [List.mem_singleton.mp hb]; exact .inr (.inr ⟨_, h3⟩)
  | deck st =>
    obtain ⟨a, c, h1, h2, h3, h4, h5⟩ := r
    rw [h2] at hb
    rcases List.mem_cons.mp hb with e | e
    · rw [e]; exact .inr (.inl ⟨_, h4⟩)
    · rw [List.mem_singleton.mp e]; exact .inl ⟨_, h5⟩
  | scr ns => rw [r.1] at hb; cases hb
  | bor i => rw [r.1] at hb; cases hb
  | mk G1 => rw [r.1] at hb; cases hb
open Classical in
/-- the shared part as the callee may see it -/
noncomputable def wide (G H : Hp) (P : Addr → Prop) : Hp := fun a => match G a with
  | some o => some o
  | none => if P a then H a else none
open Classical in
noncomputable def narrow (G : Hp) (P : Addr → Prop) : Hp := fun a => if P a then none else G a
section
variable {K : PySem.W.Frag} {F : Entry} {G G' H H' : Hp} {σ : L2.St} {ρ : Env} {φ : Nat → List Addr} {ts all : List Hd} {P : Addr → Prop}
theorem wide_le : Le G (wide G H P) := fun a o e => by unfold wide; rw [e]
theorem wide_in (l : Le G H) : Le (wide G H P) H := fun a o e => by
  unfold wide at e
  cases q : G a with
  | some u => rw [q] at e; cases e; exact l a _ q
  | none =>
    rw [q] at e
    simp only at e
    split at e
    · exact e
    · cases e
theorem wide_none {a : Addr} (g : G a = none) (h : ¬ P a) : wide G H P a = none := by
  unfold wide
  rw [g]
  simp only
  rw [if_neg h]
theorem wide_at {a : Addr} (g : G a = none) (h : P a) : wide G H P a = H a := by
  unfold wide
  rw [g]
  simp only
  rw [if_pos h]
theorem narrow_le : Le (narrow G P) G := fun a o e => by
  unfold narrow at e
  split at e
  · cases e
  · exact e
theorem narrow_out {a : Addr} (h : ¬ P a) : narrow G P a = G a := by unfold narrow; rw [if_neg h]
theorem narrow_in {a : Addr} (h : P a) : narrow G P a = none := by unfold narrow; rw [if_pos h]
theorem Fm.prvOf (I : Fm K F G H σ ρ φ all) {hs : List Hd} (hm : ∀ h ∈ hs, h ∈ all) {a : Addr} (p : Prv φ hs a) : G a = none ∧ H a ≠ none := by
  obtain ⟨h, h1, h2 | ⟨i, _, h2⟩⟩ := p
  · exact ⟨(I.tp h (hm h h1) a h2).1, (I.tm h (hm h h1)).there a h2⟩
  · exact ⟨(I.ph i a h2).1, (I.ph i a h2).2.1⟩
/-- the arguments, seen with their private objects shared -/
theorem Fm.wideL (I : Fm K F G H σ ρ φ all) : ∀ {hs us : List Hd} {ds : List PyData}, (∀ h ∈ us, h ∈ all) → (∀ h ∈ hs, h ∈ us) → Dn.viewL ρ (hs.map Hd.s) = some ds → ShL K (wide G H (Prv φ us)) (hs.map Hd.v) ds
  | [], us, ds, _, _, e => by cases e; exact .nil
  | h :: hs, us, ds, hm, hu, e => by
    simp only [List.map_cons, Dn.viewL] at e
    obtain ⟨d, h1, e⟩ := Option.bind_eq_some_iff.mp e
    obtain ⟨ds', h2, e⟩ := Option.map_eq_some_iff.mp e
    cases e
    refine .cons ?_ (Fm.wideL I hm (fun x hx => hu x (List.mem_cons_of_mem _ hx)) h2)
    have hin := hu h List.mem_cons_self
    have rh := I.tm h (hm h hin)
    have lst : ∀ {a : Addr} {xs : List V} {es : List PyData}, (a ∈ h.fp ∨ ∃ i, h.s = .bor i ∧ a ∈ φ i) → H a = some (.lst xs) → ShL K G xs es → Sh K (wide G H (Prv φ us)) (.ref a) (.list es) := fun {a xs es} p ha r => by
      have pa : Prv φ us a := ⟨h, hin, p⟩
      exact .lst (by rw [wide_at (I.prvOf hm pa).1 pa]; exact ha) (r.mono wide_le)
    obtain ⟨v, s, fp⟩ := h
    simp only at h1 rh lst ⊢
    cases s with
    | sh d' => cases h1; exact rh.2.mono wide_le
    | ls xs =>
      cases h1
      obtain ⟨a, ys, rfl, e2, q1, q2⟩ := rh
      exact lst (.inl (by rw [e2]; exact List.mem_cons_self)) q1 q2
    | bor i =>
      unfold Dn.view at h1
      cases q : ρ[i]? with
      | none => simp only [q] at h1; cases h1
      | some o =>
        cases o with
        | none => simp only [q] at h1; cases h1
        | some s' =>
          have r' := I.slot rh q
          cases s' with
          | sh d' => simp only [q] at h1; cases h1; exact r'.2.mono wide_le
          | ls xs =>
            simp only [q] at h1; cases h1
            obtain ⟨a, ys, rfl, e2, q1, q2⟩ := r'
            exact lst (.inr ⟨i, rfl, by rw [e2]; exact List.mem_cons_self⟩) q1 q2
          | _ => simp only [q] at h1; cases h1
    | _ => cases h1
theorem Fm.prvKind (I : Fm K F G H σ ρ φ all) {hs : List Hd} (hm : ∀ h ∈ hs, h ∈ all) (live : ∀ h ∈ hs, ∀ i, h.s = .bor i → ∃ s, ρ[i]? = some (some s)) {a : Addr} (p : Prv φ hs a) : (∃ xs, H a = some (.lst xs)) ∨ (∃ xs, H a = some (.dK xs)) ∨ ∃ xs, H a = some (.dT xs) := by
  obtain ⟨h, h1, h2 | ⟨i, e, h2⟩⟩ := p
  · exact (I.tm h (hm h h1)).kind a h2
  · obtain ⟨s, q⟩ := live h h1 i e
    obtain ⟨v, _, r⟩ := I.sl i s q
    exact r.kind a h2
end

section
variable {X : Cx} {F : Entry} {k : Nat} {f : Addr} {fd : FuncData} {ps : List Str} {x : Str} {p pos : Pos} {e : Expr} {es : List Expr} {ta : AE} {g : List PyData → Option S}
theorem viewL_live {ρ : Env} : ∀ {hs : List Hd} {ds : List PyData}, viewL ρ (hs.map Hd.s) = some ds → ∀ h ∈ hs, ∀ i, h.s = .bor i → ∃ s, ρ[i]? = some (some s)
  | [], _, _, h, hm, _, _ => by cases hm
  | u :: hs, ds, e, h, hm, i, ei => by
    simp only [List.map_cons, viewL] at e
    obtain ⟨d, h1, e⟩ := Option.bind_eq_some_iff.mp e
    obtain ⟨ds', h2, e⟩ := Option.map_eq_some_iff.mp e
    rcases List.mem_cons.mp hm with z | z
    · subst z
      rw [ei] at h1
      unfold view at h1
      cases q : ρ[i]? with
      | none => simp only [q] at h1; cases h1
      | some o =>
        cases o with
        | none => simp only [q] at h1; cases h1
        | some s' => exact ⟨s', rfl⟩
    · exact viewL_live h2 h z i ei
theorem viewL_length {ρ : Env} : ∀ {rs : List S} {ds : List PyData}, viewL ρ rs = some ds → ds.length = rs.length
  | [], _, e => by cases e; rfl
  | r :: rs, ds, e => by
    simp only [viewL] at e
    obtain ⟨d, h1, e⟩ := Option.bind_eq_some_iff.mp e
    obtain ⟨ds', h2, e⟩ := Option.map_eq_some_iff.mp e
    cases e
    rw [List.length_cons, List.length_cons, viewL_length h2]
theorem callF_run {m : Nat} (hmn : ∀ ds r, g ds = some r → ds.length = m) : ∀ σ H Q, tE X.K F (callF g ta) σ H Q → tCall (spF X.K m g) [] E0 (tAs X.K F ta) σ H Q := fun σ H Q ⟨G, ρ, φ, ts, r, ρ', I, hf, k⟩ => by
  unfold callF at hf
  obtain ⟨⟨rs, ρ1⟩, h1, hf⟩ := Option.bind_eq_some_iff.mp hf
  obtain ⟨ds, h2, hf⟩ := Option.bind_eq_some_iff.mp hf
  obtain ⟨r', h3, hf⟩ := Option.bind_eq_some_iff.mp hf
  simp only at h2 hf
  split at hf
  · rename_i hfl
    cases hf
    refine ⟨G, ρ, φ, ts, rs, _, I, h1, fun G1 H1 φ1 hs e1 I1 => ?_⟩
    subst e1
    have hm : ∀ h ∈ hs, h ∈ hs.reverse ++ ts := fun h hh => List.mem_append_left _ (List.mem_reverse.mpr hh)
    have J := I1.dropN
    rw [List.append_nil]
    refine ⟨by rw [List.length_map, ← hmn _ _ h3, viewL_length h2, List.length_map], wide G1 H1 (Prv φ1 hs), ds, _, wide_in I1.gh, I1.wideL hm (fun h q => q) h2, h3, fun G2 H2 v fp l1 l2 l3 nw rr fr hres => ?_⟩
    have pN : ∀ {a}, Prv φ1 hs a → G1 a = none := fun q => (I1.prvOf hm q).1
    have l4 : Le G1 (narrow G2 (Prv φ1 hs)) := fun a o q => by
      have np : ¬ Prv φ1 hs a := fun z => by rw [pN z] at q; cases q
      rw [narrow_out np]
      exact l2 a o (wide_le a o q)
    have hidden : ∀ a, G1 a = none → H1 a ≠ none → narrow G2 (Prv φ1 hs) a = none := fun a q1 q2 => by
      by_cases z : Prv φ1 hs a
      · exact narrow_in z
      · rw [narrow_out z]
        exact nw a q2 (wide_none q1 z)
    have I2 : Fm X.K F (narrow G2 (Prv φ1 hs)) H2 σ ρ' φ1 ts := J.grow l4 (fun a o q => l1 a o (narrow_le a o q))
      (fun a q1 q2 => by
        cases z : H1 a with
        | none => exact absurd z q2
        | some o => exact l3 a o z)
      (fun i a ha => hidden a (J.ph i a ha).1 (J.ph i a ha).2.1) (fun t ht a ha => hidden a (J.tp t ht a ha).1 ((J.tm t ht).there a ha))
      (fun a q1 q2 => by
        have g1 := J.nw a q1 q2
        by_cases z : a ∈ F.M0
        · exact hidden a g1 (J.m0 a z)
        · cases q : F.H0 a with
          | none => exact absurd q q1
          | some o => exact hidden a g1 (by rw [J.h0 a o q z]; simp))
    have tupN : ∀ a xs, SqT X.K G2 a xs → SqT X.K (narrow G2 (Prv φ1 hs)) a xs := fun a xs q => by
      have np : ∀ o, G2 a = some o → (∀ xs, o ≠ .lst xs) → (∀ xs, o ≠ .dK xs) → (∀ xs, o ≠ .dT xs) → ¬ Prv φ1 hs a := fun o q1 n1 n2 n3 z => by
        rcases I1.prvKind hm (viewL_live h2) z with ⟨ys, hy⟩ | ⟨ys, hy⟩ | ⟨ys, hy⟩
        · have := l3 a _ hy; rw [l1 a o q1] at this; exact n1 _ (Option.some.inj this)
        · have := l3 a _ hy; rw [l1 a o q1] at this; exact n2 _ (Option.some.inj this)
        · have := l3 a _ hy; rw [l1 a o q1] at this; exact n3 _ (Option.some.inj this)
      rcases q with (q | ⟨o, q⟩) | q
      · exact .inl (.inl (by rw [narrow_out (np _ q (fun _ => nofun) (fun _ => nofun) fun _ => nofun)]; exact q))
      · exact .inl (.inr ⟨o, by rw [narrow_out (np _ q (fun _ => nofun) (fun _ => nofun) fun _ => nofun)]; exact q⟩)
      · exact .inr q
    refine k _ H2 φ1 v fp (I2.push (((rr.flat tupN hfl)).into hres) fun a ha => ?_)
    have hfr := (fr a ha).1
    obtain ⟨f0, f1, f2, f3⟩ := J.fresh hfr
    refine ⟨?_, f0, f2, f3⟩
    by_cases z : Prv φ1 hs a
    · exact narrow_in z
    · rw [narrow_out z]; exact (fr a ha).2
  · cases hf
theorem c_call {m : Nat} (C : CtxOk X) (D : FnG X.prog X.w X.K X.mg X.base k f fd ps (spF X.K m g)) (hmn : ∀ ds r, g ds = some r → ds.length = m) (hr : Room k X.A) (hg : Gl X x) (hm : X.mg x = some (.ref f)) (hk : PySem.W.keepIn X.K (.ref f) = true) (hb : Binds X.K fd ps [])
    (ha : DAs X F (e :: es) ta) (hdb : (x == ("__debug__" : Str)) = false := by decide) (he : starEach (e :: es) X.env = (false, eval e X.env) :: starEach es X.env := by rfl) (hpl : (backTo pos (starEach es X.env)).any (·.1) = false := by rfl) :
    DE X F (.Call (.Name x p) (e :: es) [] pos) (callF g ta) := pe_imp (pe_callG C D hr hg hm hk hb ha hdb he hpl) (callF_run hmn)
theorem frozeR_length : ∀ {rs : List S} {ρ ρ' : Env} {ds : List PyData}, frozeR rs ρ = some (ds, ρ') → ds.length = rs.length
  | [], _, _, _, e => by cases e; rfl
  | r :: rs, ρ, ρ', ds, e => by
    simp only [frozeR] at e
    obtain ⟨⟨d, ρ1⟩, h1, e⟩ := Option.bind_eq_some_iff.mp e
    obtain ⟨⟨ds', ρ2⟩, h2, e⟩ := Option.map_eq_some_iff.mp e
    cases e
    rw [List.length_cons, List.length_cons, frozeR_length h2]
theorem callFz_run {m : Nat} : ∀ σ H Q, tE X.K F (callFz g ta) σ H Q → (∀ ds r, g ds = some r → ds.length = m) → tCall (spF X.K m g) [] E0 (tAs X.K F ta) σ H Q := fun σ H Q ⟨G, ρ, φ, ts, r, ρ', I, hf, k⟩ hmn => by
  unfold callFz at hf
  obtain ⟨⟨rs, ρ1⟩, h1, hf⟩ := Option.bind_eq_some_iff.mp hf
  obtain ⟨⟨ds, ρ2⟩, h2, hf⟩ := Option.bind_eq_some_iff.mp hf
  obtain ⟨r', h3, hf⟩ := Option.map_eq_some_iff.mp hf
  cases hf
  refine ⟨G, ρ, φ, ts, rs, _, I, h1, fun G1 H1 φ1 hs e1 I1 => ?_⟩
  subst e1
  obtain ⟨G2, φ2, I2, r2, l2⟩ := I1.frozeL h2
  rw [List.append_nil]
  refine ⟨by rw [r2.length, hmn _ _ h3], G2, ds, _, I2.gh, r2, h3, fun G3 H3 v fp l3 l4 l5 nw rr fr hres => ?_⟩
  have I3 : Fm X.K F G3 H3 σ _ φ2 ts := I2.grow l4 l3
    (fun a q1 q2 => by
      cases z : H1 a with
      | none => exact absurd z q2
      | some o => exact l5 a o z)
    (fun i a ha => nw a (I2.ph i a ha).2.1 (I2.ph i a ha).1) (fun t ht a ha => nw a ((I2.tm t ht).there a ha) (I2.tp t ht a ha).1)
    (fun a q1 q2 => by
      have g1 := I2.nw a q1 q2
      by_cases z : a ∈ F.M0
      · exact nw a (I2.m0 a z) g1
      · cases q : F.H0 a with
        | none => exact absurd q q1
        | some o => exact nw a (by rw [I2.h0 a o q z]; simp) g1)
  refine k _ H3 φ2 v fp (I3.push (rr.into hres) fun a ha => ?_)
  obtain ⟨f0, f1, f2, f3⟩ := I2.fresh (fr a ha).1
  exact ⟨(fr a ha).2, f0, f2, f3⟩
theorem c_callz {m : Nat} (C : CtxOk X) (D : FnG X.prog X.w X.K X.mg X.base k f fd ps (spF X.K m g)) (hmn : ∀ ds r, g ds = some r → ds.length = m) (hr : Room k X.A) (hg : Gl X x) (hm : X.mg x = some (.ref f)) (hk : PySem.W.keepIn X.K (.ref f) = true) (hb : Binds X.K fd ps [])
    (ha : DAs X F (e :: es) ta) (hdb : (x == ("__debug__" : Str)) = false := by decide) (he : starEach (e :: es) X.env = (false, eval e X.env) :: starEach es X.env := by rfl) (hpl : (backTo pos (starEach es X.env)).any (·.1) = false := by rfl) :
    DE X F (.Call (.Name x p) (e :: es) [] pos) (callFz g ta) := pe_imp (pe_callG C D hr hg hm hk hb ha hdb he hpl) fun σ H Q h => callFz_run σ H Q h hmn
theorem bodyG_len {n m : Nat} {f : SE} : ∀ ds r, bodyG n m f ds = some r → ds.length = m := fun ds r h => by
  unfold bodyG at h
  split at h
  · assumption
  · cases h
end
end Dn
namespace Dn
open PySem PyProof.Rows L2
/-! Part 8: a law's script and its deck; lists changed in place -/

theorem key_mixed (b : Bool) : ¬ ((Sum.inr (ckS b) : Key) = .inr "mixed") := by cases b <;> decide
theorem key_draws (b : Bool) : ¬ ((Sum.inr (ckS b) : Key) = .inr "draws") := by cases b <;> decide
theorem key_md : ¬ ((Sum.inr "mixed" : Key) = .inr "draws") := by decide
theorem dk_cells (st : Deck) (c : Addr) : valV (deckKvs st c) (.inr (ckS st.ck)) = some (.ref c) := valV_pos rfl
theorem dk_mixed (st : Deck) (c : Addr) : valV (deckKvs st c) (.inr "mixed") = some (.int st.mixed) := by
  unfold deckKvs
  rw [valV_neg (key_mixed _), valV_pos rfl]
theorem dk_draws (st : Deck) (c : Addr) : valV (deckKvs st c) (.inr "draws") = some (.int st.draws) := by
  unfold deckKvs
  rw [valV_neg (key_draws _), valV_neg key_md, valV_pos rfl]
theorem dk_put (st : Deck) (c : Addr) (n : Int) : putK (deckKvs st c) (.inr "draws") (.int n) = deckKvs { st with draws := n } c := by
  unfold deckKvs putK
  obtain ⟨b, _, _, _⟩ := st
  cases b <;> rfl

section
variable {K : PySem.W.Frag} {F : Entry} {G H : Hp} {σ : L2.St} {ρ : Env} {φ : Nat → List Addr} {ts : List Hd}
theorem deckAt_of {st : Deck} {i : Nat} (e : ρ[i]? = some (some (.deck st))) : deckAt ρ i = true := by unfold deckAt; rw [e] <;> rfl
/-- the deck in slot i, its objects -/
theorem Fm.deck (I : Fm K F G H σ ρ φ ts) {i : Nat} {st : Deck} (e : ρ[i]? = some (some (.deck st))) : ∃ a c, σ[i]? = some (some (.ref a)) ∧ φ i = [a, c] ∧ a ≠ c ∧ H a = some (.dK (deckKvs st c)) ∧ H c = some (.lst (st.cells.map V.int)) ∧ G a = none ∧ G c = none := by
  obtain ⟨v, h1, a, c, rfl, h2, h3, h4, h5⟩ := I.sl i _ e
  exact ⟨a, c, h1, h2, h3, h4, h5, (I.ph i a (by rw [h2]; exact List.mem_cons_self)).1, (I.ph i c (by rw [h2]; exact List.mem_cons_of_mem _ List.mem_cons_self)).1⟩
/-- the deck's cells or numbers have changed -/
theorem Fm.setDeck {H' : Hp} (I : Fm K F G H σ ρ φ ts) {i : Nat} {st st' : Deck} (e : ρ[i]? = some (some (.deck st))) {a c : Addr} (ef : φ i = [a, c]) (ea : σ[i]? = some (some (.ref a))) (ne : a ≠ c) (kp : ∀ b, b ≠ a → b ≠ c → H' b = H b) (h1 : H' a = some (.dK (deckKvs st' c))) (h2 : H' c = some (.lst (st'.cells.map V.int))) :
    Fm K F G H' σ (ρ.set i (some (.deck st'))) φ ts := by
  have ga := (I.ph i a (by rw [ef]; exact List.mem_cons_self)).1
  have gc := (I.ph i c (by rw [ef]; exact List.mem_cons_of_mem _ List.mem_cons_self)).1
  refine I.upAt i _ (fun _ _ q => q) (fun b u q => ?_) (fun b _ _ hb => ?_) (fun b hb => ?_) (fun j b hb => (I.ph j b hb).1) (fun t ht b hb => (I.tp t ht b hb).1) I.nw ⟨_, ea, a, c, rfl, ef, ne, h1, h2⟩ ?_ (fun _ => nofun)
  · rw [kp b (fun z => by rw [z, ga] at q; cases q) (fun z => by rw [z, gc] at q; cases q)]
    exact I.gh b u q
  · rw [ef] at hb
    exact kp b (fun z => hb (by rw [z]; exact List.mem_cons_self)) (fun z => hb (by rw [z]; exact List.mem_cons_of_mem _ List.mem_cons_self))
  · rw [ef] at hb
    rcases List.mem_cons.mp hb with z | z
    · rw [z, h1]; simp
    · rw [List.mem_singleton.mp z, h2]; simp
  · rw [deckAt_of e] <;> rfl
/-- the list in slot i -/
theorem Fm.slotList (I : Fm K F G H σ ρ φ ts) {i : Nat} {ds : List PyData} (e : ρ[i]? = some (some (.ls ds))) : ∃ a xs, σ[i]? = some (some (.ref a)) ∧ φ i = [a] ∧ H a = some (.lst xs) ∧ ShL K G xs ds ∧ G a = none := by
  obtain ⟨v, h1, a, xs, rfl, h2, h3, h4⟩ := I.sl i _ e
  exact ⟨a, xs, h1, h2, h3, h4, (I.ph i a (by rw [h2]; exact List.mem_cons_self)).1⟩
theorem Fm.setList (I : Fm K F G H σ ρ φ ts) {i : Nat} {ds es : List PyData} (e : ρ[i]? = some (some (.ls ds))) {a : Addr} {ys : List V} (ef : φ i = [a]) (ea : σ[i]? = some (some (.ref a))) (r : ShL K G ys es) :
    Fm K F G (L2.upd H a (.lst ys)) σ (ρ.set i (some (.ls es))) φ ts := by
  have ga := (I.ph i a (by rw [ef]; exact List.mem_cons_self)).1
  have nd : deckAt ρ i = false := by unfold deckAt; rw [e] <;> rfl
  refine I.upAt i _ (fun _ _ q => q) (fun b u q => ?_) (fun b _ _ hb => ?_) (fun b hb => ?_) (fun j b hb => (I.ph j b hb).1) (fun t ht b hb => (I.tp t ht b hb).1) I.nw ⟨_, ea, a, ys, rfl, ef, upd_same, r⟩ (by rw [nd]; rfl) (fun _ => nofun)
  · rw [upd_ne (fun z => by rw [z, ga] at q; cases q)]
    exact I.gh b u q
  · rw [ef] at hb
    exact upd_ne (fun z => hb (by rw [z]; exact List.mem_cons_self))
  · rw [ef] at hb
    rw [List.mem_singleton.mp hb, upd_same]; simp
end

section
variable {X : Cx} {F : Entry} {e : Expr} {es : List Expr} {pos p p1 p2 p3 apos : Pos} {f : EE} {ta : AE} {x : Str} {st : Stmt}
/-! ### the deck -/
def deckOf (ρ : Env) (i : Nat) : Option Deck := match ρ[i]? with
  | some (some (.deck st)) => some st
  | _ => none
theorem deckOf_some {ρ : Env} {i : Nat} {st : Deck} (h : deckOf ρ i = some st) : ρ[i]? = some (some (.deck st)) := by
  unfold deckOf at h
  split at h
  · cases h; assumption
  · cases h
def mixedE (i : Nat) : EE := fun ρ => (deckOf ρ i).map fun st => (.sh (.int st.mixed), ρ)
def drawsE (i : Nat) : EE := fun ρ => (deckOf ρ i).map fun st => (.sh (.int st.draws), ρ)
theorem c_mixed (C : CtxOk X) {i j : Nat} (hs : NoSl (.Constant (.str "mixed") j p2)) (h : PE X (.Name x p1) (tVar i)) : DE X F (.Subscript (.Name x p1) (.Constant (.str "mixed") j p2) pos) (mixedE i) := pe_imp (pe_dget (by have := C.un; omega) h pe_str hs) fun σ H Q ⟨G, ρ, φ, ts, r, ρ', I, hf, k⟩ => by
  obtain ⟨st, h1, hf⟩ := Option.map_eq_some_iff.mp hf
  cases hf
  obtain ⟨a, c, q1, q2, q3, q4, q5, _⟩ := I.deck (deckOf_some h1)
  have g := DGet.k (k := .inr "mixed") q4
  rw [dk_mixed] at g
  exact ⟨_, q1, a, _, rfl, g, k _ _ _ _ [] (I.pushD (.int _))⟩
theorem c_draws (C : CtxOk X) {i j : Nat} (hs : NoSl (.Constant (.str "draws") j p2)) (h : PE X (.Name x p1) (tVar i)) : DE X F (.Subscript (.Name x p1) (.Constant (.str "draws") j p2) pos) (drawsE i) := pe_imp (pe_dget (by have := C.un; omega) h pe_str hs) fun σ H Q ⟨G, ρ, φ, ts, r, ρ', I, hf, k⟩ => by
  obtain ⟨st, h1, hf⟩ := Option.map_eq_some_iff.mp hf
  cases hf
  obtain ⟨a, c, q1, q2, q3, q4, q5, _⟩ := I.deck (deckOf_some h1)
  have g := DGet.k (k := .inr "draws") q4
  rw [dk_draws] at g
  exact ⟨_, q1, a, _, rfl, g, k _ _ _ _ [] (I.pushD (.int _))⟩
def putDrawsS (i : Nat) (f : EE) : SE := fun ρ => (f ρ).bind fun q => match view q.2 q.1 with
  | some (.int n) => (deckOf q.2 i).map fun st => .nx (q.2.set i (some (.deck { st with draws := n })))
  | _ => none
theorem s_draws (C : CtxOk X) {i j : Nat} (h : PE X (.Name x p1) (tVar i)) (hv : DE X F e f) (hs : swapsWith e (some (.Subscript (.Name x p1) (.Constant (.str "draws") j p2) p3)) pos.line X.env = pure false := by rfl) :
    DS X F (.Assign [.Subscript (.Name x p1) (.Constant (.str "draws") j p2) p3] e pos) (putDrawsS i f) := ps_imp (ps_dput (by have := C.un; omega) h pe_str hv hs) fun D σ H ⟨G, ρ, φ, ts, o, I, nb, hf, k⟩ => by
  unfold putDrawsS at hf
  obtain ⟨⟨r, ρ1⟩, h1, hf⟩ := Option.bind_eq_some_iff.mp hf
  simp only at hf
  split at hf
  · rename_i n hn
    obtain ⟨st, h2, hf⟩ := Option.map_eq_some_iff.mp hf
    cases hf
    refine ⟨G, ρ, φ, ts, r, ρ1, I, h1, fun G1 H1 φ1 v fp I1 => ?_⟩
    have hx : v = V.int n := (I1.view I1.head hn).int
    obtain ⟨a, c, q1, q2, q3, q4, q5, _⟩ := I1.deck (deckOf_some h2)
    have pt := DPut.k (k := .inr "draws") (v := V.int n) q4 (by show 3 < sizeLine; decide)
    rw [dk_put] at pt
    refine ⟨_, q1, a, _, rfl, by rw [hx]; exact pt, ?_⟩
    have J := I1.drop.setDeck (st' := { st with draws := n }) (H' := L2.upd H1 a (.dK (deckKvs { st with draws := n } c))) (deckOf_some h2) q2 q1 q3 (fun b hb _ => upd_ne hb) upd_same (by rw [upd_ne (Ne.symm q3)]; exact q5)
    exact k _ _ _ _ J
  · cases hf
theorem shaped_ints (ns : List Int) : SeqAt.shaped (.list (ns.map PyData.int)) = true := by
  have h1 : ∀ ns : List Int, PyData.canLayAll0 (ns.map PyData.int) = true := fun ns => by
    induction ns with
    | nil => rfl
    | cons n ns ih => simp [PyData.canLayAll0, PyData.canLay0, ih]
  have h2 : ∀ ns : List Int, PyData.depthAll (ns.map PyData.int) = 0 := fun ns => by
    induction ns with
    | nil => rfl
    | cons n ns ih => simp [PyData.depthAll, PyData.depth, ih]
  unfold SeqAt.shaped
  simp [PyData.canLay0, PyData.depth, h1 ns, h2 ns]
theorem eqv_nil (ns : List Int) : PyData.eqv (.list (ns.map PyData.int)) (.list []) = ns.isEmpty := by
  cases ns with
  | nil => rfl
  | cons n ns => rfl
def cellsB (i : Nat) : BE := fun ρ => (deckOf ρ i).map fun st => (!st.cells.isEmpty, ρ)
theorem b_cells (C : CtxOk X) {i j : Nat} {z : Str} {b : Bool} (hz : z = ckS b) (hs : NoSl (.Constant (.str z) j p2)) (h : PE X (.Name x p1) (tVar i)) :
    DB X F (.Compare (.Subscript (.Name x p1) (.Constant (.str z) j p2) p3) [.NotEq] [.List [] apos] pos) (fun ρ => (cellsB i ρ).bind fun q => if (deckOf ρ i).map Deck.ck = some b then some q else none) :=
  pt_imp (pt_cmpR (op_neD (by have := C.un; omega)) (pe_dget (by have := C.un; omega) h pe_str hs) (pe_lst pa_nil) (nomark _)) fun σ H Q ⟨G, ρ, φ, ts, r, ρ', I, hf, k⟩ => by
    obtain ⟨q, h1, hf⟩ := Option.bind_eq_some_iff.mp hf
    obtain ⟨st, h2, h1⟩ := Option.map_eq_some_iff.mp h1
    cases h1
    split at hf
    · rename_i hb
      cases hf
      rw [h2] at hb
      have hb' : st.ck = b := Option.some.inj hb
      obtain ⟨a, c, q1, q2, q3, q4, q5, _⟩ := I.deck (deckOf_some h2)
      have g := DGet.k (k := .inr z) q4
      rw [hz, ← hb', dk_cells] at g
      refine ⟨_, q1, a, _, rfl, by rw [hz, ← hb']; exact g, Nat.zero_le _, fun l hl => ?_⟩
      have J := I.newP hl (.lst [])
      have nl : c ≠ l := fun e => by rw [e, hl] at q5; cases q5
      refine ⟨.list (st.cells.map PyData.int), .list [], .lst (SqL.of (by rw [upd_ne nl]; exact q5)) ?_, .lst (SqL.of upd_same) .nil, shaped_ints _, rfl, ?_⟩
      · have : ∀ ns : List Int, DpAll X.K (L2.upd H l (.lst [])) (ns.map V.int) (ns.map PyData.int) := fun ns => by
          induction ns with
          | nil => exact .nil
          | cons n ns ih => exact .cons (.int n) ih
        exact this _
      · rw [eqv_nil]
        exact ⟨_, rfl, k _ _ _ J⟩
    · cases hf
def popCellE (i : Nat) (b : Bool) : EE := fun ρ => (deckOf ρ i).bind fun st => if st.ck = b then match st.cells.getLast? with
    | some n => some (.sh (.int n), ρ.set i (some (.deck { st with cells := st.cells.dropLast })))
    | none => none
  else none
theorem c_popCell (C : CtxOk X) {i j : Nat} {z : Str} {b : Bool} (hz : z = ckS b) (hs : NoSl (.Constant (.str z) j p2)) (h : PE X (.Name x p1) (tVar i))
    (hbase : attributeBase (.Subscript (.Name x p1) (.Constant (.str z) j p2) p3) "pop" X.env (eval (.Subscript (.Name x p1) (.Constant (.str z) j p2) p3) X.env) = eval (.Subscript (.Name x p1) (.Constant (.str z) j p2) p3) X.env := by rfl) (hline : (apos.endLine == pos.line) = true := by rfl) :
    DE X F (.Call (.Attribute (.Subscript (.Name x p1) (.Constant (.str z) j p2) p3) "pop" apos) [] [] pos) (popCellE i b) :=
  pe_imp (pe_bm0 PySem.F.plainAttrs_list PySem.F.slot_list_pop PySem.F.type_list_pop mt_pop (pe_dget (by have := C.un; omega) h pe_str hs) hbase hline) fun σ H Q ⟨G, ρ, φ, ts, r, ρ', I, hf, k⟩ => by
    unfold popCellE at hf
    obtain ⟨st, h2, hf⟩ := Option.bind_eq_some_iff.mp hf
    split at hf
    · rename_i hb
      split at hf
      · rename_i n hn
        cases hf
        obtain ⟨a, c, q1, q2, q3, q4, q5, _⟩ := I.deck (deckOf_some h2)
        have g := DGet.k (k := .inr z) q4
        rw [hz, ← hb, dk_cells] at g
        refine ⟨_, q1, a, .ref c, rfl, by rw [hz, ← hb]; exact g, Or.inl ⟨rfl, _, SqL.of q5⟩, c, _, .int n, rfl, rfl, q5, ?_, ?_⟩
        · rw [← List.getLast?_eq_getElem?, List.getLast?_map, hn] <;> rfl
        · have J := I.setDeck (st' := { st with cells := st.cells.dropLast }) (H' := L2.upd H c (.lst (st.cells.map V.int).dropLast)) (deckOf_some h2) q2 q1 q3 (fun b _ hb => upd_ne hb) (by rw [upd_ne q3]; exact q4) (by rw [upd_same, List.map_dropLast])
          exact k _ _ _ _ [] (J.pushD (.int _))
      · cases hf
    · cases hf
def pushCellE (b : Bool) (ta : AE) : EE := fun ρ => (deckOf ρ 0).bind fun st => if st.ck = b then (ta ρ).bind fun q => (viewL q.2 q.1).bind fun ds => match ds with
    | [.int n] => (deckOf q.2 0).bind fun st' => if st'.ck = b ∧ st'.cells.length < 1000000 then some (.sh .none, q.2.set 0 (some (.deck { st' with cells := st'.cells ++ [n] }))) else none
    | _ => none
  else none
theorem c_pushCell (C : CtxOk X) {i j : Nat} {z : Str} {b : Bool} (hz : z = ckS b) (hs : NoSl (.Constant (.str z) j p2)) (h : PE X (.Name x p1) (tVar 0)) (hM : F.M0 ≠ []) (ha : DAs X F [e] ta)
    (hbase : attributeBase (.Subscript (.Name x p1) (.Constant (.str z) j p2) p3) "append" X.env (eval (.Subscript (.Name x p1) (.Constant (.str z) j p2) p3) X.env) = eval (.Subscript (.Name x p1) (.Constant (.str z) j p2) p3) X.env := by rfl)
    (hfew : ((backTo pos (starEach [e] X.env)).all (fun x => !x.1) && (backToKw pos (keywordEach [] X.env)).all (fun x => x.1.isSome) && decide ([e].length + ([] : List Keyword).length + (if ([] : List Keyword).isEmpty then 0 else 1) < 30)) = true := by rfl)
    (hline : (apos.endLine == pos.line) = true := by rfl) (hst : starEach [e] X.env = (false, eval e X.env) :: starEach [] X.env := by rfl) (hpl : (backTo pos (starEach [] X.env)).any (·.1) = false := by rfl) :
    DE X F (.Call (.Attribute (.Subscript (.Name x p1) (.Constant (.str z) j p2) p3) "append" apos) [e] [] pos) (pushCellE b ta) :=
  pe_imp (pe_bm PySem.F.plainAttrs_list PySem.F.slot_list_append PySem.F.type_list_append mt_append (pe_dget (by have := C.un; omega) h pe_str hs) ha hbase hfew hline hst hpl) fun σ H Q ⟨G, ρ, φ, ts, r, ρ', I, hf, k⟩ => by
    unfold pushCellE at hf
    obtain ⟨st, h2, hf⟩ := Option.bind_eq_some_iff.mp hf
    split at hf
    · rename_i hb
      obtain ⟨⟨rs, ρ1⟩, h3, hf⟩ := Option.bind_eq_some_iff.mp hf
      obtain ⟨ds, h4, hf⟩ := Option.bind_eq_some_iff.mp hf
      simp only at h4 hf
      split at hf
      · rename_i n
        obtain ⟨st', h5, hf⟩ := Option.bind_eq_some_iff.mp hf
        split at hf
        · rename_i hb'
          cases hf
          obtain ⟨a, c, q1, q2, q3, q4, q5, _⟩ := I.deck (deckOf_some h2)
          have g := DGet.k (k := .inr z) q4
          rw [hz, ← hb, dk_cells] at g
          refine ⟨_, q1, a, .ref c, rfl, by rw [hz, ← hb]; exact g, Or.inl ⟨rfl, _, SqL.of q5⟩, G, ρ, φ, ts, rs, ρ1, I, h3, fun G1 H1 φ1 hs1 e1 I1 => ?_⟩
          subst e1
          have hm : ∀ h ∈ hs1, h ∈ hs1.reverse ++ ts := fun h hh => List.mem_append_left _ (List.mem_reverse.mpr hh)
          obtain ⟨v, e2, hv⟩ := shwl1 (I1.viewL hm h4)
          have J := I1.dropN
          obtain ⟨a', c', r1, r2, r3, r4, r5, _⟩ := J.deck (deckOf_some h5)
          have e3 : φ1 0 = φ 0 := (J.md hM).1.trans (I.md hM).1.symm
          rw [r2, q2] at e3
          injection e3 with e4 e5
          injection e5 with e6 _
          subst e4 e6
          refine ⟨c', _, v, rfl, e2, r5, ?_, ?_⟩
          · rw [List.length_map]
            exact Nat.lt_of_lt_of_le hb'.2 line_big
          · rw [hv.int]
            have J2 := J.setDeck (st' := { st' with cells := st'.cells ++ [n] }) (H' := L2.upd H1 c' (.lst (st'.cells.map V.int ++ [.int n]))) (deckOf_some h5) r2 r1 r3 (fun b _ hb => upd_ne hb) (by rw [upd_ne r3]; exact r4) (by rw [upd_same, List.map_append]; rfl)
            exact k _ _ _ _ [] (J2.pushD .non)
        · cases hf
      · cases hf
    · cases hf
end
end Dn
namespace Dn
open PySem PyProof.Rows L2
/-! Part 9: defs with a deck, defs with the script, keywords, methods of lists, zip -/

section
variable {X : Cx} {F : Entry} {e e2 : Expr} {es : List Expr} {pos p p1 p2 p3 apos : Pos} {f g h : EE} {ta : AE} {x : Str}

/-! ### the deck is made -/
def deckE (b : Bool) (f g h : EE) : EE := fun ρ => (f ρ).bind fun q1 => match q1.1 with
  | .ls ds => (intsOf ds).bind fun ns => (g q1.2).bind fun q2 => match q2.1 with
    | .sh (.int m) => (h q2.2).bind fun q3 => match q3.1 with
      | .sh (.int n) => some (.deck ⟨b, ns, m, n⟩, q3.2)
      | _ => none
    | _ => none
  | _ => none
theorem merge_deck (b : Bool) (c : Addr) (ns : List Int) (m n : Int) : mergeK [] [(.inr (ckS b), .ref c), (.inr "mixed", .int m), (.inr "draws", .int n)] = deckKvs ⟨b, ns, m, n⟩ c := by
  cases b <;> rfl
theorem c_deck {b : Bool} {z : Str} (hz : z = ckS b) {j1 j2 j3 : Nat} {e1 e3 : Expr} (h1 : DE X F e1 f) (h2 : DE X F e2 g) (h3 : DE X F e3 h) :
    DE X F (.Dict [some (.Constant (.str z) j1 p1), some (.Constant (.str "mixed") j2 p2), some (.Constant (.str "draws") j3 p3)] [e1, e2, e3] pos) (deckE b f g h) :=
  pe_imp (pe_disp (pps_cons pe_str h1 (pps_cons pe_str h2 (pps_cons pe_str h3 pps_nil))) rfl rfl (by simp) (show 3 ≤ 15 by decide)) fun σ H Q ⟨G, ρ, φ, ts, r, ρ', I, hf, k⟩ => by
    intro d hd
    unfold deckE at hf
    obtain ⟨⟨r1, ρ1⟩, q1, hf⟩ := Option.bind_eq_some_iff.mp hf
    simp only at hf
    split at hf
    · rename_i ds
      obtain ⟨ns, qn, hf⟩ := Option.bind_eq_some_iff.mp hf
      obtain ⟨⟨r2, ρ2⟩, q2, hf⟩ := Option.bind_eq_some_iff.mp hf
      simp only at hf
      split at hf
      · rename_i m
        obtain ⟨⟨r3, ρ3⟩, q3, hf⟩ := Option.bind_eq_some_iff.mp hf
        simp only at hf
        split at hf
        · rename_i n
          cases hf
          obtain ⟨f0, f1, f2, f3⟩ := I.fresh hd
          have I0 : Fm X.K F G (L2.upd H d (.dK [])) σ ρ φ (⟨.ref d, .dk [], [d]⟩ :: ts) := (I.newP hd (.dK [])).push ⟨d, [], rfl, rfl, upd_same, rfl, .nil⟩ fun a ha => by
            rw [List.mem_singleton.mp ha]; exact ⟨f1, f0, f2, f3⟩
          refine ⟨G, ρ, φ, _, _, ρ1, I0, q1, fun G1 H1 φ1 v1 fp1 I1 => ?_⟩
          refine ⟨G1, ρ1, φ1, _, _, ρ2, I1, q2, fun G2 H2 φ2 v2 fp2 I2 => ?_⟩
          refine ⟨G2, ρ2, φ2, _, _, _, I2, q3, fun G3 H3 φ3 v3 fp3 I3 => ?_⟩
          have s3 : v3 = .int n := ShW.int (.sc (I3.head.2 : Sh X.K G3 v3 (.int n)) : ShW X.K G3 H3 v3 (.int n))
          have I4 := I3.drop
          have s2 : v2 = .int m := ShW.int (.sc (I4.head.2 : Sh X.K G3 v2 (.int m)) : ShW X.K G3 H3 v2 (.int m))
          have I5 := I4.drop
          obtain ⟨c, xs, e1, e2, hc, rc⟩ := (I5.head : RelS X.K F.cs σ G3 H3 v1 (.ls ds) fp1)
          obtain ⟨d', ws, e3, e4, hdk, hk, _⟩ := (I5.drop.head : RelS X.K F.cs σ G3 H3 (.ref d) (.dk []) [d])
          have ed : d' = d := (List.cons.inj e4).1.symm
          subst ed
          have ews : ws = [] := by
            cases ws with
            | nil => rfl
            | cons _ _ => cases hk
          subst ews
          subst e1 e2 s2 s3
          rw [intsOf_some qn] at rc
          rw [rc.ints] at hc
          refine ⟨hdk, [(.inr z, .ref c), (.inr "mixed", .int m), (.inr "draws", .int n)], rfl, (show 3 ≤ 15 by decide), ?_⟩
          rw [hz, merge_deck b c ns m n]
          have dne : d' ≠ c := fun z => by rw [z, hc] at hdk; cases hdk
          have pw := List.pairwise_cons.mp I5.tt
          have t1 := I5.tp _ List.mem_cons_self c List.mem_cons_self
          have t2 := I5.tp _ (List.mem_cons_of_mem _ List.mem_cons_self) d' List.mem_cons_self
          have J := I5.drop.drop
          have J2 : Fm X.K F G3 (L2.upd H3 d' (.dK (deckKvs ⟨b, ns, m, n⟩ c))) σ ρ' φ3 ts := by
            have nd : ∀ {a}, a ≠ d' → L2.upd H3 d' (.dK (deckKvs ⟨b, ns, m, n⟩ c)) a = H3 a := fun q => upd_ne q
            refine ⟨fun a u q => ?_, J.g0, fun a u q hm => ?_, fun a hm => ?_, J.nw, J.len, fun i s q => ?_, J.nb, fun i a ha => ?_, J.dj, fun t ht => ?_, J.tp, J.md, J.tt⟩
            · rw [nd (fun z => by rw [z, t2.1] at q; cases q)]; exact J.gh a u q
            · rw [nd (fun z => by rw [z, t2.2.1] at q; cases q)]; exact J.h0 a u q hm
            · by_cases z : a = d'
              · rw [z, upd_same]; simp
              · rw [nd z]; exact J.m0 a hm
            · obtain ⟨w, a1, a2⟩ := J.sl i s q
              exact ⟨w, a1, a2.mono (fun _ _ q => q) fun a ha => nd fun z => t2.2.2 i (by rw [← z]; exact ha)⟩
            · obtain ⟨a1, a2, a3⟩ := J.ph i a ha
              exact ⟨a1, by rw [nd fun z => t2.2.2 i (by rw [← z]; exact ha)]; exact a2, a3⟩
            · exact (J.tm t ht).mono (fun _ _ q => q) fun a ha => nd fun z => (List.pairwise_cons.mp pw.2).1 t ht d' List.mem_cons_self (by rw [← z]; exact ha)
          refine k _ _ _ _ [d', c] (J2.push ⟨d', c, rfl, rfl, dne, upd_same, by rw [upd_ne (Ne.symm dne)]; exact hc⟩ fun a ha => ?_)
          rcases List.mem_cons.mp ha with z | z
          · rw [z]; exact ⟨t2.1, t2.2.1, t2.2.2, fun t ht => (List.pairwise_cons.mp pw.2).1 t ht d' List.mem_cons_self⟩
          · rw [List.mem_singleton.mp z]; exact ⟨t1.1, t1.2.1, t1.2.2, fun t ht => pw.1 t (List.mem_cons_of_mem _ ht) c List.mem_cons_self⟩
        · cases hf
      · cases hf
    · cases hf
/-- script[:n] -/
def scrOf (ρ : Env) (i : Nat) : Option (List Int) := match ρ[i]? with
  | some (some (.scr ns)) => some ns
  | _ => none
theorem scrOf_some {ρ : Env} {i : Nat} {ns : List Int} (h : scrOf ρ i = some ns) : ρ[i]? = some (some (.scr ns)) := by
  unfold scrOf at h
  split at h
  · cases h; assumption
  · cases h
def cutScrE (i : Nat) (n : Nat) : EE := fun ρ => (scrOf ρ i).map fun ns => (.ls ((ns.take n).map PyData.int), ρ)
theorem cutV_front (xs : List V) (n : Nat) : cutV xs none (some (n : Int)) = xs.take n := by
  unfold cutV
  rw [HT.sIx_none, HT.sIx_nat]
  simp only [Nat.sub_zero, List.drop_zero]
  rcases Nat.le_total n xs.length with h | h
  · rw [Nat.min_eq_left h]
  · rw [Nat.min_eq_right h, List.take_of_length_le (Nat.le_refl _), List.take_of_length_le h]
theorem c_cutScr {i n j : Nat} (hv : PE X (.Name x p1) (tVar i)) : DE X F (.Subscript (.Name x p1) (.Slice none (some (.Constant (.int (n : Nat)) j p2)) none p3) pos) (cutScrE i n) :=
  pe_imp (pe_slice sl_list hv po_none (po_some pe_int)) fun σ H Q ⟨G, ρ, φ, ts, r, ρ', I, hf, k⟩ => by
    unfold cutScrE at hf
    obtain ⟨ns, h1, hf⟩ := Option.map_eq_some_iff.mp hf
    cases hf
    obtain ⟨v, h2, _, a, rfl, h3⟩ := I.sl i _ (scrOf_some h1)
    refine ⟨_, h2, _, rfl, a, _, rfl, Le.sqL I.gh h3, fun q hq => ?_⟩
    rw [cutV_front, ← List.map_take]
    exact k _ _ _ _ _ (I.newL hq (shl_ints _))

/-! ### defs of a deck -/
def spK (K : PySem.W.Frag) (n : Nat) (g : Deck → List PyData → Option (S × Deck)) : Sp := fun vs H Q _ => vs.length = n + 1 ∧ ∃ G a c st ds r st' us, vs = .ref a :: us ∧ Le G H ∧ a ≠ c ∧ G a = none ∧ G c = none ∧ H a = some (.dK (deckKvs st c)) ∧ H c = some (.lst (st.cells.map V.int)) ∧ ShL K G us ds ∧ g st ds = some (r, st') ∧
  ∀ G' H' v fp, Le G' H' → Le G G' → (∀ b o, H b = some o → b ≠ a → b ≠ c → H' b = some o) → H' a = some (.dK (deckKvs st' c)) → H' c = some (.lst (st'.cells.map V.int)) → (∀ b, H b ≠ none → G b = none → G' b = none) → RelS K [] [] G' H' v r fp → (∀ b ∈ fp, H b = none ∧ G' b = none) → resS r = true → Q v H'
def startK (n : Nat) (st : Deck) (ds : List PyData) : Env := some (.deck st) :: (ds.map (fun d => some (.sh d)) ++ List.replicate (n - 1 - ds.length) none)
def outK (o : Out) : Option (S × Deck) := match o with
  | .rt s ρ => if resS s = true then (deckOf ρ 0).map fun st => (s, st) else none
  | .nx ρ => (deckOf ρ 0).map fun st => (.sh .none, st)
  | _ => none
def bodyK (n m : Nat) (f : SE) (st : Deck) (ds : List PyData) : Option (S × Deck) := if ds.length = m then (f (startK n st ds)).bind outK else none
theorem startK_get {n i : Nat} {st : Deck} {ds : List PyData} {s : S} (h : (startK n st ds)[i]? = some (some s)) : (i = 0 ∧ s = .deck st) ∨ ∃ j d, i = j + 1 ∧ ds[j]? = some d ∧ s = .sh d := by
  unfold startK at h
  cases i with
  | zero => simp at h; exact .inl ⟨rfl, h.symm⟩
  | succ j =>
    rw [List.getElem?_cons_succ] at h
    by_cases hi : j < ds.length
    · rw [List.getElem?_append_left (by simpa using hi), List.getElem?_map] at h
      cases q : ds[j]? with
      | none => rw [q] at h; cases h
      | some d => rw [q] at h; cases h; exact .inr ⟨j, d, rfl, q, rfl⟩
    · rw [List.getElem?_append_right (by simpa using hi)] at h
      have := List.eq_of_mem_replicate (List.mem_of_getElem? h)
      cases this
theorem Fm.entryK {K : PySem.W.Frag} {G H : Hp} {N : List Str} {us : List V} {ds : List PyData} {cs : List Nat} {a c : Addr} {st : Deck} (l : Le G H) (ne : a ≠ c) (ga : G a = none) (gc : G c = none) (ha : H a = some (.dK (deckKvs st c))) (hc : H c = some (.lst (st.cells.map V.int))) (r : ShL K G us ds) (hn : us.length + 1 ≤ N.length) :
    Fm K ⟨H, G, [a, c], cs⟩ G H (L2.start N (.ref a :: us)) (startK N.length st ds) (fun i => if i = 0 then [a, c] else []) [] where
  gh := l
  g0 := fun _ _ q => q
  h0 := fun _ _ q _ => q
  m0 := fun b hb => by
    rcases List.mem_cons.mp hb with z | z
    · rw [z, ha]; simp
    · rw [List.mem_singleton.mp z, hc]; simp
  nw := fun _ _ q => q
  len := by
    unfold L2.start startK
    simp only [List.length_append, List.length_map, List.length_replicate, List.length_cons, r.length]
    omega
  sl := fun i s e => by
    rcases startK_get e with ⟨rfl, rfl⟩ | ⟨j, d, rfl, h1, rfl⟩
    · exact ⟨.ref a, rfl, a, c, rfl, by simp, ne, ha, hc⟩
    · obtain ⟨v, h2, h3⟩ := r.get' h1
      exact ⟨v, start_get (by rw [List.getElem?_cons_succ]; exact h2), by simp, h3⟩
  nb := fun i j e => by
    rcases startK_get e with ⟨_, z⟩ | ⟨_, _, _, _, z⟩ <;> cases z
  ph := fun i b hb => by
    by_cases z : i = 0
    · subst z
      rw [if_pos rfl] at hb
      rcases List.mem_cons.mp hb with y | y
      · rw [y]; exact ⟨ga, by rw [ha]; simp, .inr ⟨List.mem_cons_self, rfl⟩⟩
      · rw [List.mem_singleton.mp y]; exact ⟨gc, by rw [hc]; simp, .inr ⟨List.mem_cons_of_mem _ List.mem_cons_self, rfl⟩⟩
    · rw [if_neg z] at hb; cases hb
  dj := fun i j b hb hb' => by
    by_cases z : i = 0
    · by_cases y : j = 0
      · rw [z, y]
      · rw [if_neg y] at hb'; cases hb'
    · rw [if_neg z] at hb; cases hb
  tm := fun t h => by cases h
  tp := fun t h => by cases h
  md := fun _ => ⟨rfl, rfl⟩
  tt := List.Pairwise.nil
theorem bodyK_run {K : PySem.W.Frag} {N : List Str} {m : Nat} {cs : List Nat} {f : SE} {vs : List V} {H : Hp} {Q : VK} {E : XK} (hm : m + 1 ≤ N.length) (h : spK K m (bodyK N.length m f) vs H Q E) :
    ∃ F, F.cs = cs ∧ F.M0 ≠ [] ∧ tS K F f { nx := fun _ H' => Q .non H', rt := Q } (L2.start N vs) H := by
  obtain ⟨hl, G, a, c, st, ds, r, st', us, rfl, l, ne, ga, gc, ha, hc, sh, hg, k⟩ := h
  unfold bodyK at hg
  split at hg
  · rename_i hd
    obtain ⟨o, h1, h2⟩ := Option.bind_eq_some_iff.mp hg
    have ends : ∀ {G' H' φ' σ' ρ' ts}, Fm K ⟨H, G, [a, c], cs⟩ G' H' σ' ρ' φ' ts → deckOf ρ' 0 = some st' → H' a = some (.dK (deckKvs st' c)) ∧ H' c = some (.lst (st'.cells.map V.int)) := fun {G' H' φ' σ' ρ' ts} I e => by
      obtain ⟨a', c', q1, q2, q3, q4, q5, _⟩ := I.deck (deckOf_some e)
      have e2 := (I.md (by simp)).1
      rw [q2] at e2
      injection e2 with e3 e4
      injection e4 with e5 _
      subst e3 e5
      exact ⟨q4, q5⟩
    have kept : ∀ {G' H' φ' σ' ρ' ts}, Fm K ⟨H, G, [a, c], cs⟩ G' H' σ' ρ' φ' ts → ∀ b o, H b = some o → b ≠ a → b ≠ c → H' b = some o := fun I b o q n1 n2 => I.h0 b o q fun hm => by
      rcases List.mem_cons.mp hm with z | z
      · exact n1 z
      · exact n2 (List.mem_singleton.mp z)
    refine ⟨⟨H, G, [a, c], cs⟩, rfl, by simp, G, _, _, [], o, Fm.entryK l ne ga gc ha hc sh (by rw [sh.length, hd]; exact hm), (fun t ht => by cases ht), h1, ?_⟩
    cases o with
    | nx ρ' =>
      have h2' : (deckOf ρ' 0).map (fun st => (S.sh .none, st)) = some (r, st') := h2
      obtain ⟨sx, e1, e2⟩ := Option.map_eq_some_iff.mp h2'
      cases e2
      intro G' H' φ' σ' I
      obtain ⟨q1, q2⟩ := ends I e1
      exact k G' H' .non [] I.gh I.g0 (kept I) q1 q2 I.nw ⟨rfl, .non⟩ (fun a ha => by cases ha) rfl
    | rt s ρ' =>
      have h2' : (if resS s = true then (deckOf ρ' 0).map fun st => (s, st) else none) = some (r, st') := h2
      split at h2'
      · obtain ⟨sx, e1, e2⟩ := Option.map_eq_some_iff.mp h2'
        cases e2
        intro G' H' φ' σ' v fp I
        obtain ⟨q1, q2⟩ := ends I e1
        exact k G' H' v fp I.gh I.g0 (kept I) q1 q2 I.nw (I.head.out ‹_›) (fun a ha => ⟨(I.tp _ List.mem_cons_self a ha).2.1, (I.tp _ List.mem_cons_self a ha).1⟩) ‹_›
      · cases h2'
    | bk ρ' => cases h2
    | ct ρ' => cases h2
  · cases hg

/-! ### a call of such a def -/
def callK (g : Deck → List PyData → Option (S × Deck)) (ta : AE) : EE := fun ρ => (ta ρ).bind fun p => match p.1 with
  | .bor i :: rs => (deckOf p.2 i).bind fun st => (viewL p.2 rs).bind fun ds => (g st ds).bind fun r => if flatS r.1 = true then some (r.1, p.2.set i (some (.deck r.2))) else none
  | _ => none
theorem view_deck {ρ : Env} {i : Nat} {st : Deck} (h : deckOf ρ i = some st) : view ρ (.bor i) = none := by
  unfold view
  simp only [deckOf_some h]
theorem view_no : ∀ {ρ : Env} {hs : List Hd} {ds : List PyData}, viewL ρ (hs.map Hd.s) = some ds → ∀ h ∈ hs, view ρ h.s ≠ none
  | _, [], _, _, h, hm => by cases hm
  | ρ, u :: hs, ds, e, h, hm => by
    simp only [List.map_cons, viewL] at e
    obtain ⟨d, h1, e⟩ := Option.bind_eq_some_iff.mp e
    obtain ⟨ds', h2, e⟩ := Option.map_eq_some_iff.mp e
    rcases List.mem_cons.mp hm with z | z
    · rw [z, h1]; simp
    · exact view_no h2 h z
theorem callK_run {m : Nat} {gg : Deck → List PyData → Option (S × Deck)} (hmn : ∀ st ds r, gg st ds = some r → ds.length = m) : ∀ σ H Q, tE X.K F (callK gg ta) σ H Q → tCall (spK X.K m gg) [] E0 (tAs X.K F ta) σ H Q := fun σ H Q ⟨G, ρ, φ, ts, r, ρ', I, hf, k⟩ => by
  unfold callK at hf
  obtain ⟨⟨rs0, ρ1⟩, h1, hf⟩ := Option.bind_eq_some_iff.mp hf
  simp only at hf
  split at hf
  · rename_i i rs
    obtain ⟨st, hst, hf⟩ := Option.bind_eq_some_iff.mp hf
    obtain ⟨ds, h2, hf⟩ := Option.bind_eq_some_iff.mp hf
    obtain ⟨⟨r', st'⟩, h3, hf⟩ := Option.bind_eq_some_iff.mp hf
    simp only at h2 hf
    split at hf
    · rename_i hfl
      cases hf
      refine ⟨G, ρ, φ, ts, _, _, I, h1, fun G1 H1 φ1 hs0 e1 I1 => ?_⟩
      obtain ⟨u, hs, rfl, eu, e2⟩ : ∃ u hs, hs0 = u :: hs ∧ u.s = .bor i ∧ hs.map Hd.s = rs := by
        cases hs0 with
        | nil => cases e1
        | cons u hs => exact ⟨u, hs, rfl, (List.cons.inj e1).1, (List.cons.inj e1).2⟩
      subst e2
      have hmA : ∀ h ∈ u :: hs, h ∈ (u :: hs).reverse ++ ts := fun h hh => List.mem_append_left _ (List.mem_reverse.mpr hh)
      have hm : ∀ h ∈ hs, h ∈ (u :: hs).reverse ++ ts := fun h hh => hmA h (List.mem_cons_of_mem _ hh)
      have J := I1.dropN
      obtain ⟨a, c, q1, q2, q3, q4, q5, q6, q7⟩ := J.deck (deckOf_some hst)
      have ru := I1.tm u (hmA u List.mem_cons_self)
      rw [eu] at ru
      have ev : u.v = .ref a := by
        have := ru.2.2
        rw [q1] at this
        exact (Option.some.inj (Option.some.inj this)).symm
      have notP : ∀ b, b ∈ φ1 i → ¬ Prv φ1 hs b := fun b hb ⟨h, hh, z⟩ => by
        rcases z with z | ⟨j, ej, z⟩
        · exact (I1.tp h (hm h hh) b z).2.2 i hb
        · have ij : j = i := J.dj j i b z hb
          subst ij
          have := view_no h2 h hh
          rw [ej, view_deck hst] at this
          exact this rfl
      have ma : a ∈ φ1 i := by rw [q2]; exact List.mem_cons_self
      have mc : c ∈ φ1 i := by rw [q2]; exact List.mem_cons_of_mem _ List.mem_cons_self
      rw [List.append_nil]
      refine ⟨by rw [List.length_map, List.length_cons, ← hmn _ _ _ h3, viewL_length h2, List.length_map], wide G1 H1 (Prv φ1 hs), a, c, st, ds, _, st', hs.map Hd.v, by rw [List.map_cons, ev], wide_in I1.gh, q3, wide_none q6 (notP a ma), wide_none q7 (notP c mc), q4, q5, I1.wideL hm (fun h q => q) h2, h3, fun G2 H2 v fp l1 l2 l3 w1 w2 nw rr fr hres => ?_⟩
      have pN : ∀ {b}, Prv φ1 hs b → G1 b = none := fun q => (I1.prvOf hm q).1
      have l4 : Le G1 (narrow G2 (Prv φ1 hs)) := fun b o q => by
        have np : ¬ Prv φ1 hs b := fun z => by rw [pN z] at q; cases q
        rw [narrow_out np]
        exact l2 b o (wide_le b o q)
      have hidden : ∀ b, G1 b = none → H1 b ≠ none → narrow G2 (Prv φ1 hs) b = none := fun b y1 y2 => by
        by_cases z : Prv φ1 hs b
        · exact narrow_in z
        · rw [narrow_out z]
          exact nw b y2 (wide_none y1 z)
      have kp : ∀ b, G1 b = none → H1 b ≠ none → b ∉ φ1 i → H2 b = H1 b := fun b y1 y2 y3 => by
        cases z : H1 b with
        | none => exact absurd z y2
        | some o => exact l3 b o z (fun e => y3 (by rw [e]; exact ma)) (fun e => y3 (by rw [e]; exact mc))
      have I2 : Fm X.K F (narrow G2 (Prv φ1 hs)) H2 σ (ρ1.set i (some (.deck st'))) φ1 ts := J.upAt i _ l4 (fun b o q => l1 b o (narrow_le b o q)) kp
        (fun b hb => by
          rw [q2] at hb
          rcases List.mem_cons.mp hb with z | z
          · rw [z, w1]; simp
          · rw [List.mem_singleton.mp z, w2]; simp)
        (fun j b hb => hidden b (J.ph j b hb).1 (J.ph j b hb).2.1) (fun t ht b hb => hidden b (J.tp t ht b hb).1 ((J.tm t ht).there b hb))
        (fun b y1 y2 => by
          have g1 := J.nw b y1 y2
          by_cases z : b ∈ F.M0
          · exact hidden b g1 (J.m0 b z)
          · cases q : F.H0 b with
            | none => exact absurd q y1
            | some o => exact hidden b g1 (by rw [J.h0 b o q z]; simp))
        ⟨_, q1, a, c, rfl, q2, q3, w1, w2⟩ (by rw [deckAt_of (deckOf_some hst)]; rfl) (fun _ => nofun)
      have tupN : ∀ b xs, SqT X.K G2 b xs → SqT X.K (narrow G2 (Prv φ1 hs)) b xs := fun b xs q => by
        have np : ∀ o, G2 b = some o → (∀ xs, o ≠ .lst xs) → (∀ xs, o ≠ .dK xs) → (∀ xs, o ≠ .dT xs) → ¬ Prv φ1 hs b := fun o y1 n1 n2 n3 z => by
          have nb : b ∉ φ1 i := fun hb => notP b hb z
          have same := kp b (pN z) (I1.prvOf hm z).2 nb
          have e := l1 b o y1
          rw [same] at e
          rcases I1.prvKind hm (viewL_live h2) z with ⟨ys, hy⟩ | ⟨ys, hy⟩ | ⟨ys, hy⟩
          · rw [hy] at e; exact n1 _ (Option.some.inj e).symm
          · rw [hy] at e; exact n2 _ (Option.some.inj e).symm
          · rw [hy] at e; exact n3 _ (Option.some.inj e).symm
        rcases q with (q | ⟨o, q⟩) | q
        · exact .inl (.inl (by rw [narrow_out (np _ q (fun _ => nofun) (fun _ => nofun) fun _ => nofun)]; exact q))
        · exact .inl (.inr ⟨o, by rw [narrow_out (np _ q (fun _ => nofun) (fun _ => nofun) fun _ => nofun)]; exact q⟩)
        · exact .inr q
      refine k _ H2 φ1 v fp (I2.push ((rr.flat tupN hfl).into hres) fun b hb => ?_)
      obtain ⟨f0, f1, f2, f3⟩ := J.fresh (fr b hb).1
      refine ⟨?_, f0, f2, f3⟩
      by_cases z : Prv φ1 hs b
      · exact narrow_in z
      · rw [narrow_out z]; exact (fr b hb).2
    · cases hf
  · cases hf
theorem c_callK {k m : Nat} {fa : Addr} {fd : FuncData} {ps : List Str} {gg : Deck → List PyData → Option (S × Deck)} (C : CtxOk X) (D : FnG X.prog X.w X.K X.mg X.base k fa fd ps (spK X.K m gg)) (hmn : ∀ st ds r, gg st ds = some r → ds.length = m) (hr : Room k X.A) (hg : Gl X x) (hm : X.mg x = some (.ref fa)) (hk : PySem.W.keepIn X.K (.ref fa) = true) (hb : Binds X.K fd ps [])
    (ha : DAs X F (e :: es) ta) (hdb : (x == ("__debug__" : Str)) = false := by decide) (he : starEach (e :: es) X.env = (false, eval e X.env) :: starEach es X.env := by rfl) (hpl : (backTo pos (starEach es X.env)).any (·.1) = false := by rfl) :
    DE X F (.Call (.Name x p) (e :: es) [] pos) (callK gg ta) := pe_imp (pe_callG C D hr hg hm hk hb ha hdb he hpl) (callK_run hmn)
theorem bodyK_len {n m : Nat} {f : SE} : ∀ st ds r, bodyK n m f st ds = some r → ds.length = m := fun st ds r h => by
  unfold bodyK at h
  split at h
  · assumption
  · cases h

/-! ### defs of the script -/
def spN (K : PySem.W.Frag) (g : List Int → Option S) : Sp := fun vs H Q _ => vs.length = 1 ∧ ∃ G a ns r, vs = [.ref a] ∧ Le G H ∧ SqL K G a (ns.map V.int) ∧ g ns = some r ∧
  ∀ G' H' v fp, Le G' H' → Le G G' → Le H H' → (∀ a, H a ≠ none → G a = none → G' a = none) → RelS K [] [] G' H' v r fp → (∀ a ∈ fp, H a = none ∧ G' a = none) → resS r = true → Q v H'
def startN (n : Nat) (ns : List Int) : Env := some (.scr ns) :: List.replicate (n - 1) none
def bodyN (n : Nat) (f : SE) (ns : List Int) : Option S := (f (startN n ns)).bind outG
theorem bodyN_run {K : PySem.W.Frag} {N : List Str} {cs : List Nat} {f : SE} {vs : List V} {H : Hp} {Q : VK} {E : XK} (hm : 1 ≤ N.length) (h : spN K (bodyN N.length f) vs H Q E) :
    ∃ F, F.cs = cs ∧ tS K F f { nx := fun _ H' => Q .non H', rt := Q } (L2.start N vs) H := by
  obtain ⟨hl, G, a, ns, r, rfl, l, hS, hg, k⟩ := h
  obtain ⟨o, h1, h2⟩ := Option.bind_eq_some_iff.mp hg
  have gets : ∀ {i : Nat} {s : S}, (startN N.length ns)[i]? = some (some s) → i = 0 ∧ s = .scr ns := fun {i s} e => by
    unfold startN at e
    cases i with
    | zero => simp at e; exact ⟨rfl, e.symm⟩
    | succ j =>
      rw [List.getElem?_cons_succ] at e
      have := List.eq_of_mem_replicate (List.mem_of_getElem? e)
      cases this
  have I0 : Fm K ⟨H, G, [], cs⟩ G H (L2.start N [.ref a]) (startN N.length ns) (fun _ => []) [] :=
    { gh := l, g0 := fun _ _ q => q, h0 := fun _ _ q _ => q, m0 := (fun a h => by cases h), nw := fun _ _ q => q
      len := by
        unfold L2.start startN
        simp only [List.length_append, List.length_map, List.length_replicate, List.length_cons, List.length_nil]
        omega
      sl := fun i s e => by
        obtain ⟨rfl, rfl⟩ := gets e
        exact ⟨.ref a, rfl, rfl, a, rfl, hS⟩
      nb := fun i j e => by
        obtain ⟨_, z⟩ := gets e
        cases z
      ph := fun i a h => by cases h
      dj := fun i j a h => by cases h
      tm := fun t h => by cases h
      tp := fun t h => by cases h
      md := fun h => absurd rfl h
      tt := List.Pairwise.nil }
  refine ⟨⟨H, G, [], cs⟩, rfl, G, _, _, [], o, I0, (fun t ht => by cases ht), h1, ?_⟩
  cases o with
  | nx ρ' =>
    cases h2
    intro G' H' φ' σ' I
    exact k G' H' .non [] I.gh I.g0 (fun a o q => I.h0 a o q (by exact List.not_mem_nil)) I.nw ⟨rfl, .non⟩ (fun a ha => by cases ha) rfl
  | rt s ρ' =>
    have h2' : (if resS s = true then some s else none) = some r := h2
    split at h2'
    · cases h2'
      intro G' H' φ' σ' v fp I
      exact k G' H' v fp I.gh I.g0 (fun a o q => I.h0 a o q (by exact List.not_mem_nil)) I.nw (I.head.out ‹_›) (fun a ha => ⟨(I.tp _ List.mem_cons_self a ha).2.1, (I.tp _ List.mem_cons_self a ha).1⟩) ‹_›
    · cases h2'
  | bk ρ' => cases h2
  | ct ρ' => cases h2
def callN (g : List Int → Option S) (i : Nat) : EE := fun ρ => (scrOf ρ i).bind fun ns => (g ns).bind fun r => if flatS r = true then some (r, ρ) else none
theorem c_callN {k i : Nat} {fa : Addr} {fd : FuncData} {ps : List Str} {y : Str} {gg : List Int → Option S} (C : CtxOk X) (D : FnG X.prog X.w X.K X.mg X.base k fa fd ps (spN X.K gg)) (hr : Room k X.A) (hg : Gl X x) (hm : X.mg x = some (.ref fa)) (hk : PySem.W.keepIn X.K (.ref fa) = true) (hb : Binds X.K fd ps [])
    (ha : PE X (.Name y p1) (tVar i)) (hdb : (x == ("__debug__" : Str)) = false := by decide) (he : starEach [.Name y p1] X.env = (false, eval (.Name y p1) X.env) :: starEach [] X.env := by rfl) (hpl : (backTo pos (starEach [] X.env)).any (·.1) = false := by rfl) :
    DE X F (.Call (.Name x p) [.Name y p1] [] pos) (callN gg i) := pe_imp (pe_callG C D hr hg hm hk hb (pa_cons ha pa_nil he) hdb he hpl) fun σ H Q ⟨G, ρ, φ, ts, r, ρ', I, hf, kk⟩ => by
  unfold callN at hf
  obtain ⟨ns, h1, hf⟩ := Option.bind_eq_some_iff.mp hf
  obtain ⟨r', h3, hf⟩ := Option.bind_eq_some_iff.mp hf
  split at hf
  · cases hf
    obtain ⟨v, h2, _, a, rfl, h4⟩ := I.sl i _ (scrOf_some h1)
    refine ⟨_, h2, rfl, G, a, ns, _, rfl, I.gh, h4, h3, fun G3 H3 v fp l3 l4 l5 nw rr fr hres => ?_⟩
    have I3 : Fm X.K F G3 H3 σ _ φ ts := I.grow l4 l3
      (fun a q1 q2 => by
        cases z : H a with
        | none => exact absurd z q2
        | some o => exact l5 a o z)
      (fun i a ha => nw a (I.ph i a ha).2.1 (I.ph i a ha).1) (fun t ht a ha => nw a ((I.tm t ht).there a ha) (I.tp t ht a ha).1)
      (fun a q1 q2 => by
        have g1 := I.nw a q1 q2
        by_cases z : a ∈ F.M0
        · exact nw a (I.m0 a z) g1
        · cases q : F.H0 a with
          | none => exact absurd q q1
          | some o => exact nw a (by rw [I.h0 a o q z]; simp) g1)
    refine kk _ H3 φ v fp (I3.push (rr.into hres) fun a ha => ?_)
    obtain ⟨f0, f1, f2, f3⟩ := I.fresh (fr a ha).1
    exact ⟨(fr a ha).2, f0, f2, f3⟩
  · cases hf
end
end Dn
namespace Dn
open PySem PyProof.Rows L2
/-! Part 10: methods of lists in slots, keywords, zip, enumerate -/
section
variable {X : Cx} {F : Entry} {tg e e2 : Expr} {es : List Expr} {pos p p1 p2 p3 apos : Pos} {f g h : EE} {ta : AE} {x : Str}

/-! ### xs.append(e), xs.extend(e), xs.pop() -/
def lsOf (ρ : Env) (i : Nat) : Option (List PyData) := match ρ[i]? with
  | some (some (.ls ds)) => some ds
  | _ => none
theorem lsOf_some {ρ : Env} {i : Nat} {ds : List PyData} (h : lsOf ρ i = some ds) : ρ[i]? = some (some (.ls ds)) := by
  unfold lsOf at h
  split at h
  · cases h; assumption
  · cases h
/-- the item is shared, the list is looked at behind it -/
def appendE (i : Nat) (ta : AE) : EE := fun ρ => (lsOf ρ i).bind fun _ => (ta ρ).bind fun p => match p.1 with
  | [r] => (froze p.2 r).bind fun q => (lsOf q.2 i).bind fun ds => if ds.length < 1000000 then some (.sh .none, q.2.set i (some (.ls (ds ++ [q.1])))) else none
  | _ => none
theorem list1 {hs : List Hd} {r : S} (h : hs.map Hd.s = [r]) : ∃ u : Hd, hs = [u] ∧ u.s = r := by
  match hs, h with
  | [u], h => exact ⟨u, rfl, by simpa using h⟩
theorem same_ref {v v' : V} {σ : L2.St} {i : Nat} (h : σ[i]? = some (some v)) (h' : σ[i]? = some (some v')) : v = v' := by
  rw [h] at h'
  exact Option.some.inj (Option.some.inj h')
theorem c_append {i : Nat} (hv : PE X (.Name x p1) (tVar i)) (ha : DAs X F [e] ta)
    (hbase : attributeBase (.Name x p1) "append" X.env (eval (.Name x p1) X.env) = eval (.Name x p1) X.env := by rfl)
    (hfew : ((backTo pos (starEach [e] X.env)).all (fun x => !x.1) && (backToKw pos (keywordEach [] X.env)).all (fun x => x.1.isSome) && decide ([e].length + ([] : List Keyword).length + (if ([] : List Keyword).isEmpty then 0 else 1) < 30)) = true := by rfl)
    (hline : (apos.endLine == pos.line) = true := by rfl) (hst : starEach [e] X.env = (false, eval e X.env) :: starEach [] X.env := by rfl) (hpl : (backTo pos (starEach [] X.env)).any (·.1) = false := by rfl) :
    DE X F (.Call (.Attribute (.Name x p1) "append" apos) [e] [] pos) (appendE i ta) :=
  pe_imp (pe_bm PySem.F.plainAttrs_list PySem.F.slot_list_append PySem.F.type_list_append mt_append hv ha hbase hfew hline hst hpl) fun σ H Q ⟨G, ρ, φ, ts, r, ρ', I, hf, k⟩ => by
    unfold appendE at hf
    obtain ⟨ds0, h0, hf⟩ := Option.bind_eq_some_iff.mp hf
    obtain ⟨⟨rs, ρ1⟩, h1, hf⟩ := Option.bind_eq_some_iff.mp hf
    simp only at hf
    split at hf
    · obtain ⟨⟨d, ρ2⟩, h2, hf⟩ := Option.bind_eq_some_iff.mp hf
      obtain ⟨ds, h3, hf⟩ := Option.bind_eq_some_iff.mp hf
      simp only at h2 h3 hf
      split at hf
      · rename_i hz
        cases hf
        obtain ⟨a, xs, q1, q2, q3, q4, _⟩ := I.slotList (lsOf_some h0)
        refine ⟨_, q1, Or.inl ⟨rfl, _, SqL.of q3⟩, G, ρ, φ, ts, _, ρ1, I, h1, fun G1 H1 φ1 hs e1 I1 => ?_⟩
        obtain ⟨u, rfl, rfl⟩ := list1 e1
        have I1' : Fm X.K F G1 H1 σ ρ1 φ1 (u :: ts) := I1
        obtain ⟨G2, φ2, I2, _⟩ := I1'.froze h2
        obtain ⟨a', ys, r1, r2, r3, r4, _⟩ := I2.slotList (lsOf_some h3)
        cases same_ref q1 r1
        refine ⟨a, ys, u.v, rfl, rfl, r3, ?_, ?_⟩
        · rw [r4.length]
          exact Nat.lt_of_lt_of_le hz line_big
        · have J := I2.drop.setList (lsOf_some h3) r2 r1 (r4.append (.cons I2.head.2 .nil))
          exact k _ _ _ _ [] (J.pushD .non)
      · cases hf
    · cases hf
def extendE (i : Nat) (ta : AE) : EE := fun ρ => (lsOf ρ i).bind fun _ => (ta ρ).bind fun p => (viewL p.2 p.1).bind fun vs => match vs with
  | [.list es] => (lsOf p.2 i).bind fun ds => if ds.length + es.length < 1000000 then some (.sh .none, p.2.set i (some (.ls (ds ++ es)))) else none
  | _ => none
theorem c_extend {i : Nat} (hv : PE X (.Name x p1) (tVar i)) (ha : DAs X F [e] ta)
    (hbase : attributeBase (.Name x p1) "extend" X.env (eval (.Name x p1) X.env) = eval (.Name x p1) X.env := by rfl)
    (hfew : ((backTo pos (starEach [e] X.env)).all (fun x => !x.1) && (backToKw pos (keywordEach [] X.env)).all (fun x => x.1.isSome) && decide ([e].length + ([] : List Keyword).length + (if ([] : List Keyword).isEmpty then 0 else 1) < 30)) = true := by rfl)
    (hline : (apos.endLine == pos.line) = true := by rfl) (hst : starEach [e] X.env = (false, eval e X.env) :: starEach [] X.env := by rfl) (hpl : (backTo pos (starEach [] X.env)).any (·.1) = false := by rfl) :
    DE X F (.Call (.Attribute (.Name x p1) "extend" apos) [e] [] pos) (extendE i ta) :=
  pe_imp (pe_bm PySem.F.plainAttrs_list PySem.F.slot_list_extend PySem.F.type_list_extend mt_extend hv ha hbase hfew hline hst hpl) fun σ H Q ⟨G, ρ, φ, ts, r, ρ', I, hf, k⟩ => by
    unfold extendE at hf
    obtain ⟨ds0, h0, hf⟩ := Option.bind_eq_some_iff.mp hf
    obtain ⟨⟨rs, ρ1⟩, h1, hf⟩ := Option.bind_eq_some_iff.mp hf
    obtain ⟨vs, h2, hf⟩ := Option.bind_eq_some_iff.mp hf
    simp only at h2 hf
    split at hf
    · obtain ⟨ds, h3, hf⟩ := Option.bind_eq_some_iff.mp hf
      split at hf
      · rename_i hz
        cases hf
        obtain ⟨a, xs, q1, q2, q3, q4, _⟩ := I.slotList (lsOf_some h0)
        refine ⟨_, q1, Or.inl ⟨rfl, _, SqL.of q3⟩, G, ρ, φ, ts, _, ρ1, I, h1, fun G1 H1 φ1 hs e1 I1 => ?_⟩
        subst e1
        obtain ⟨w, e2, hw⟩ := shwl1 (I1.viewL (fun h hh => List.mem_append_left _ (List.mem_reverse.mpr hh)) h2)
        have J0 := I1.dropN
        obtain ⟨b, zs, rfl, hb, rz⟩ := hw.list I1.gh
        obtain ⟨a', ys, r1, r2, r3, r4, _⟩ := J0.slotList (lsOf_some h3)
        cases same_ref q1 r1
        refine ⟨a, b, ys, zs, rfl, e2, r3, hb, ?_, ?_⟩
        · rw [r4.length, rz.length]
          exact Nat.le_of_lt (Nat.lt_of_lt_of_le hz line_big)
        · have J := J0.setList (lsOf_some h3) r2 r1 (r4.append rz)
          exact k _ _ _ _ [] (J.pushD .non)
      · cases hf
    · cases hf
def popE (i : Nat) : EE := fun ρ => (lsOf ρ i).bind fun ds => match ds.getLast? with
  | some d => some (.sh d, ρ.set i (some (.ls ds.dropLast)))
  | none => none
theorem c_pop {i : Nat} (hv : PE X (.Name x p1) (tVar i)) (hbase : attributeBase (.Name x p1) "pop" X.env (eval (.Name x p1) X.env) = eval (.Name x p1) X.env := by rfl) (hline : (apos.endLine == pos.line) = true := by rfl) :
    DE X F (.Call (.Attribute (.Name x p1) "pop" apos) [] [] pos) (popE i) :=
  pe_imp (pe_bm0 PySem.F.plainAttrs_list PySem.F.slot_list_pop PySem.F.type_list_pop mt_pop hv hbase hline) fun σ H Q ⟨G, ρ, φ, ts, r, ρ', I, hf, k⟩ => by
    unfold popE at hf
    obtain ⟨ds, h0, hf⟩ := Option.bind_eq_some_iff.mp hf
    split at hf
    · rename_i d hd
      cases hf
      obtain ⟨a, xs, q1, q2, q3, q4, _⟩ := I.slotList (lsOf_some h0)
      rw [List.getLast?_eq_getElem?] at hd
      obtain ⟨v, hv1, hv2⟩ := q4.get' hd
      refine ⟨_, q1, Or.inl ⟨rfl, _, SqL.of q3⟩, a, xs, v, rfl, rfl, q3, by rw [q4.length]; exact hv1, ?_⟩
      have J := I.setList (lsOf_some h0) q2 q1 q4.dropLast
      exact k _ _ _ _ [] (J.pushD hv2)
    · cases hf

/-! ### f(k = v, ..) -/
structure KwB (K : PySem.W.Frag) (fd : FuncData) (ps ks : List Str) (sel : List Nat) : Prop where
  to : ∀ (s : Shared) (ws : List Value), K.In s.heap → ws.length = ks.length → ∃ us, sel.mapM (fun i => ws[i]?) = some us ∧ us.length = ps.length ∧ BindsTo s fd ⟨[], ks.zip ws⟩ (ps.zip us)
theorem vals_sel {vs : List V} {ws : List Value} (r : Vals vs ws) : ∀ {sel : List Nat} {us : List Value}, sel.mapM (fun i => ws[i]?) = some us → ∃ xs, sel.mapM (fun i => vs[i]?) = some xs ∧ Vals xs us
  | [], us, h => by
    simp only [List.mapM_nil, pure, Option.some.injEq] at h
    subst h
    exact ⟨[], rfl, .nil⟩
  | i :: sel, us, h => by
    simp only [List.mapM_cons, bind, pure] at h ⊢
    obtain ⟨u, h1, h⟩ := Option.bind_eq_some_iff.mp h
    obtain ⟨us', h2, h⟩ := Option.bind_eq_some_iff.mp h
    cases h
    obtain ⟨xs, h3, h4⟩ := vals_sel r h2
    cases q : vs[i]? with
    | none => rw [r.none_of q] at h1; cases h1
    | some v =>
      obtain ⟨u', h5, h6⟩ := r.get q
      rw [h5] at h1
      cases h1
      exact ⟨v :: xs, by rw [h3]; rfl, .cons h6 h4⟩
/-- keywords' values, from the left -/
abbrev DKs (X : Cx) (F : Entry) (kws : List Keyword) (f : AE) : Prop := PK X kws (tAs X.K F f)
theorem pk_imp {kws : List Keyword} {t t' : TA} (h : PK X kws t) (k : ∀ σ H Q, t' σ H Q → t σ H Q) : PK X kws t' := ⟨fun p pins s σ H Q I w => h.run p pins s σ H Q I (k σ H Q w)⟩
theorem k_nil : DKs X F [] nilA := pk_imp pk_nil fun σ H Q ⟨G, ρ, φ, ts, rs, ρ', I, hf, k⟩ => by
  cases hf
  exact k G H φ [] rfl I
theorem k_cons {nm : Option Str} {kpos : Pos} {kws : List Keyword} (ha : DE X F e f) (hr : DKs X F kws ta) : DKs X F (⟨nm, e, kpos⟩ :: kws) (consA f ta) := pk_imp (pk_cons ha hr) fun σ H Q ⟨G, ρ, φ, ts, rs, ρ', I, hf, k⟩ => by
  unfold consA at hf
  obtain ⟨⟨ra, ρ1⟩, h1, hf⟩ := Option.bind_eq_some_iff.mp hf
  obtain ⟨⟨rs', ρ2⟩, h2, hf⟩ := Option.map_eq_some_iff.mp hf
  cases hf
  refine ⟨G, ρ, φ, ts, ra, ρ1, I, h1, fun G1 H1 φ1 va fpa I1 => ⟨G1, ρ1, φ1, _, rs', _, I1, h2, fun G2 H2 φ2 hs e2 I2 => ?_⟩⟩
  refine k G2 H2 φ2 (⟨va, ra, fpa⟩ :: hs) (by rw [List.map_cons, e2]) ?_
  rw [List.reverse_cons, List.append_assoc]
  exact I2
theorem pe_callKw {k : Nat} {fa : Addr} {fd : FuncData} {ps ks : List Str} {sp : Sp} {sel : List Nat} {kws : List Keyword} {tk : TA} (C : CtxOk X) (D : FnG X.prog X.w X.K X.mg X.base k fa fd ps sp) (hr : Room k X.A) (hg : Gl X x) (hm : X.mg x = some (.ref fa)) (hk : PySem.W.keepIn X.K (.ref fa) = true) (hb : KwB X.K fd ps ks sel)
    (hkw : PK X kws tk) (hall : (backToKw pos (keywordEach kws X.env)).all (·.1.isSome) = true := by rfl) (hks : (backToKw pos (keywordEach kws X.env)).filterMap (·.1) = ks := by rfl)
    (hdb : (x == ("__debug__" : Str)) = false := by decide) (hpl : ((backTo pos (starEach [] X.env)).any (·.1) || (backToKw pos (keywordEach kws X.env)).any (·.1.isNone)) = false := by rfl) :
    PE X (.Call (.Name x p) [] kws pos) (fun σ H Q => tk σ H fun zs H2 => zs.length = ks.length ∧ ∃ xs, sel.mapM (fun i => zs[i]?) = some xs ∧ sp xs H2 Q E0) := by
  constructor
  intro pins s σ H Q I hw
  apply wpAny_Call_Name_kw
  apply ld_glob I hg hm _ hdb
  apply PySem.W.callWith_KW0 (h₀ := X.base) I.ok.mod.kin hk hall _ hpl
  apply thn (hkw.run pos pins s σ H _ I hw)
  rintro ws s1 ⟨zs, H1, I1, rz, hl, xs, hxs, q⟩
  refine ⟨I1.kIn, ?_⟩
  rw [hks]
  obtain ⟨us, e1, e2, bnd⟩ := hb.to s1 ws I1.kIn (by rw [← rz.length]; exact hl)
  obtain ⟨ys, e3, rv⟩ := vals_sel rz e1
  rw [hxs] at e3
  cases e3
  apply wpAny_call
  apply codeAny_mono (D.go X.A X.stack s1 H1 ⟨[], ks.zip ws⟩ us xs Q E0 hr C.gd I1.env0 bnd rv q)
  intro res s' hq
  match res, hq with
  | .ok (.ret u), hq => exact I1.after hq
def callFk (g : List PyData → Option S) (n : Nat) (sel : List Nat) (ta : AE) : EE := fun ρ => (ta ρ).bind fun p => if p.1.length = n then (sel.mapM fun i => p.1[i]?).bind fun rs => (viewL p.2 rs).bind fun ds => (g ds).bind fun r => if flatS r = true then some (r, p.2) else none else none
theorem sel_map {α β : Type} (f : α → β) (l : List α) : ∀ {sel : List Nat} {ys : List β}, sel.mapM (fun i => (l.map f)[i]?) = some ys → ∃ xs, sel.mapM (fun i => l[i]?) = some xs ∧ xs.map f = ys ∧ ∀ x ∈ xs, x ∈ l
  | [], ys, h => by
    simp only [List.mapM_nil, pure, Option.some.injEq] at h
    subst h
    exact ⟨[], rfl, rfl, fun x hx => by cases hx⟩
  | i :: sel, ys, h => by
    simp only [List.mapM_cons, bind, pure] at h ⊢
    obtain ⟨y, h1, h⟩ := Option.bind_eq_some_iff.mp h
    obtain ⟨ys', h2, h⟩ := Option.bind_eq_some_iff.mp h
    cases h
    obtain ⟨xs, h3, h4, h5⟩ := sel_map f l h2
    rw [List.getElem?_map] at h1
    obtain ⟨x, h6, h7⟩ := Option.map_eq_some_iff.mp h1
    refine ⟨x :: xs, by rw [h6, h3]; rfl, by rw [List.map_cons, h7, h4], fun z hz => ?_⟩
    rcases List.mem_cons.mp hz with q | q
    · rw [q]; exact List.mem_of_getElem? h6
    · exact h5 z q
theorem sel_map' {α β : Type} (f : α → β) (l : List α) : ∀ {sel : List Nat} {xs : List α}, sel.mapM (fun i => l[i]?) = some xs → sel.mapM (fun i => (l.map f)[i]?) = some (xs.map f)
  | [], xs, h => by
    simp only [List.mapM_nil, pure, Option.some.injEq] at h
    subst h; rfl
  | i :: sel, xs, h => by
    simp only [List.mapM_cons, bind, pure] at h ⊢
    obtain ⟨y, h1, h⟩ := Option.bind_eq_some_iff.mp h
    obtain ⟨ys', h2, h⟩ := Option.bind_eq_some_iff.mp h
    cases h
    rw [List.getElem?_map, h1, sel_map' f l h2] <;> rfl
/-- what callF_run shows, for chosen holders among those on the way -/
theorem callSel_run {m : Nat} {gg : List PyData → Option S} (hmn : ∀ ds r, gg ds = some r → ds.length = m) {G1 H1 : Hp} {σ : L2.St} {ρ1 : Env} {φ1 : Nat → List Addr} {all ts hs : List Hd} {ds : List PyData} {r : S} {Q : VK} (I1 : Fm X.K F G1 H1 σ ρ1 φ1 (all ++ ts)) (hm : ∀ h ∈ hs, h ∈ all) (h2 : viewL ρ1 (hs.map Hd.s) = some ds) (h3 : gg ds = some r) (hfl : flatS r = true)
    (k : ∀ G' H' φ' v fp, Fm X.K F G' H' σ ρ1 φ' (⟨v, r, fp⟩ :: ts) → Q v H') : spF X.K m gg (hs.map Hd.v) H1 Q E0 := by
  have hm' : ∀ h ∈ hs, h ∈ all ++ ts := fun h hh => List.mem_append_left _ (hm h hh)
  have J : Fm X.K F G1 H1 σ ρ1 φ1 ts := I1.dropN
  refine ⟨by rw [List.length_map, ← hmn _ _ h3, viewL_length h2, List.length_map], wide G1 H1 (Prv φ1 hs), ds, _, wide_in I1.gh, I1.wideL hm' (fun h q => q) h2, h3, fun G2 H2 v fp l1 l2 l3 nw rr fr hres => ?_⟩
  have pN : ∀ {a}, Prv φ1 hs a → G1 a = none := fun q => (I1.prvOf hm' q).1
  have l4 : Le G1 (narrow G2 (Prv φ1 hs)) := fun a o q => by
    have np : ¬ Prv φ1 hs a := fun z => by rw [pN z] at q; cases q
    rw [narrow_out np]
    exact l2 a o (wide_le a o q)
  have hidden : ∀ a, G1 a = none → H1 a ≠ none → narrow G2 (Prv φ1 hs) a = none := fun a q1 q2 => by
    by_cases z : Prv φ1 hs a
    · exact narrow_in z
    · rw [narrow_out z]
      exact nw a q2 (wide_none q1 z)
  have I2 : Fm X.K F (narrow G2 (Prv φ1 hs)) H2 σ ρ1 φ1 ts := J.grow l4 (fun a o q => l1 a o (narrow_le a o q))
    (fun a q1 q2 => by
      cases z : H1 a with
      | none => exact absurd z q2
      | some o => exact l3 a o z)
    (fun i a ha => hidden a (J.ph i a ha).1 (J.ph i a ha).2.1) (fun t ht a ha => hidden a (J.tp t ht a ha).1 ((J.tm t ht).there a ha))
    (fun a q1 q2 => by
      have g1 := J.nw a q1 q2
      by_cases z : a ∈ F.M0
      · exact hidden a g1 (J.m0 a z)
      · cases q : F.H0 a with
        | none => exact absurd q q1
        | some o => exact hidden a g1 (by rw [J.h0 a o q z]; simp))
  have tupN : ∀ a xs, SqT X.K G2 a xs → SqT X.K (narrow G2 (Prv φ1 hs)) a xs := fun a xs q => by
    have np : ∀ o, G2 a = some o → (∀ xs, o ≠ .lst xs) → (∀ xs, o ≠ .dK xs) → (∀ xs, o ≠ .dT xs) → ¬ Prv φ1 hs a := fun o q1 n1 n2 n3 z => by
      rcases I1.prvKind hm' (viewL_live h2) z with ⟨ys, hy⟩ | ⟨ys, hy⟩ | ⟨ys, hy⟩
      · have := l3 a _ hy; rw [l1 a o q1] at this; exact n1 _ (Option.some.inj this)
      · have := l3 a _ hy; rw [l1 a o q1] at this; exact n2 _ (Option.some.inj this)
      · have := l3 a _ hy; rw [l1 a o q1] at this; exact n3 _ (Option.some.inj this)
    rcases q with (q | ⟨o, q⟩) | q
    · exact .inl (.inl (by rw [narrow_out (np _ q (fun _ => nofun) (fun _ => nofun) fun _ => nofun)]; exact q))
    · exact .inl (.inr ⟨o, by rw [narrow_out (np _ q (fun _ => nofun) (fun _ => nofun) fun _ => nofun)]; exact q⟩)
    · exact .inr q
  refine k _ H2 φ1 v fp (I2.push (((rr.flat tupN hfl)).into hres) fun a ha => ?_)
  have hfr := (fr a ha).1
  obtain ⟨f0, f1, f2, f3⟩ := J.fresh hfr
  refine ⟨?_, f0, f2, f3⟩
  by_cases z : Prv φ1 hs a
  · exact narrow_in z
  · rw [narrow_out z]; exact (fr a ha).2
theorem c_callKw {k m : Nat} {fa : Addr} {fd : FuncData} {ps ks : List Str} {sel : List Nat} {kws : List Keyword} {gg : List PyData → Option S} (C : CtxOk X) (D : FnG X.prog X.w X.K X.mg X.base k fa fd ps (spF X.K m gg)) (hmn : ∀ ds r, gg ds = some r → ds.length = m) (hr : Room k X.A) (hg : Gl X x) (hm : X.mg x = some (.ref fa)) (hk : PySem.W.keepIn X.K (.ref fa) = true) (hb : KwB X.K fd ps ks sel)
    (hkw : DKs X F kws ta) (hall : (backToKw pos (keywordEach kws X.env)).all (·.1.isSome) = true := by rfl) (hks : (backToKw pos (keywordEach kws X.env)).filterMap (·.1) = ks := by rfl)
    (hdb : (x == ("__debug__" : Str)) = false := by decide) (hpl : ((backTo pos (starEach [] X.env)).any (·.1) || (backToKw pos (keywordEach kws X.env)).any (·.1.isNone)) = false := by rfl) :
    DE X F (.Call (.Name x p) [] kws pos) (callFk gg ks.length sel ta) :=
  pe_imp (pe_callKw (sel := sel) C D hr hg hm hk hb hkw hall hks hdb hpl) fun σ H Q ⟨G, ρ, φ, ts, r, ρ', I, hf, kk⟩ => by
    unfold callFk at hf
    obtain ⟨⟨rs, ρ1⟩, h1, hf⟩ := Option.bind_eq_some_iff.mp hf
    simp only at hf
    split at hf
    · rename_i hl
      obtain ⟨rs', h2, hf⟩ := Option.bind_eq_some_iff.mp hf
      obtain ⟨ds, h3, hf⟩ := Option.bind_eq_some_iff.mp hf
      obtain ⟨r', h4, hf⟩ := Option.bind_eq_some_iff.mp hf
      split at hf
      · rename_i hfl
        cases hf
        refine ⟨G, ρ, φ, ts, rs, _, I, h1, fun G1 H1 φ1 hs e1 I1 => ?_⟩
        subst e1
        obtain ⟨us, e2, e3, e4⟩ := sel_map Hd.s hs h2
        subst e3
        refine ⟨by rw [List.length_map] at hl ⊢; exact hl, us.map Hd.v, sel_map' Hd.v hs e2, ?_⟩
        exact callSel_run hmn I1 (fun h hh => List.mem_reverse.mpr (e4 h hh)) h3 h4 hfl kk
      · cases hf
    · cases hf
end
end Dn
namespace Dn
open PySem PyProof.Rows L2
/-! Part 11: comprehensions in place, zip, the law's end -/
section
variable {X : Cx} {F : Entry} {tg e e2 elt iter : Expr} {es ifs : List Expr} {pos p p1 spos : Pos} {f el : EE} {ta : AE} {x : Str} {scope : Scope} {own : List (Str × Nat)} {it : IE} {g : GE} {tt : BE}
theorem CtxOk.blk (C : CtxOk X) {s : Shared} {H : Hp} {scope : Scope} {cenv : PySem.Env} {fp : List Addr} : CtxOk (X.blk s H scope cenv fp) := ⟨C.calm, C.nd, C.un, C.gd⟩
theorem c_lc (C : CtxOk X) (hvs : ∀ p ∈ own, p.2 ∈ F.cs) (hi : DI X F tg iter it) (ok : BlkOk X.N X.env.scope scope own)
    (hg : ∀ (s : Shared) (H : Hp) (D : Addr) (cl : List (Str × Addr)) (fp : List Addr), DG (Blk X scope s H D cl fp) F tg (own.map (·.2)) g)
    (ht : ∀ (s : Shared) (H : Hp) (D : Addr) (cl : List (Str × Addr)) (fp : List Addr), DTs (Blk X scope s H D cl fp) F ifs tt)
    (he : ∀ (s : Shared) (H : Hp) (D : Addr) (cl : List (Str × Addr)) (fp : List Addr), DE (Blk X scope s H D cl fp) F elt el) (hs : ∀ x, foldedSetIterable iter X.env x = pure x := by intro _; rfl) :
    DE X F (.ListComp elt [⟨tg, iter, ifs, 0⟩] scope pos) (lcE (own.map (·.2)) it g tt el) := pe_imp (pe_lc C.calm C.nd hi ok hg ht he hs) (lc_run hvs)
theorem s_setLc {i : Nat} {y : Str} {py : Pos} (C : CtxOk X) (hy : X.N[i]? = some y) (hyl : X.env.scope.names.lookup y = some .local) (hsw : swapsWith (.ListComp elt [⟨tg, iter, ifs, 0⟩] scope pos) (some (.Name y py)) spos.line X.env = pure true)
    (hvs : ∀ p ∈ own, p.2 ∈ F.cs) (hi : DI X F tg iter it) (ok : BlkOk X.N X.env.scope scope own)
    (hg : ∀ (s : Shared) (H : Hp) (D : Addr) (cl : List (Str × Addr)) (fp : List Addr), DG (Blk X scope s H D cl fp) F tg (own.map (·.2)) g)
    (ht : ∀ (s : Shared) (H : Hp) (D : Addr) (cl : List (Str × Addr)) (fp : List Addr), DTs (Blk X scope s H D cl fp) F ifs tt)
    (he : ∀ (s : Shared) (H : Hp) (D : Addr) (cl : List (Str × Addr)) (fp : List Addr), DE (Blk X scope s H D cl fp) F elt el) (hs : ∀ x, foldedSetIterable iter X.env x = pure x := by intro _; rfl) :
    DS X F (.Assign [.Name y py] (.ListComp elt [⟨tg, iter, ifs, 0⟩] scope pos) spos) (asgS i (lcE (own.map (·.2)) it g tt el)) :=
  ps_imp (ps_setLc (i := i) C.calm C.nd hy hyl hsw hi ok hg ht he hs) fun D σ H h => by
    obtain ⟨G, ρ, φ, ts, r, ρ', I, hf, k⟩ := asg_run D σ H h
    exact lc_run hvs σ H _ ⟨G, ρ, φ, ts, r, ρ', I, hf, k⟩

/-! ### zip of two -/
def zipD (xs ys : List PyData) : List PyData := (xs.zip ys).map fun p => .tuple [p.1, p.2]
def zipI (ta : AE) : IE := fun ρ => (ta ρ).bind fun p => (frozeL p.1 p.2).bind fun q => match q.1 with
  | [.list xs, .list ys] => some (zipD xs ys, q.2)
  | [.tuple xs, .tuple ys] => some (zipD xs ys, q.2)
  | _ => none
theorem zipD_get {xs ys : List PyData} {i : Nat} (h : i < (zipD xs ys).length) : ∃ a b, xs[i]? = some a ∧ ys[i]? = some b ∧ (zipD xs ys)[i]? = some (.tuple [a, b]) := by
  unfold zipD at h ⊢
  rw [List.length_map, List.length_zip] at h
  have h1 : i < xs.length := by omega
  have h2 : i < ys.length := by omega
  exact ⟨xs[i], ys[i], by simp [h1], by simp [h2], by rw [List.getElem?_map, List.getElem?_eq_getElem (by rw [List.length_zip]; omega), List.getElem_zip]; rfl⟩
theorem i_zip {tpos : Pos} {elts : List Expr} {kk : Nat} (hg : Gl X "zip") (hm : X.mg "zip" = none) (ha : DAs X F [e, e2] ta)
    (hs : starEach [e, e2] X.env = (false, eval e X.env) :: starEach [e2] X.env := by rfl) (hpl : (backTo pos (starEach [e2] X.env)).any (·.1) = false := by rfl) :
    DI X F (.Tuple elts kk tpos) (.Call (.Name "zip" p) [e, e2] [] pos) (zipI ta) := pi_imp (RZ.pi_zipA hg hm ha hs hpl) fun σ H R ⟨G, ρ, φ, ts, ds, ρ', I, hf, k⟩ => by
  unfold zipI at hf
  obtain ⟨⟨rs, ρ1⟩, h1, hf⟩ := Option.bind_eq_some_iff.mp hf
  obtain ⟨⟨dd, ρ2⟩, h2, hf⟩ := Option.bind_eq_some_iff.mp hf
  simp only at h2 hf
  split at hf
  · cases hf
    refine ⟨G, ρ, φ, ts, rs, ρ1, I, h1, fun G1 H1 φ1 hs e1 I1 => ?_⟩
    subst e1
    obtain ⟨G2, φ2, I2, r2, l2⟩ := I1.frozeL h2
    revert r2
    generalize hs.map Hd.v = vs
    intro r2
    cases r2 with
    | cons ra rr =>
      cases rr with
      | cons rb rr =>
        cases rr
        cases ra with
        | lst h3 r3 =>
          cases rb with
          | lst h4 r4 =>
            refine ⟨_, _, _, _, rfl, .inl ⟨SqL.of (I2.gh _ _ h3), SqL.of (I2.gh _ _ h4), k G2 H1 φ2 _ I2 ⟨fun i H l hi => ?_, fun i H l hi => ?_, fun i H x H' l hi y => ?_⟩⟩⟩
            · obtain ⟨a, b, q1, q2, _⟩ := zipD_get hi
              obtain ⟨v, q3, _⟩ := r3.get' q1
              obtain ⟨w, q4, _⟩ := r4.get' q2
              exact ⟨_, _, v, w, SqL.of (l _ _ h3), SqL.of (l _ _ h4), q3, q4⟩
            · refine ⟨_, _, SqL.of (l _ _ h3), SqL.of (l _ _ h4), ?_⟩
              unfold zipD at hi
              rw [List.length_map, List.length_zip, ← r3.length, ← r4.length] at hi
              omega
            · obtain ⟨T, v, w, e1, e2, e3, q1, q2⟩ := y
              obtain ⟨a, b, q3, q4, q5⟩ := zipD_get hi
              obtain ⟨d1, z1, z2⟩ := r3.get (q1 _ (SqL.of (l _ _ h3)))
              obtain ⟨d2, z3, z4⟩ := r4.get (q2 _ (SqL.of (l _ _ h4)))
              rw [q3] at z1
              rw [q4] at z3
              cases z1
              cases z3
              exact ⟨_, q5, .inr (.inl ⟨T, _, _, e1, e2, e3, rfl, .cons z2 (.cons z4 .nil)⟩)⟩
  · cases hf
    refine ⟨G, ρ, φ, ts, rs, ρ1, I, h1, fun G1 H1 φ1 hs e1 I1 => ?_⟩
    subst e1
    obtain ⟨G2, φ2, I2, r2, l2⟩ := I1.frozeL h2
    revert r2
    generalize hs.map Hd.v = vs
    intro r2
    cases r2 with
    | cons ra rr =>
      cases rr with
      | cons rb rr =>
        cases rr
        cases ra with
        | tup h3 r3 =>
          cases rb with
          | tup h4 r4 =>
            refine ⟨_, _, _, _, rfl, .inr ⟨Le.sqT I2.gh h3, Le.sqT I2.gh h4, k G2 H1 φ2 _ I2 ⟨fun i H l hi => ?_, fun i H l hi => ?_, fun i H x H' l hi y => ?_⟩⟩⟩
            · obtain ⟨a, b, q1, q2, _⟩ := zipD_get hi
              obtain ⟨v, q3, _⟩ := r3.get' q1
              obtain ⟨w, q4, _⟩ := r4.get' q2
              exact ⟨_, _, v, w, Le.sqT l h3, Le.sqT l h4, q3, q4⟩
            · refine ⟨_, _, Le.sqT l h3, Le.sqT l h4, ?_⟩
              unfold zipD at hi
              rw [List.length_map, List.length_zip, ← r3.length, ← r4.length] at hi
              omega
            · obtain ⟨T, v, w, e1, e2, e3, q1, q2⟩ := y
              obtain ⟨a, b, q3, q4, q5⟩ := zipD_get hi
              obtain ⟨d1, z1, z2⟩ := r3.get (q1 _ (Le.sqT l h3))
              obtain ⟨d2, z3, z4⟩ := r4.get (q2 _ (Le.sqT l h4))
              rw [q3] at z1
              rw [q4] at z3
              cases z1
              cases z3
              exact ⟨_, q5, .inr (.inl ⟨T, _, _, e1, e2, e3, rfl, .cons z2 (.cons z4 .nil)⟩)⟩
  · cases hf
end
end Dn
namespace Dn
open PySem PyProof.Rows L2 PySem.Spec
/-! Part 12: the law's end -/
/-- what the law's call has to show -/
def Told (s0 : Shared) (r : Result) (s' : Shared) : Prop := r = .ok (.ret (.bool true)) ∧ OldK s0.heap s'.heap ∧ s'.os = s0.os ∧ AllBare s'.gens
section
variable {P : Program} {w : World} {K : PySem.W.Frag} {mg : Str → Option Value}
  {k : Nat} {fa sa : Addr} {fd : FuncData} {x : Str} {s0 : Shared} {vs : List Value} {ns : List Int}
/-- the law's promise: it answers True at every script -/
def spTrue (K : PySem.W.Frag) (n : Nat) : Sp := fun us H Q _ => ∃ (a : Addr) (ns : List Int), us = [.ref a] ∧ ns.length ≤ n ∧ SqL K H a (ns.map V.int) ∧ ∀ H', Q (.bl true) H'
/-- entered from a heap that tracks at most the script -/
theorem told_from {mb : Str → Option Value} {n : Nat} {T : Hp}
    (inK : K.In s0.heap) (nsG : s0.heap.Ns mainGlobals mg) (nsB : s0.heap.Ns builtinsNs mb)
    (bt : ∀ y : Str, y ≠ "__name__" → mb y = bootBuiltins y) (free : s0.heap.NoLimit) (gens : s0.gens = #[])
    (obj : s0.heap.get? sa = some { cls := .type "list", data := .seq vs.toArray }) (hl : ns.length ≤ n) (hr : Room k callerA)
    (F : ∀ base : Heap, K.In base → base.Ns mainGlobals mg → FnG P w K mg base k fa fd [x] (spTrue K n))
    (bnd : ∀ (s : Shared) (u : Value), BindsTo s fd ⟨[u], []⟩ [(x, u)])
    (only : Only T) (scr : SqL K T sa (ns.map V.int)) (hok : HOk P w T s0.heap)
    (at_ : ∀ c, T c ≠ none → c = sa) (out : T sa ≠ none → K.lookup sa = none) :
    codeAny (model P w) callerA (.call (.ref fa) ⟨[.ref sa], []⟩) (Told s0) s0 := by
  have hid : ∀ {c : Addr} {z : Obj}, s0.heap.get? c = some z → T c = none →
      (hidT s0.heap T).get? c = some z := fun z1 z2 => hidT_get z1 z2
  have dct : ∀ {c : Addr} {z : Obj} {es : Array DictEntry} {ep : Nat}, s0.heap.get? c = some z →
      z.data = .dict es ep → T c = none := fun {c z es ep} z1 z2 => by
    cases q : T c with
    | none => rfl
    | some u =>
      obtain rfl := at_ c (by rw [q]; simp)
      have z3 := obj.symm.trans z1
      cases z3
      cases (show Data.seq vs.toArray _ = Data.dict es ep from z2)
  have nsT : ∀ {c : Addr} {m : Str → Option Value}, s0.heap.Ns c m → (hidT s0.heap T).Ns c m :=
    fun ⟨z, es, ep, z1, z2, z3⟩ => ⟨z, es, ep, hid z1 (dct z1 z2), z2, z3⟩
  have inT : K.In (hidT s0.heap T) := fun c z z1 => hid (inK c z z1) (by
    cases q : T c with
    | none => rfl
    | some u =>
      obtain rfl := at_ c (by rw [q]; simp)
      rw [out (by rw [q]; simp)] at z1
      cases z1)
  obtain ⟨mc, m1, m2⟩ := free
  have md : Mod K mg (hidT s0.heap T) := ⟨inT, nsT nsG, ⟨mb, nsT nsB, bt⟩, ⟨mc, nsT m1, m2⟩⟩
  have ev : Env0 P w K mg (hidT s0.heap T) callerA [] s0 T :=
    ⟨rfl, md, fun c z q => of_hidT q, Nat.le_of_eq (hidT_size _ _), trivial,
     (fun c q => by cases (show c ∈ ([] : List Addr) from q)), hok, .of_eq gens⟩
  have run := (F _ inT (nsT nsG)).go callerA [] s0 T ⟨[.ref sa], []⟩ [.ref sa] [.ref sa]
    (fun v _ => v = .bl true) (fun _ _ _ => False) hr rfl ev (bnd s0 (.ref sa)) (.cons rfl .nil)
    ⟨sa, ns, rfl, hl, scr, fun _ => rfl⟩
  refine codeAny_mono run fun r s' q => ?_
  match r, q with
  | .error _, q => exact q.elim
  | .ok .next, q => exact q.elim
  | .ok .brk, q => exact q.elim
  | .ok .cont, q => exact q.elim
  | .ok (.ret u), ⟨v, T', o1, o2, o3, o4, o5, o6⟩ =>
    obtain rfl : v = V.bl true := o6
    obtain rfl : u = Value.bool true := o5
    refine ⟨rfl, OldK.of_keep fun c z z1 => ?_, o1, o2⟩
    cases q : T c with
    | none => exact o3.keep c z z1 q (fun q' => by cases (show c ∈ ([] : List Addr) from q')) (by simp)
    | some u =>
      rcases only c with q2 | ⟨ob, xs, q2⟩
      · rw [q2] at q; cases q
      · obtain ⟨z2, _⟩ := hok c _ q2
        obtain ⟨z3, _⟩ := o4 c _ (o3.frzs c ob _ q2)
        rw [z1] at z2
        cases z2
        exact z3
theorem told_law {mb : Str → Option Value} {n : Nat} (hn : n ≤ sizeLine)
    (inK : K.In s0.heap) (nsG : s0.heap.Ns mainGlobals mg) (nsB : s0.heap.Ns builtinsNs mb)
    (bt : ∀ y : Str, y ≠ "__name__" → mb y = bootBuiltins y) (free : s0.heap.NoLimit) (gens : s0.gens = #[])
    (obj : s0.heap.get? sa = some { cls := .type "list", data := .seq vs.toArray }) (hi : IntsAre vs ns)
    (hl : ns.length ≤ n) (hr : Room k callerA)
    (F : ∀ base : Heap, K.In base → base.Ns mainGlobals mg → FnG P w K mg base k fa fd [x] (spTrue K n))
    (bnd : ∀ (s : Shared) (u : Value), BindsTo s fd ⟨[u], []⟩ [(x, u)]) :
    codeAny (model P w) callerA (.call (.ref fa) ⟨[.ref sa], []⟩) (Told s0) s0 := by
  have vl := vals_ints hi
  have ll := hi.length
  have lz := Nat.le_trans hl hn
  cases q : K.lookup sa with
  | some z =>
    have z1 := obj.symm.trans (inK sa z q)
    cases z1
    exact told_from (T := fun _ => none) inK nsG nsB bt free gens obj hl hr F bnd (fun _ => .inl rfl)
      (.inr ⟨_, vs.toArray, _, q, rfl, rfl, rfl, (by rw [List.size_toArray, ll]; exact lz), (by simpa using vl)⟩)
      (fun c u z => by cases (show (none : Option HO) = some u from z)) (fun c z => absurd rfl z) (fun z => absurd rfl z)
  | none =>
    refine told_from (T := fun c => if c = sa then some (.frz { cls := .type "list", data := .seq vs.toArray } (.lst (ns.map V.int))) else none)
      inK nsG nsB bt free gens obj hl hr F bnd (fun c => ?_) (.inl (.inr ⟨_, if_pos rfl⟩)) (fun c u z => ?_) (fun c z => ?_) (fun _ => q)
    · by_cases y : c = sa
      · exact .inr ⟨_, _, if_pos y⟩
      · exact .inl (if_neg y)
    · by_cases y : c = sa
      · have z' := (if_pos y).symm.trans z
        cases z'
        rw [y]
        exact ⟨obj, (by rw [List.length_map]; exact lz), vs, _, vl, obj⟩
      · cases ((if_neg y).symm.trans z)
    · by_cases y : c = sa
      · exact y
      · exact absurd (if_neg y) z
end
/-- the goal that is left behind the head -/
theorem walkG {l : PySem.W.OpenLaw} {n k : Nat} {q : Program} {loose : List Str} {XP : (Str → Option Value) → Heap → Prop}
    {YP : World → Heap → Prop} {d : DefRec} {K : Params → PySem.W.Frag} {x : Str}
    (hn : l.most = some n) (hz : n ≤ sizeLine) (hd : d.params.defaults = []) (hr : Room k callerA)
    (hY : ∀ (w : World) (h : Heap), YP w h → (K w.params).In h)
    (F : ∀ (w : World) (mg : Str → Option Value) (fa : Addr) (h : Heap), (K w.params).In h → h.Ns mainGlobals mg → mg d.name = some (.ref fa) →
      ∃ fd : FuncData, (∀ (s : Shared) (u : Value), BindsTo s fd ⟨[u], []⟩ [(x, u)]) ∧
        ∀ base : Heap, (K w.params).In base → base.Ns mainGlobals mg →
          FnG l.prog w (K w.params) mg base k fa fd [x] (spTrue (K w.params) n)) :
    PySem.W.WalkO q loose XP YP l.row.toRowW d [] (fun f vs => PySem.call f vs) := by
  refine Att.attach_call hn hd ?_
  intro w s00 s0 mg mb fa o pm cd doc sa vs ns G Y h1 h2 h3 hmg hobj hi hl hg
  have inK := hY w _ Y
  obtain ⟨fd, hb, hF⟩ := F w mg fa _ inK G.T.g hmg
  exact told_law hz inK G.T.g G.T.b G.T.builtins G.T.nolimit hg hobj hi hl hr hF hb
/-- from the law's denotation -/
theorem law_true {P : Program} {w : World} {K : PySem.W.Frag} {mg : Str → Option Value} {base : Heap} {k n : Nat} {fa : Addr} {fd : FuncData} {ps : List Str} {g : List Int → Option S}
    (D : FnG P w K mg base k fa fd ps (spN K g)) (h : ∀ ns : List Int, ns.length ≤ n → g ns = some (.sh (.bool true))) (h1 : ps.length = 1) : FnG P w K mg base k fa fd ps (spTrue K n) :=
  ⟨fun vs H Q E ⟨a, ns, z, _⟩ => by rw [z, h1]; rfl,
   fun A outer s H args us vs Q E hr hgd ev bnd vals ⟨a, ns, z, hl, hs, hq⟩ => D.go A outer s H args us vs Q E hr hgd ev bnd vals
    ⟨by rw [z]; rfl, H, a, ns, _, z, fun _ _ q => q, hs, h ns hl, fun G' H' v fp l1 l2 l3 l4 hres l5 l6 => by
      have q : Sh K G' v (.bool true) := hres.2
      cases q
      exact hq H'⟩⟩
end Dn
namespace Dn
open PySem PyProof.Rows L2
/-! Part 13: more operators -/
section
variable {X : Cx} {F : Entry} {a b e : Expr} {pos p : Pos} {fa fb f : EE} {x : Str}
theorem d_ip {g : Int → Int → Int} : OpD X F (ipI g) (gInt0 g) := by
  intro G H σ ρ φ ts x y d e r Q I hx hy hg k
  unfold gInt0 at hg
  split at hg
  · cases hg
    exact ⟨_, _, hx.int, hy.int, k G H φ _ [] (I.pushD (.int _))⟩
  · cases hg
theorem s_incr {i : Nat} {pos' : Pos} (C : CtxOk X) (hi : X.N[i]? = some x) (hx : Loc X.env.scope x) (he : DE X F e f) (hf : X.fn x = true ∨ X.env.scope.names.lookup x = some .local := by first | exact .inl rfl | exact .inr rfl | assumption) :
    DS X F (.AugAssign (.Name x pos') .Add e pos) (augS i (gInt0 fun i j => i + j) f) := s_aug d_ip (ps_aug C.nd hi hx he ip_add hf)
def gPow : PyData → PyData → Option S := gInt (fun i j => decide (0 ≤ j) && decide (j ≤ 1000000) && decide (i.natAbs < 2 ^ 64)) fun i j => i ^ j.toNat
theorem c_pow (ha : DE X F a fa) (hb : DE X F b fb) : DE X F (.BinOp a .Pow b pos) (binE gPow fa fb) := c_bin op_pow (d_int fun i j h => by
  simp only [Bool.and_eq_true, decide_eq_true_eq] at h
  exact ⟨h.1.1, h.1.2, h.2⟩) ha hb
end
end Dn
namespace Dn
open PySem PyProof.Rows L2
section
variable {X : Cx} {F : Entry} {a b e : Expr} {pos p : Pos} {fa fb f : EE} {x : Str}
theorem b_eq (C : CtxOk X) (ha : DE X F a fa) (hb : DE X F b fb) : DB X F (.Compare a [.Eq] [b] pos) (truE (binE (eqS false) fa fb)) := b_cmpR (op_eqG C) d_eq ha hb (nomark _)
theorem b_ne (C : CtxOk X) (ha : DE X F a fa) (hb : DE X F b fb) : DB X F (.Compare a [.NotEq] [b] pos) (truE (binE (eqS true) fa fb)) := b_cmpR (op_neG C) d_ne ha hb (nomark _)
theorem b_lt (ha : DE X F a fa) (hb : DE X F b fb) : DB X F (.Compare a [.Lt] [b] pos) (truE (binE (gIntB fun i j => decide (i < j)) fa fb)) := b_cmpR op_lt d_intB ha hb (nomark _)
theorem b_le (ha : DE X F a fa) (hb : DE X F b fb) : DB X F (.Compare a [.LtE] [b] pos) (truE (binE (gIntB fun i j => decide (i ≤ j)) fa fb)) := b_cmpR op_le d_intB ha hb (nomark _)
theorem b_gt (ha : DE X F a fa) (hb : DE X F b fb) : DB X F (.Compare a [.Gt] [b] pos) (truE (binE (gIntB fun i j => decide (j < i)) fa fb)) := b_cmpR op_gt d_intB ha hb (nomark _)
theorem b_ge (ha : DE X F a fa) (hb : DE X F b fb) : DB X F (.Compare a [.GtE] [b] pos) (truE (binE (gIntB fun i j => decide (j ≤ i)) fa fb)) := b_cmpR op_ge d_intB ha hb (nomark _)
end
end Dn
namespace Dn
open PySem PyProof.Rows L2
theorem c_gint {X : Cx} {F : Entry} {x : Str} {pos : Pos} {i : Int} (hg : Gl X x) (hm : ∃ t, X.mg x = some (.int i t)) (hd : (x == ("__debug__" : Str)) = false := by decide) : DE X F (.Name x pos) (cst (.int i)) := by
  obtain ⟨t, e⟩ := hm
  exact c_of (pe_glob (v := .int i) hg e ⟨t, rfl⟩ hd) fun _ => .int i
end Dn
namespace Dn
open PySem PyProof.Rows L2
/-! Part 14: what is walked, list or tuple; enumerate; in; all, any; slices; stores by place -/
section
variable {X : Cx} {F : Entry} {a b e e2 tg : Expr} {es : List Expr} {pos p p1 p2 p3 : Pos} {fa fb f fi : EE} {ta : AE} {x : Str} {lo hi : Option Expr}
def anyI (f : EE) : IE := fun ρ => (f ρ).bind fun p => (froze p.2 p.1).bind fun q => match q.1 with
  | .list ds => some (ds, q.2)
  | .tuple ds => some (ds, q.2)
  | _ => none
theorem anyI_or {ρ : Dn.Env} {r : List PyData × Dn.Env} (h : anyI f ρ = some r) : seqI f ρ = some r ∨ tupI f ρ = some r := by
  unfold anyI at h
  obtain ⟨q, h1, h⟩ := Option.bind_eq_some_iff.mp h
  obtain ⟨⟨d, ρ2⟩, h2, h⟩ := Option.bind_eq_some_iff.mp h
  unfold seqI tupI
  rw [h1, Option.bind_some, Option.bind_some, h2, Option.bind_some, Option.bind_some]
  simp only at h ⊢
  cases d <;> simp_all
theorem i_any (h : DE X F e f) : DI X F tg e (anyI f) := ⟨fun pins s σ H R I ⟨G, ρ, φ, ts, ds, ρ', J, hf, k⟩ => by
  rcases anyI_or hf with q | q
  · exact (i_list h).run pins s σ H R I ⟨G, ρ, φ, ts, ds, ρ', J, q, k⟩
  · exact (i_tup h).run pins s σ H R I ⟨G, ρ, φ, ts, ds, ρ', J, q, k⟩⟩
/-! ### enumerate of a list -/
def enumD (n : Nat) : List PyData → List PyData
  | [] => []
  | d :: ds => .tuple [.int (n : Nat), d] :: enumD (n + 1) ds
theorem enumD_length : ∀ (ds : List PyData) (n : Nat), (enumD n ds).length = ds.length
  | [], _ => rfl
  | d :: ds, n => by rw [enumD, List.length_cons, List.length_cons, enumD_length ds]
theorem enumD_get : ∀ (ds : List PyData) (n i : Nat), (enumD n ds)[i]? = ds[i]?.map fun d => .tuple [.int ((n + i : Nat) : Int), d]
  | [], _, _ => by simp [enumD]
  | d :: ds, n, 0 => by simp [enumD]
  | d :: ds, n, i + 1 => by
    have := enumD_get ds (n + 1) i
    simp only [enumD, List.getElem?_cons_succ, this]
    congr 1
    funext d
    rw [show n + 1 + i = n + (i + 1) by omega]
def enumI (ta : AE) : IE := fun ρ => (ta ρ).bind fun p => (frozeL p.1 p.2).bind fun q => match q.1 with
  | [.list xs] => some (enumD 0 xs, q.2)
  | _ => none
theorem i_enum {tpos : Pos} {elts : List Expr} {kk : Nat} (hg : Gl X "enumerate") (hm : X.mg "enumerate" = none) (ha : DAs X F [e] ta) (hs : starEach [e] X.env = [(false, eval e X.env)] := by rfl) :
    DI X F (.Tuple elts kk tpos) (.Call (.Name "enumerate" p) [e] [] pos) (enumI ta) := pi_imp (pi_enum hg hm ha hs) fun σ H R ⟨G, ρ, φ, ts, ds, ρ', I, hf, k⟩ => by
  unfold enumI at hf
  obtain ⟨⟨rs, ρ1⟩, h1, hf⟩ := Option.bind_eq_some_iff.mp hf
  obtain ⟨⟨dd, ρ2⟩, h2, hf⟩ := Option.bind_eq_some_iff.mp hf
  simp only at h2 hf
  split at hf
  · cases hf
    refine ⟨G, ρ, φ, ts, rs, ρ1, I, h1, fun G1 H1 φ1 hs e1 I1 => ?_⟩
    subst e1
    obtain ⟨G2, φ2, I2, r2, l2⟩ := I1.frozeL h2
    revert r2
    generalize hs.map Hd.v = vs
    intro r2
    cases r2 with
    | cons ra rr =>
      cases rr
      cases ra with
      | lst h3 r3 =>
        refine ⟨_, _, rfl, SqL.of (I2.gh _ _ h3), k G2 H1 φ2 _ I2 ⟨fun i H l hi => ?_, fun i H l hi => ?_, fun i H x H' l hi y => ?_⟩⟩
        · rw [enumD_length] at hi
          obtain ⟨v, q3, _⟩ := r3.get' (List.getElem?_eq_getElem hi)
          exact ⟨_, v, SqL.of (l _ _ h3), q3⟩
        · rw [enumD_length] at hi
          exact ⟨_, SqL.of (l _ _ h3), by rw [r3.length]; exact hi⟩
        · obtain ⟨T, v, e1, e2, e3, q1⟩ := y
          obtain ⟨d1, z1, z2⟩ := r3.get (q1 _ (SqL.of (l _ _ h3)))
          refine ⟨.tuple [.int (i : Nat), d1], ?_, .inr (.inl ⟨T, _, _, e1, e2, e3, rfl, .cons (.int _) (.cons z2 .nil)⟩)⟩
          rw [enumD_get, z1]
          simp
  · cases hf
/-! ### in, not in -/
def flat0 : PyData → Bool
  | .none => true
  | .bool _ => true
  | .int _ => true
  | .str _ => true
  | _ => false
def eq0 : PyData → PyData → Bool
  | .none, .none => true
  | .bool a, .bool b => a == b
  | .bool a, .int b => (if a then 1 else 0) == b
  | .int a, .bool b => a == (if b then 1 else 0)
  | .int a, .int b => a == b
  | .str a, .str b => a == b
  | _, _ => false
theorem Sh.flatV {K : PySem.W.Frag} {G : Hp} {v : V} {d : PyData} (h : Sh K G v d) (f : flat0 d = true) : L2.flatV v = true := by
  cases h <;> first | rfl | simp [flat0] at f
theorem ShL.flatV {K : PySem.W.Frag} {G : Hp} : ∀ {vs : List V} {ds : List PyData}, ShL K G vs ds → ds.all flat0 = true → vs.all L2.flatV = true
  | _, _, .nil, _ => rfl
  | _, _, .cons h r, f => by
    rw [List.all_cons, Bool.and_eq_true] at f ⊢
    exact ⟨h.flatV f.1, ShL.flatV r f.2⟩
theorem Sh.eqV {K : PySem.W.Frag} {G : Hp} {v w : V} {d e : PyData} (h : Sh K G v d) (h' : Sh K G w e) (f : flat0 d = true) (f' : flat0 e = true) : L2.eqV v w = eq0 d e := by
  cases h <;> cases h' <;> first | rfl | simp [flat0] at f | simp [flat0] at f'
theorem ShL.inV {K : PySem.W.Frag} {G : Hp} {w : V} {e : PyData} (h' : Sh K G w e) (f' : flat0 e = true) : ∀ {vs : List V} {ds : List PyData}, ShL K G vs ds → ds.all flat0 = true → L2.inV w vs = ds.any fun y => eq0 y e
  | _, _, .nil, _ => rfl
  | _, _, .cons h r, f => by
    rw [List.all_cons, Bool.and_eq_true] at f
    have ih := ShL.inV h' f' r f.2
    unfold L2.inV at ih ⊢
    rw [List.any_cons, List.any_cons, ih, h.eqV h' f.1 f']
def inS (neg : Bool) (d : PyData) : PyData → Option S
  | .tuple ds => if (flat0 d && ds.all flat0) = true then some (.sh (.bool (neg != ds.any fun y => eq0 y d))) else none
  | .list ds => if (flat0 d && ds.all flat0) = true then some (.sh (.bool (neg != ds.any fun y => eq0 y d)))
    else if (SeqAt.shaped d && SeqAt.shaped (.list ds)) = true then some (.sh (.bool (neg != ds.any fun z => PyData.eqv z d))) else none
  | _ => none
abbrev rInG (K : PySem.W.Frag) : R2 := fun x y H Q => rIn K false x y H Q ∨ rInD K x y H Q
abbrev rNinG (K : PySem.W.Frag) : R2 := fun x y H Q => rIn K true x y H Q ∨ rNotInD K x y H Q
theorem op_inG (C : CtxOk X) : OpR X (compareOp .In) (rInG X.K) := op_in_seq.or (op_inD (by have := C.un; omega))
theorem op_ninG (C : CtxOk X) : OpR X (compareOp .NotIn) (rNinG X.K) := op_notIn_seq.or (op_notInD (by have := C.un; omega))
theorem in_run {neg : Bool} {G H : Hp} {σ : L2.St} {ρ : Dn.Env} {φ : Nat → List Addr} {ts : List Hd} {x y : V} {d e : PyData} {r : S} {Q : VK} (I : Fm X.K F G H σ ρ φ ts) (hx : ShW X.K G H x d) (hy : ShW X.K G H y e) (hg : inS neg d e = some r)
    (k : ∀ G' H' φ' v fp, Fm X.K F G' H' σ ρ φ' (⟨v, r, fp⟩ :: ts) → Q v H') :
    rIn X.K neg x y H Q ∨ ∃ d' ds, Dp X.K H x d' ∧ Dp X.K H y (.list ds) ∧ SeqAt.shaped d' = true ∧ SeqAt.shaped (.list ds) = true ∧ Q (.bl (neg != ds.any fun z => PyData.eqv z d')) H := by
  unfold inS at hg
  have bb : ∀ b : Bool, (if neg then !b else b) = (neg != b) := fun b => by cases neg <;> cases b <;> rfl
  split at hg
  · rename_i ds
    split at hg
    · cases hg
      rename_i q
      rw [Bool.and_eq_true] at q
      obtain ⟨p, us, rfl, h3, r3⟩ := hy.tup
      have hx' := hx.sh I.gh
      refine .inl ⟨p, us, rfl, .inr (Le.sqT I.gh h3), hx'.flatV q.1, r3.flatV q.2, ?_⟩
      rw [bb, ShL.inV hx' q.1 (r3.mono I.gh) q.2]
      exact k G H φ _ [] (I.pushD (.bl _))
    · cases hg
  · rename_i ds
    obtain ⟨p, us, rfl, h3, r3⟩ := hy.list I.gh
    have hx' := hx.sh I.gh
    split at hg
    · cases hg
      rename_i q
      rw [Bool.and_eq_true] at q
      refine .inl ⟨p, us, rfl, .inl (SqL.of h3), hx'.flatV q.1, r3.flatV q.2, ?_⟩
      rw [bb, ShL.inV hx' q.1 (r3.mono I.gh) q.2]
      exact k G H φ _ [] (I.pushD (.bl _))
    · split at hg
      · cases hg
        rename_i q
        rw [Bool.and_eq_true] at q
        exact .inr ⟨d, ds, shaped_dp hx' q.1, shaped_dp (hy.sh I.gh) q.2, q.1, q.2, k G H φ _ [] (I.pushD (.bl _))⟩
      · cases hg
  · cases hg
theorem d_in : OpD X F (rInG X.K) (inS false) := fun G H σ ρ φ ts x y d e r Q I hx hy hg k => by
  rcases in_run I hx hy hg k with h | ⟨d', ds, h1, h2, h3, h4, h5⟩
  · exact .inl h
  · exact .inr ⟨d', ds, h1, h2, h3, h4, by rw [Bool.false_bne] at h5; exact h5⟩
theorem d_nin : OpD X F (rNinG X.K) (inS true) := fun G H σ ρ φ ts x y d e r Q I hx hy hg k => by
  rcases in_run I hx hy hg k with h | ⟨d', ds, h1, h2, h3, h4, h5⟩
  · exact .inl h
  · exact .inr ⟨d', ds, h1, h2, h3, h4, by rw [Bool.true_bne] at h5; exact h5⟩
end
end Dn
namespace Dn
open PySem PyProof.Rows L2
/-! Part 15: all, any; slices; stores by place; math.comb -/
section
variable {X : Cx} {F : Entry} {a b e e2 tg : Expr} {es : List Expr} {pos p p1 p2 p3 tpos : Pos} {fa fb f fi : EE} {ta : AE} {x : Str} {lo hi : Option Expr}
def boolsOf : List PyData → Option (List Bool)
  | [] => some []
  | .bool b :: ds => (boolsOf ds).map fun bs => b :: bs
  | _ => none
theorem boolsOf_some : ∀ {ds : List PyData} {bs : List Bool}, boolsOf ds = some bs → ds = bs.map PyData.bool
  | [], bs, h => by cases h; rfl
  | .bool b :: ds, bs, h => by
    obtain ⟨cs, h1, rfl⟩ := Option.map_eq_some_iff.mp h
    rw [List.map_cons, ← boolsOf_some h1]
  | .none :: _, _, h => by cases h
  | .int _ :: _, _, h => by cases h
  | .str _ :: _, _, h => by cases h
  | .list _ :: _, _, h => by cases h
  | .tuple _ :: _, _, h => by cases h
  | .dict _ :: _, _, h => by cases h
theorem ShL.bools {K : PySem.W.Frag} {G : Hp} : ∀ {vs : List V} {bs : List Bool}, ShL K G vs (bs.map PyData.bool) → vs = bs.map V.bl
  | _, [], .nil => rfl
  | _, b :: bs, .cons h r => by
    cases h
    rw [ShL.bools r] <;> rfl
def gAll : List PyData → Option S
  | [.list xs] => (boolsOf xs).map fun bs => .sh (.bool (bs.all id))
  | _ => none
def gAny : List PyData → Option S
  | [.list xs] => (boolsOf xs).map fun bs => .sh (.bool (bs.any id))
  | _ => none
theorem ca_all : CaD X F (rAll X.K) gAll := by
  intro G H σ ρ φ ts vs ds r Q I hw hg k
  unfold gAll at hg
  split at hg
  · obtain ⟨ns, h1, h2⟩ := Option.map_eq_some_iff.mp hg
    cases h2
    obtain ⟨v, rfl, h⟩ := shwl1 hw
    obtain ⟨q, us, rfl, h3, r1⟩ := h.list I.gh
    rw [boolsOf_some h1] at r1
    rw [r1.bools] at h3
    exact ⟨_, ns, rfl, SqL.of h3, k _ _ _ _ [] (I.pushD (.bl _))⟩
  · cases hg
theorem ca_any : CaD X F (rAny X.K) gAny := by
  intro G H σ ρ φ ts vs ds r Q I hw hg k
  unfold gAny at hg
  split at hg
  · obtain ⟨ns, h1, h2⟩ := Option.map_eq_some_iff.mp hg
    cases h2
    obtain ⟨v, rfl, h⟩ := shwl1 hw
    obtain ⟨q, us, rfl, h3, r1⟩ := h.list I.gh
    rw [boolsOf_some h1] at r1
    rw [r1.bools] at h3
    exact ⟨_, ns, rfl, SqL.of h3, k _ _ _ _ [] (I.pushD (.bl _))⟩
  · cases hg
/-! ### slices -/
abbrev OE := Dn.Env → Option (Option Int × Dn.Env)
def tO (K : PySem.W.Frag) (F : Entry) (f : OE) : TO := fun σ H Q => ∃ G ρ φ ts r ρ', Fm K F G H σ ρ φ ts ∧ f ρ = some (r, ρ') ∧ ∀ G' H' φ', Fm K F G' H' σ ρ' φ' ts → Q r H'
abbrev DO (X : Cx) (F : Entry) (e : Option Expr) (f : OE) : Prop := PO X e (tO X.K F f)
theorem po_imp {e : Option Expr} {t t' : TO} (h : PO X e t) (k : ∀ σ H Q, t' σ H Q → t σ H Q) : PO X e t' := ⟨fun pins s σ H Q I w => h.run pins s σ H Q I (k σ H Q w)⟩
def noO : OE := fun ρ => some (none, ρ)
def atO (f : EE) : OE := fun ρ => (f ρ).bind fun p => match view p.2 p.1 with | some (.int i) => some (some i, p.2) | _ => none
theorem o_no : DO X F none noO := po_imp po_none fun σ H Q ⟨G, ρ, φ, ts, r, ρ', I, hf, k⟩ => by
  cases hf
  exact k G H φ I
theorem o_at (h : DE X F e f) : DO X F (some e) (atO f) := po_imp (po_some h) fun σ H Q ⟨G, ρ, φ, ts, r, ρ', I, hf, k⟩ => by
  unfold atO at hf
  obtain ⟨⟨s, ρ1⟩, h1, hf⟩ := Option.bind_eq_some_iff.mp hf
  simp only at hf
  split at hf
  · cases hf
    rename_i i hi
    refine ⟨G, ρ, φ, ts, s, ρ', I, h1, fun G1 H1 φ1 v fp I1 => ?_⟩
    exact ⟨i, (I1.view I1.head hi).int, k G1 H1 φ1 I1.drop⟩
  · cases hf
def cutD (xs : List PyData) (lo hi : Option Int) : List PyData := (xs.drop (HT.sIx xs.length 0 lo)).take (HT.sIx xs.length xs.length hi - HT.sIx xs.length 0 lo)
theorem ShL.cut {K : PySem.W.Frag} {G : Hp} {vs : List V} {ds : List PyData} (h : ShL K G vs ds) (lo hi : Option Int) : ShL K G (cutV vs lo hi) (cutD ds lo hi) := by
  unfold cutV cutD
  rw [h.length]
  exact (h.drop _).take _
def gCut (lo hi : Option Int) : PyData → Option S
  | .list xs => some (.ls (cutD xs lo hi))
  | .tuple xs => some (.sh (.tuple (cutD xs lo hi)))
  | _ => none
def cutE (f : EE) (fl fh : OE) : EE := fun ρ => (f ρ).bind fun p => (fl p.2).bind fun l => (fh l.2).bind fun u => (view u.2 p.1).bind fun d => (gCut l.1 u.1 d).map fun r => (r, u.2)
theorem c_cut {fl fh : OE} (he : DE X F e f) (hl : DO X F lo fl) (hh : DO X F hi fh) : DE X F (.Subscript e (.Slice lo hi none p2) pos) (cutE f fl fh) :=
  pe_imp (pe_slice (SlR.or sl_list sl_tupA) he hl hh) fun σ H Q ⟨G, ρ, φ, ts, r, ρ', I, hf, k⟩ => by
    unfold cutE at hf
    obtain ⟨⟨s, ρ1⟩, h1, hf⟩ := Option.bind_eq_some_iff.mp hf
    obtain ⟨⟨l, ρ2⟩, h2, hf⟩ := Option.bind_eq_some_iff.mp hf
    obtain ⟨⟨u, ρ3⟩, h3, hf⟩ := Option.bind_eq_some_iff.mp hf
    obtain ⟨d, h4, hf⟩ := Option.bind_eq_some_iff.mp hf
    obtain ⟨r', h5, h6⟩ := Option.map_eq_some_iff.mp hf
    cases h6
    refine ⟨G, ρ, φ, ts, s, ρ1, I, h1, fun G1 H1 φ1 v fp I1 => ⟨G1, ρ1, φ1, _, l, ρ2, I1, h2, fun G2 H2 φ2 I2 => ⟨G2, ρ2, φ2, _, u, ρ3, I2, h3, fun G3 H3 φ3 I3 => ?_⟩⟩⟩
    have hx := I3.view I3.head h4
    unfold gCut at h5
    split at h5
    · cases h5
      obtain ⟨q, us, rfl, h6, r1⟩ := hx.list I3.gh
      exact .inl ⟨q, us, rfl, SqL.of h6, fun p np => k _ _ φ3 _ _ (I3.drop.newL np (r1.cut l u))⟩
    · cases h5
      obtain ⟨q, us, rfl, h6, r1⟩ := hx.tup
      refine .inr ⟨q, us, rfl, Le.sqT I3.gh h6, fun w => ?_, fun _ p np => k _ _ φ3 _ _ (I3.drop.newT np (r1.cut l u))⟩
      have e : ∀ ys : List PyData, us.length = ys.length → cutD ys l u = ys := fun ys hy => by
        unfold cutD
        rw [← hy, w.1, w.2, List.drop_zero, Nat.sub_zero, hy, List.take_length]
      dsimp only at k
      rw [e _ r1.length] at k
      exact k _ _ φ3 _ [] (I3.drop.pushD (.tup h6 r1))
    · cases h5
/-! ### xs[i] = v, xs[i] op= v: a list in a slot -/
theorem get_list : PGet X (rIxL X.K) := by
  intro pins s σ H x y v u Q I rx ry h
  obtain ⟨p, xs, i, z, rfl, rfl, hq, he, q⟩ := h
  cases rx
  obtain ⟨t, rfl⟩ := ry
  obtain ⟨its, r, pl, hz⟩ := I.list hq
  obtain ⟨j, h1, h2, h3, h4, h5⟩ := atI_get he
  obtain ⟨w, ew, rw'⟩ := r.get h2
  have hl := r.length
  have hn := line63
  have fin : EP X pins σ Q w s := ⟨z, H, I, rw', q⟩
  by_cases h0 : 0 ≤ i
  · have hj : i.toNat = j := by
      rw [seqIndex_of h0 h5] at h1
      exact Option.some.inj h1
    exact wpAny_getItem_list pl.isList h0 (by omega) (by rw [hj]; simpa using ew) fin
  · have hj : (i + (its.toArray.size : Int)).toNat = j := by
      rw [seqIndex_neg (by omega) h4] at h1
      rw [List.size_toArray, ← hl]
      exact Option.some.inj h1
    exact wpAny_getItem_list_neg pl.isList (by omega) (by rw [List.size_toArray] <;> omega) (by omega) (by rw [hj]; simpa using ew) fin
/-- what is on the way goes into place k of the list in slot i -/
def setAt (i : Nat) (k : Int) (d : PyData) (ρ : Dn.Env) : Option Dn.Env := (lsOf ρ i).bind fun ds => (ixN ds.length k).map fun j => ρ.set i (some (.ls (ds.set j d)))
def setIxS (i : Nat) (f fi : EE) : SE := fun ρ => (f ρ).bind fun p => (froze p.2 p.1).bind fun q => (lsOf q.2 i).bind fun _ => (fi q.2).bind fun u => match view u.2 u.1 with
  | some (.int k) => (setAt i k q.1 u.2).map .nx
  | _ => none
theorem setAt_some {i : Nat} {k : Int} {d : PyData} {ρ ρ' : Dn.Env} (h : setAt i k d ρ = some ρ') : ∃ ds j, ρ[i]? = some (some (.ls ds)) ∧ ixN ds.length k = some j ∧ ρ' = ρ.set i (some (.ls (ds.set j d))) := by
  unfold setAt at h
  obtain ⟨ds, h1, h⟩ := Option.bind_eq_some_iff.mp h
  obtain ⟨j, h2, rfl⟩ := Option.map_eq_some_iff.mp h
  exact ⟨ds, j, lsOf_some h1, h2, rfl⟩
theorem s_setIx {i : Nat} {st : Stmt} (h : PS X st (tAsg (tE X.K F f) (gSub (tVar i) (tE X.K F fi) rSetL))) : DS X F st (setIxS i f fi) := ps_imp h fun D σ H ⟨G, ρ, φ, ts, o, I, nb, hf, k⟩ => by
  unfold setIxS at hf
  obtain ⟨⟨r, ρ1⟩, h1, hf⟩ := Option.bind_eq_some_iff.mp hf
  obtain ⟨⟨d, ρ2⟩, h2, hf⟩ := Option.bind_eq_some_iff.mp hf
  obtain ⟨dz, hz, hf⟩ := Option.bind_eq_some_iff.mp hf
  obtain ⟨⟨s, ρ3⟩, h3, hf⟩ := Option.bind_eq_some_iff.mp hf
  simp only at hf hz h2 h3
  split at hf
  · rename_i kk hk
    obtain ⟨ρ4, h4, rfl⟩ := Option.map_eq_some_iff.mp hf
    obtain ⟨ds, j, e1, e2, rfl⟩ := setAt_some h4
    refine ⟨G, ρ, φ, ts, r, ρ1, I, h1, fun G1 H1 φ1 v fp I1 => ?_⟩
    obtain ⟨G2, φ2, I2, l2⟩ := I1.froze h2
    obtain ⟨a, xs, q1, q2, q3, q4, q5⟩ := I2.slotList (lsOf_some hz)
    refine ⟨_, q1, G2, ρ2, φ2, _, s, ρ3, I2, h3, fun G3 H3 φ3 w fp3 I3 => ?_⟩
    have hx := I3.view I3.head hk
    obtain ⟨a', xs', z1, z2, z3, z4, z5⟩ := I3.slotList e1
    rw [q1] at z1
    cases z1
    refine ⟨a, xs', kk, j, rfl, hx.int, z3, by rw [z4.length]; exact e2, ?_⟩
    have hd : Sh X.K G3 v d := (I3.tm _ (List.mem_cons_of_mem _ List.mem_cons_self)).2
    exact k _ _ _ _ (I3.drop.drop.setList e1 z2 q1 (z4.set hd j))
  · cases hf
/-- xs[i] += e, the items ints -/
def augIxS (i : Nat) (gg : Int → Int → Int) (fi f : EE) : SE := fun ρ => (lsOf ρ i).bind fun _ => (fi ρ).bind fun u => match view u.2 u.1 with
  | some (.int k) => (lsOf u.2 i).bind fun ds => match atI ds k with
    | some (.int a) => (f u.2).bind fun p => match view p.2 p.1 with
      | some (.int b) => (setAt i k (.int (gg a b)) p.2).map .nx
      | _ => none
    | _ => none
  | _ => none
theorem s_augIx {i : Nat} {st : Stmt} {gg : Int → Int → Int} (h : PS X st (tAugS (tVar i) (tE X.K F fi) (tE X.K F f) (rIxL X.K) (ipI gg) rSetL)) : DS X F st (augIxS i gg fi f) := ps_imp h fun D σ H ⟨G, ρ, φ, ts, o, I, nb, hf, k⟩ => by
  unfold augIxS at hf
  obtain ⟨dz, hz, hf⟩ := Option.bind_eq_some_iff.mp hf
  obtain ⟨⟨s, ρ1⟩, h1, hf⟩ := Option.bind_eq_some_iff.mp hf
  simp only at hf
  split at hf
  · rename_i kk hk
    obtain ⟨ds, h2, hf⟩ := Option.bind_eq_some_iff.mp hf
    split at hf
    · rename_i a0 ha
      obtain ⟨⟨r, ρ2⟩, h3, hf⟩ := Option.bind_eq_some_iff.mp hf
      simp only at hf
      split at hf
      · rename_i b0 hb
        obtain ⟨ρ4, h4, rfl⟩ := Option.map_eq_some_iff.mp hf
        obtain ⟨ds', j, e1, e2, rfl⟩ := setAt_some h4
        obtain ⟨a, xs, q1, q2, q3, q4, q5⟩ := I.slotList (lsOf_some hz)
        refine ⟨_, q1, G, ρ, φ, ts, s, ρ1, I, h1, fun G1 H1 φ1 v fp I1 => ?_⟩
        have hx := (I1.view I1.head hk).int
        obtain ⟨a', xs', z1, z2, z3, z4, z5⟩ := I1.slotList (lsOf_some h2)
        rw [q1] at z1
        cases z1
        obtain ⟨w, e3, e4⟩ := z4.atI ha
        cases e4
        refine ⟨a, xs', kk, _, rfl, hx, SqL.of z3, e3, G1, ρ1, φ1, _, r, ρ2, I1, h3, fun G2 H2 φ2 y fp2 I2 => ?_⟩
        have hy := (I2.view I2.head hb).int
        refine ⟨a0, b0, rfl, hy, ?_⟩
        obtain ⟨a'', xs'', y1, y2, y3, y4, y5⟩ := I2.slotList e1
        rw [q1] at y1
        cases y1
        refine ⟨a, xs'', kk, j, rfl, hx, y3, by rw [y4.length]; exact e2, ?_⟩
        exact k _ _ _ _ (I2.drop.drop.setList e1 y2 q1 (y4.set (.int _) j))
      · cases hf
    · cases hf
  · cases hf
/-- xs[i], ys[j] = v, w -/
def pairIxS (i j : Nat) (f fi fj : EE) : SE := fun ρ => (f ρ).bind fun p => (froze p.2 p.1).bind fun q => match q.1 with
  | .tuple [d, e] => (lsOf q.2 i).bind fun _ => (fi q.2).bind fun u => match view u.2 u.1 with
    | some (.int k) => (setAt i k d u.2).bind fun ρ1 => (lsOf ρ1 j).bind fun _ => (fj ρ1).bind fun w => match view w.2 w.1 with
      | some (.int l) => (setAt j l e w.2).map .nx
      | _ => none
    | _ => none
  | _ => none
theorem s_pairIx {i j : Nat} {fj : EE} {st : Stmt} (h : PS X st (tAsg (tE X.K F f) (gTup X.K 2 (gCons (gSub (tVar i) (tE X.K F fi) rSetL) (gCons (gSub (tVar j) (tE X.K F fj) rSetL) gNil))))) : DS X F st (pairIxS i j f fi fj) := ps_imp h fun D σ H ⟨G, ρ, φ, ts, o, I, nb, hf, k⟩ => by
  unfold pairIxS at hf
  obtain ⟨⟨r, ρ1⟩, h1, hf⟩ := Option.bind_eq_some_iff.mp hf
  obtain ⟨⟨d, ρ2⟩, h2, hf⟩ := Option.bind_eq_some_iff.mp hf
  simp only at hf h2
  split at hf
  · rename_i d1 d2
    obtain ⟨dz, hz, hf⟩ := Option.bind_eq_some_iff.mp hf
    obtain ⟨⟨s, ρ3⟩, h3, hf⟩ := Option.bind_eq_some_iff.mp hf
    simp only at hf
    split at hf
    · rename_i kk hk
      obtain ⟨ρ4, h4, hf⟩ := Option.bind_eq_some_iff.mp hf
      obtain ⟨ez, gz, hf⟩ := Option.bind_eq_some_iff.mp hf
      obtain ⟨⟨s', ρ5⟩, h5, hf⟩ := Option.bind_eq_some_iff.mp hf
      simp only at hf
      split at hf
      · rename_i ll hll
        obtain ⟨ρ6, h6, rfl⟩ := Option.map_eq_some_iff.mp hf
        obtain ⟨ds, j1, e1, e2, rfl⟩ := setAt_some h4
        obtain ⟨es, j2, e3, e4, rfl⟩ := setAt_some h6
        refine ⟨G, ρ, φ, ts, r, ρ1, I, h1, fun G1 H1 φ1 v fp I1 => ?_⟩
        obtain ⟨G2, φ2, I2, l2⟩ := I1.froze h2
        have hd := I2.head.2
        dsimp only at hd
        generalize v = v0 at hd
        cases hd with
        | tup t1 t2 =>
          rename_i a0 xs0
          cases t2 with
          | cons t3 t4 =>
            rename_i x1 xs1
            cases t4 with
            | cons t5 t6 =>
              rename_i x2 xs2
              cases t6
              refine ⟨a0, [x1, x2], rfl, Le.sqT I2.gh t1, rfl, x1, [x2], rfl, ?_⟩
              have I3 := (I2.drop.pushD t5).pushD (t3)
              obtain ⟨a, xs, q1, q2, q3, q4, q5⟩ := I3.slotList (lsOf_some hz)
              refine ⟨_, q1, G2, ρ2, φ2, _, s, ρ3, I3, h3, fun G3 H3 φ3 w fp3 I4 => ?_⟩
              have hx := I4.view I4.head hk
              obtain ⟨a', xs', z1, z2, z3, z4, z5⟩ := I4.slotList e1
              rw [q1] at z1
              cases z1
              refine ⟨a, xs', kk, j1, rfl, hx.int, z3, by rw [z4.length]; exact e2, ?_⟩
              have hd1 : Sh X.K G3 x1 d1 := (I4.tm _ (List.mem_cons_of_mem _ List.mem_cons_self)).2
              have I5 := I4.drop.drop.setList e1 z2 q1 (z4.set hd1 j1)
              refine ⟨x2, [], rfl, ?_⟩
              obtain ⟨b, ys, y1, y2, y3, y4, y5⟩ := I5.slotList (lsOf_some gz)
              refine ⟨_, y1, _, _, _, _, s', ρ5, I5, h5, fun G6 H6 φ6 w6 fp6 I6 => ?_⟩
              have hx2 := I6.view I6.head hll
              obtain ⟨b', ys', w1, w2, w3, w4, w5⟩ := I6.slotList e3
              rw [y1] at w1
              cases w1
              refine ⟨b, ys', ll, j2, rfl, hx2.int, w3, by rw [w4.length]; exact e4, ?_⟩
              have hd2 : Sh X.K G6 x2 d2 := (I6.tm _ (List.mem_cons_of_mem _ List.mem_cons_self)).2
              exact ⟨rfl, k _ _ _ _ (I6.drop.drop.setList e3 w2 y1 (w4.set hd2 j2))⟩
      · cases hf
    · cases hf
  · cases hf
end
end Dn
namespace Dn
open PySem PySem.W PySem.Calls PyProof.Rows
/-! Part 16: math.comb -/
theorem entry_comb : entryFor table "math.comb" = some Builtin.«math.comb» := entryFor_of_tree (by kernel_rfl)
theorem kind_comb : builtinKind "math.comb" = none := by kernel_rfl
theorem plain_comb : plainId "math.comb" = true := by decide +kernel
theorem args_comb (a b : Value) : argsOk "math.comb" ⟨[a, b], []⟩ := by unfold argsOk; kernel_rfl
def combI (a b : Int) : Int := Builtin.Math.fallingProduct a (min b (a - b)).toNat / Builtin.Math.fallingProduct (min b (a - b)) (min b (a - b)).toNat
theorem run_comb (a : Int) (t : Tok) (b : Int) (u : Tok) (h0 : ¬ a < 0) (h1 : ¬ b < 0) (h2 : ¬ b > a) (h3 : ¬ min b (a - b) > Builtin.Math.maxSsize) (h4 : ¬ min b (a - b) > Builtin.Math.manyFactors) (h5 : ¬ min b (a - b) > 9000) (hsz : (combI a b).natAbs.log2 < bitsLine) :
    Gives (Builtin.«math.comb» ⟨[.int a t, .int b u], []⟩) (.int (combI a b)) :=
  .of_wp fun M A E s Q h => by
    obtain ⟨hp, g, d, tk, os⟩ := s
    wp_walk
    (try (refine wpAny_ite_false (decide_eq_false (Nat.not_le.mpr hsz)) ?_; wp_walk))
    exact ⟨_, rfl, h⟩
open L2
section
variable {X : Cx} {F : Entry}
def combOk (a b : Int) : Bool := decide (0 ≤ b) && decide (b ≤ a) && decide (a ≤ 1000) && decide ((combI a b).natAbs.log2 < 5000)
def rComb : List V → Hp → VK → Prop := fun vs H Q => ∃ a b : Int, vs = [.int a, .int b] ∧ combOk a b = true ∧ Q (.int (combI a b)) H
theorem cr_comb : CallR X (.builtin "math.comb") rComb := by
  intro pins s σ H vs us Q I r h
  obtain ⟨a, b, rfl, hc, q⟩ := h
  obtain ⟨t, u, rfl⟩ := Vals.int2 r
  simp only [combOk, Bool.and_eq_true, decide_eq_true_eq] at hc
  obtain ⟨⟨⟨c1, c2⟩, c3⟩, c4⟩ := hc
  have m1 : min b (a - b) ≤ 1000 := by omega
  have e1 : Builtin.Math.maxSsize = 9223372036854775807 := rfl
  have e2 : Builtin.Math.manyFactors = 20000 := rfl
  have e3 : 5000 ≤ bitsLine := by decide
  exact call_function_meets kind_comb plain_comb entry_comb (args_comb _ _) (run_comb a t b u (by omega) (by omega) (by omega) (by omega) (by omega) (by omega) (by omega)).meets ⟨.int _, H, I.tok _, ⟨_, rfl⟩, q⟩
def gComb : List PyData → Option S
  | [.int a, .int b] => if combOk a b = true then some (.sh (.int (combI a b))) else none
  | _ => none
theorem ca_comb : CaD X F rComb gComb := by
  intro G H σ ρ φ ts vs ds r Q I hw hg k
  unfold gComb at hg
  split at hg
  · split at hg
    · cases hg
      obtain ⟨v, w, rfl, h1, h2⟩ := shwl2 hw
      exact ⟨_, _, by rw [h1.int, h2.int], ‹_›, k _ _ φ _ [] (I.pushD (.int _))⟩
    · cases hg
  · cases hg
end
end Dn
namespace Dn
open PySem PyProof.Rows L2
/-! Part 17: loops over a list that stays a slot's own; the body stores into told slots alone -/
section
variable {X : Cx} {F : Entry} {e tg : Expr} {body : List Stmt} {st : Stmt} {rest : List Stmt} {pos p p1 p2 : Pos} {f : EE} {sf sg : SE} {x : Str}
/-- a statement that runs to its end and stores into the slots ws alone -/
def tSw (K : PySem.W.Frag) (F : Entry) (ws : List Nat) (f : SE) : TS := fun D σ H => ∃ G ρ φ ts ρ', Fm K F G H σ ρ φ ts ∧ NoBor ts ∧ f ρ = some (.nx ρ') ∧
  ∀ G' H' φ' σ', (∀ j, j ∉ ws → σ'[j]? = σ[j]?) → Fm K F G' H' σ' ρ' φ' ts → D.nx σ' H'
abbrev DW1 (X : Cx) (F : Entry) (st : Stmt) (ws : List Nat) (f : SE) : Prop := PS X st (tSw X.K F ws f)
abbrev DWs (X : Cx) (F : Entry) (st : List Stmt) (ws : List Nat) (f : SE) : Prop := PSs X st (tSw X.K F ws f)
theorem w_asg {i : Nat} {pos' : Pos} (h : PS X (.Assign [.Name x pos'] e pos) (tAsg (tE X.K F f) (gName i))) : DW1 X F (.Assign [.Name x pos'] e pos) [i] (asgS i f) := ps_imp h fun D σ H ⟨G, ρ, φ, ts, ρ', I, nb, hf, k⟩ => by
  unfold asgS at hf
  obtain ⟨⟨r, ρ1⟩, h1, hf⟩ := Option.bind_eq_some_iff.mp hf
  obtain ⟨⟨s, ρ2⟩, h2, hf⟩ := Option.bind_eq_some_iff.mp hf
  obtain ⟨ρ3, h3, hf⟩ := Option.map_eq_some_iff.mp hf
  cases hf
  simp only at h2 h3
  obtain ⟨q1, q2, rfl⟩ := setE_some h3
  refine ⟨G, ρ, φ, ts, r, ρ1, I, h1, fun G1 H1 φ1 v fp I1 => ?_⟩
  obtain ⟨⟨G2, φ2, fp2, I2⟩, ns⟩ := I1.own h2
  exact k _ _ _ _ (fun j hj => List.getElem?_set_ne fun z => hj (by rw [z]; exact List.mem_cons_self)) (I2.set q2 q1 ns fun t ht => nb t ht i)
theorem w_expr (h : DE X F e f) (hs : swapsWith e none pos.line X.env = pure false := by rfl) : DW1 X F (.Expr e pos) [] (exprS f) := ps_imp (ps_expr h hs) fun D σ H ⟨G, ρ, φ, ts, ρ', I, nb, hf, k⟩ => by
  unfold exprS at hf
  obtain ⟨⟨r, ρ1⟩, h1, hf⟩ := Option.map_eq_some_iff.mp hf
  cases hf
  exact ⟨G, ρ, φ, ts, r, ρ1, I, h1, fun G1 H1 φ1 v fp I1 => k _ _ _ _ (fun _ _ => rfl) I1.drop⟩
theorem w_nil : DWs X F [] [] nxS := pss_imp pss_nil fun D σ H ⟨G, ρ, φ, ts, ρ', I, nb, hf, k⟩ => by
  cases hf
  exact k _ _ _ _ (fun _ _ => rfl) I
theorem w_one {ws : List Nat} (h : DW1 X F st ws sf) : DWs X F [st] ws sf := pss_one h
theorem w_cons {ws vs : List Nat} (h : DW1 X F st ws sf) (hr : DWs X F rest vs sg) : DWs X F (st :: rest) (ws ++ vs) (seqS sf sg) := pss_imp (pss_cons h hr) fun D σ H ⟨G, ρ, φ, ts, ρ', I, nb, hf, k⟩ => by
  unfold seqS at hf
  obtain ⟨o, h1, hf⟩ := Option.bind_eq_some_iff.mp hf
  cases o with
  | nx ρ1 =>
    refine ⟨G, ρ, φ, ts, ρ1, I, nb, h1, fun G1 H1 φ1 σ1 f1 I1 => ?_⟩
    exact ⟨G1, ρ1, φ1, ts, ρ', I1, nb, hf, fun G2 H2 φ2 σ2 f2 I2 => k _ _ _ _ (fun j hj => (f2 j fun z => hj (List.mem_append_right _ z)).trans (f1 j fun z => hj (List.mem_append_left _ z))) I2⟩
  | rt s ρ1 => cases hf
  | bk ρ1 => cases hf
  | ct ρ1 => cases hf
theorem w_if {c : Expr} {t : BE} {orelse : List Stmt} {ws vs : List Nat} (hc : DB X F c t) (ha : DWs X F body ws sf) (hb : DWs X F orelse vs sg) : DW1 X F (.If c body orelse pos) (ws ++ vs) (ifS t sf sg) := ps_imp (ps_if hc ha hb) fun D σ H ⟨G, ρ, φ, ts, ρ', I, nb, hf, k⟩ => by
  unfold ifS at hf
  obtain ⟨⟨b, ρ1⟩, h1, hf⟩ := Option.bind_eq_some_iff.mp hf
  refine ⟨G, ρ, φ, ts, b, ρ1, I, h1, fun G1 H1 φ1 I1 => ?_⟩
  cases b with
  | true => exact ⟨G1, ρ1, φ1, ts, ρ', I1, nb, hf, fun G2 H2 φ2 σ2 f2 I2 => k _ _ _ _ (fun j hj => f2 j fun z => hj (List.mem_append_left _ z)) I2⟩
  | false => exact ⟨G1, ρ1, φ1, ts, ρ', I1, nb, hf, fun G2 H2 φ2 σ2 f2 I2 => k _ _ _ _ (fun j hj => f2 j fun z => hj (List.mem_append_right _ z)) I2⟩
/-- the turns: n left, the k-th one next, of the list in slot i as it stands -/
def liveGo (en : Bool) (i : Nat) (tg : GE) (f : SE) : Nat → Nat → Dn.Env → Option Dn.Env
  | 0, _, _ => none
  | n + 1, k, ρ => (lsOf ρ i).bind fun ds => match ds[k]? with
    | none => some ρ
    | some d => (tg (if en then .tuple [.int (k : Nat), d] else d) ρ).bind fun ρ1 => (f ρ1).bind fun o => match o with
      | .nx ρ' => liveGo en i tg f n (k + 1) ρ'
      | _ => none
def liveS (en : Bool) (i : Nat) (tg : GE) (f : SE) : SE := fun ρ => (lsOf ρ i).bind fun ds => (liveGo en i tg f (ds.length + 1) 0 ρ).map .nx
theorem live_run {en : Bool} {i : Nat} {vs ws : List Nat} {gg : GE} {g : TG} {tb : TS} (hv : i ∉ vs) (hw : i ∉ ws)
    (gi : ∀ v σ H Q, tG X.K F vs gg v σ H Q → g v σ H Q) (bi : ∀ D σ H, tSw X.K F ws sf D σ H → tb D σ H) {J : Addr → It}
    (jgo : ∀ k a H (xs : List V) x, H a = some (.lst xs) → xs[k]? = some x → (J a).go k H) (jst : ∀ k a H (xs : List V), H a = some (.lst xs) → xs.length ≤ k → (J a).stop k H)
    (jy : ∀ k a H (xs : List V) x v H', H a = some (.lst xs) → xs[k]? = some x → (J a).yld k H v H' → if en = true then ∃ T, v = .ref T ∧ H T = none ∧ H' = upd H T (.tup [.int (k : Nat), x]) else v = x ∧ H' = H)
    {wi : TI} (hi : ∀ σ H R, (∃ a xs, σ[i]? = some (some (.ref a)) ∧ H a = some (.lst xs) ∧ R (J a) H) → wi σ H R) :
    ∀ D σ H, tS X.K F (liveS en i gg sf) D σ H → tFor wi g tb D σ H := fun D σ H ⟨G, ρ, φ, ts, o, I, nb, hf, k⟩ => by
  unfold liveS at hf
  obtain ⟨ds, h1, hf⟩ := Option.bind_eq_some_iff.mp hf
  obtain ⟨ρe, h2, rfl⟩ := Option.map_eq_some_iff.mp hf
  obtain ⟨a, xs, q1, q2, q3, q4, q5⟩ := I.slotList (lsOf_some h1)
  refine hi σ H _ ⟨a, xs, q1, q3, ?_⟩
  refine ⟨fun k m σ H => σ[i]? = some (some (.ref a)) ∧ ∃ G ρ φ, Fm X.K F G H σ ρ φ ts ∧ liveGo en i gg sf m k ρ = some ρe, ⟨_, q1, G, ρ, φ, I, h2⟩, ?_⟩
  rintro kk m σ2 H2 ⟨s1, G2, ρ2, φ2, I2, hgo⟩
  cases m with
  | zero => cases hgo
  | succ m =>
    rw [liveGo] at hgo
    obtain ⟨ds2, g1, hgo⟩ := Option.bind_eq_some_iff.mp hgo
    obtain ⟨a', xs2, z1, z2, z3, z4, z5⟩ := I2.slotList (lsOf_some g1)
    rw [s1] at z1
    cases z1
    split at hgo
    · rename_i hn
      cases hgo
      refine .inl ⟨jst _ _ _ _ z3 (by rw [z4.length]; exact List.getElem?_eq_none_iff.mp hn), k _ _ _ _ I2⟩
    · rename_i d hd
      obtain ⟨v0, y1, y2⟩ := z4.get' hd
      obtain ⟨ρ3, g2, hgo⟩ := Option.bind_eq_some_iff.mp hgo
      obtain ⟨o2, g3, hgo⟩ := Option.bind_eq_some_iff.mp hgo
      cases o2 with
      | nx ρ4 =>
        refine .inr ⟨jgo _ _ _ _ _ z3 y1, fun σ' H' => σ'[i]? = some (some (.ref a)) ∧ ∃ G ρ φ, Fm X.K F G H' σ' ρ φ ts ∧ liveGo en i gg sf m (kk + 1) ρ = some ρe, fun σ' H' q => ⟨m, Nat.lt_succ_self m, q⟩, fun x H' hy => ?_⟩
        have hy := jy _ _ _ _ _ _ _ z3 y1 hy
        have got : ∃ G3, Fm X.K F G3 H' σ2 ρ2 φ2 ts ∧ Sh X.K G3 x (if en then .tuple [.int (kk : Nat), d] else d) := by
          cases en with
          | true =>
            obtain ⟨T, rfl, hT, rfl⟩ := hy
            have q := I2.newT hT (.cons (.int (kk : Nat)) (.cons y2 .nil))
            exact ⟨_, q.drop, q.head.2⟩
          | false =>
            obtain ⟨rfl, rfl⟩ := hy
            exact ⟨G2, I2, y2⟩
        obtain ⟨G3, I3, rx⟩ := got
        refine gi _ _ _ _ ⟨G3, ρ2, φ2, ts, _, ρ3, I3, rx, g2, fun t ht j _ => nb t ht j, fun G5 H5 φ5 σ5 I5 l5 f5 => ?_⟩
        refine bi _ _ _ ⟨G5, ρ3, φ5, ts, ρ4, I5, nb, g3, fun G6 H6 φ6 σ6 f6 I6 => ?_⟩
        exact ⟨by rw [f6 i hw, f5 i hv]; exact s1, G6, ρ4, φ6, I6, hgo⟩
      | rt s ρ4 => cases hgo
      | bk ρ4 => cases hgo
      | ct ρ4 => cases hgo
theorem s_forEnumLive {i : Nat} {vs ws : List Nat} {gg : GE} {tpos : Pos} {elts : List Expr} {kk : Nat} (hp : PassesOwn (model X.prog X.w) X.A X.env X.xe) (hc : X.calm = true) (hg : Gl X "enumerate") (hm : X.mg "enumerate" = none)
    (hx : PE X (.Name x p1) (tVar i)) (ht : DG X F (.Tuple elts kk tpos) vs gg) (hb : DWs X F body ws sf) (hv : i ∉ vs) (hw : i ∉ ws) (hs0 : starEach [.Name x p1] X.env = [(false, eval (.Name x p1) X.env)] := by rfl)
    (hs : ∀ y, foldedSetIterable (.Call (.Name "enumerate" p) [.Name x p1] [] p2) X.env y = pure y := by intro _; rfl) :
    DS X F (.For (.Tuple elts kk tpos) (.Call (.Name "enumerate" p) [.Name x p1] [] p2) body [] pos) (liveS true i gg sf) :=
  ps_imp (ps_for hp hc (pi_enum hg hm (pa_cons hx pa_nil) hs0) ht hb hs) (live_run (J := Ite X.K) hv hw (fun _ _ _ _ q => q) (fun _ _ _ q => q)
    (fun k a H xs x h1 h2 => ⟨xs, x, SqL.of h1, h2⟩) (fun k a H xs h1 h2 => ⟨xs, SqL.of h1, h2⟩)
    (fun k a H xs x v H' h1 h2 h3 => by
      obtain ⟨T, x', e1, e2, e3, e4⟩ := h3
      have := e4 _ (SqL.of h1)
      rw [h2] at this
      cases this
      rw [if_pos rfl]
      exact ⟨T, e1, e2, e3⟩)
    (fun σ H R ⟨a, xs, h1, h2, h3⟩ => ⟨_, h1, a, xs, rfl, SqL.of h2, h3⟩))
end
end Dn
/-! Part 18: lists and tuples alike: zip of either, enumerate of either, enumerate(zip(..)) -/
namespace DZ
open PySem PyProof.Rows L2
open PySem.Sem (wp)
def IsSq (b : Bool) (h : Heap) (a : Addr) (items : Array Value) : Prop := match b with | true => h.IsTuple a items | false => h.IsList a items
def IsSqIt (b : Bool) (h : Heap) (it a : Addr) (i : Nat) : Prop := match b with | true => h.IsTupleIter it a i | false => h.IsListIter it a i
def itName (b : Bool) : String := match b with | true => "tuple_iterator" | false => "list_iterator"
def SqB (b : Bool) (K : PySem.W.Frag) (H : Hp) (a : Addr) (xs : List V) : Prop := match b with | true => SqT K H a xs | false => SqL K H a xs
section
variable {b : Bool} {h h' : Heap} {a it i : Addr} {k : Nat} {items : Array Value}
theorem IsSq.at (q : IsSq b h a items) (hk : ∀ o, h.get? a = some o → h'.get? a = some o) : IsSq b h' a items := by
  cases b with
  | true => exact Heap.IsTuple.at q hk
  | false => exact Heap.IsList.at q hk
theorem IsSqIt.at (q : IsSqIt b h it a k) (hk : ∀ o, h.get? it = some o → h'.get? it = some o) : IsSqIt b h' it a k := by
  cases b with
  | true => exact Heap.IsTupleIter.at q hk
  | false => exact Heap.IsListIter.at q hk
theorem IsSq.lt (q : IsSq b h a items) : a < h.objs.size := by
  cases b with
  | true => obtain ⟨_, e, _⟩ := q; exact Heap.lt_size e
  | false => obtain ⟨_, e, _⟩ := q; exact Heap.lt_size e
theorem IsSqIt.ob (q : IsSqIt b h it a k) : ∃ o, h.get? it = some o ∧ ∀ v, o.data ≠ .cell v := by
  cases b with
  | true => obtain ⟨o, e, _, d⟩ := q; exact ⟨o, e, fun v z => by rw [d] at z; cases z⟩
  | false => obtain ⟨o, e, _, d⟩ := q; exact ⟨o, e, fun v z => by rw [d] at z; cases z⟩
theorem IsSqIt.lt (q : IsSqIt b h it a k) : it < h.objs.size := by
  obtain ⟨o, e, _⟩ := q.ob
  exact Heap.lt_size e
theorem IsSq.ext (q : IsSq b h a items) (hs : Heap.SameBut i h h') (hn : a ≠ i) : IsSq b h' a items := q.at fun o e => hs.extBut _ _ hn e
theorem IsSqIt.ext (q : IsSqIt b h it a k) (hs : Heap.SameBut i h h') (hn : it ≠ i) : IsSqIt b h' it a k := q.at fun o e => hs.extBut _ _ hn e
end
section
variable {prog : Program} {w : World} {A : Around} {E : Value → Shared → Prop} {s : Shared} {b b1 b2 : Bool}
theorem nextOf_sq_item {it l : Addr} {i : Nat} {items : Array Value} {x : Value} {Q : Value → Shared → Prop} (hit : IsSqIt b s.heap it l i) (hl : IsSq b s.heap l items) (hx : items[i]? = some x)
    (hQ : ∀ h', IsSqIt b h' it l (i + 1) → Heap.SameBut it s.heap h' → Q x { s with heap := h' }) : wpAny (model prog w) A (Builtin.SmallTypes.nextOf (.ref it)) Q E s := by
  cases b with
  | true => exact RZ.nextOf_tuple_item hit hl hx hQ
  | false => exact wpAny_nextOf_list_item hit hl hx hQ
theorem nextOf_sq_end {it l : Addr} {i : Nat} {items : Array Value} {Q : Value → Shared → Prop} (hh : A.handled = none) (hit : IsSqIt b s.heap it l i) (hl : IsSq b s.heap l items) (hx : items[i]? = none)
    (hE : ∀ h' e, Heap.ExtBut it s.heap h' → (∃ o, h'.get? e = some o ∧ o.cls = .type "StopIteration") → E (.ref e) { s with heap := h' }) : wpAny (model prog w) A (Builtin.SmallTypes.nextOf (.ref it)) Q E s := by
  cases b with
  | true => exact RZ.nextOf_tuple_end hh hit hl hx hE
  | false => exact wpAny_nextOf_list_end hh hit hl hx hE
theorem pyIter_sq {l : Addr} {items : Array Value} {Q : Value → Shared → Prop} (hl : IsSq b s.heap l items)
    (hQ : Q (.ref s.heap.objs.size) { s with heap := s.heap.push { cls := .type (itName b), data := .fields #[.ref l, .int 0 0] } }) : wpAny (model prog w) A (pyIter (.ref l)) Q E s := by
  cases b with
  | true => exact wpAny_pyIter_tuple hl hQ
  | false => exact wpAny_pyIter_list hl hQ

/-! ### zip.__next__ : its tuple free, or out -/
abbrev IsZipF (h : Heap) (z TI TO : Addr) (f0 : Value) (fl : Bool) : Prop :=
  h.get? z = some { cls := .type "zip", dict := none, data := .fields #[f0, .bool fl, .bool false, .ref TI, .ref TO], slots := #[] }
def Fr0 (f0 : Value) : Prop := f0 = .none ∨ ∃ T : Addr, f0 = rawInt T
theorem alive_any {a : Addr} {Q : Option Obj → Shared → Prop} (h : ∀ r, r = s.heap.get? a → Q r s) : wpAny (model prog w) A (loadIfAlive a) Q E s := fun _ _ _ => h _ rfl
theorem zip_isFree {z TI TO : Addr} {f0 : Value} {fl : Bool} {Q : Bool → Shared → Prop} (hf : Fr0 f0) (hz : IsZipF s.heap z TI TO f0 fl) (h1 : Q true s) (h2 : ∀ h', IsZipF h' z TI TO f0 true → Heap.SameBut z s.heap h' → Q false { s with heap := h' }) :
    wpAny (model prog w) A (Builtin.SmallTypes.ownedTupleIsFree (.ref z)) Q E s := by
  unfold Builtin.SmallTypes.ownedTupleIsFree
  rcases hf with rfl | ⟨T, rfl⟩
  · exact wpAny_bind (wpAny_field hz rfl (x := .none) rfl (wpAny_pure h1))
  · refine wpAny_bind (wpAny_field hz rfl (x := rawInt T) rfl ?_)
    show wpAny _ _ (loadIfAlive ((T : Int).toNat) >>= _) _ _ _
    rw [Int.toNat_natCast]
    refine wpAny_bind (alive_any fun r hr => ?_)
    cases r with
    | none =>
      simp only [Option.isNone_none, if_true]
      exact wpAny_pure h1
    | some oT =>
      simp only [Option.isNone_some, Bool.false_eq_true, if_false]
      refine wpAny_bind (wpAny_field hz rfl (x := .bool fl) rfl ?_)
      cases fl with
      | true =>
        rw [if_neg (show ¬ ((Value.bool true != Value.bool true) = true) from Bool.false_ne_true)]
        exact wpAny_pure (h2 s.heap hz (Heap.SameBut.refl _ _))
      | false =>
        rw [if_pos (show (Value.bool false != Value.bool true) = true from rfl)]
        exact wpAny_bind (wpAny_setField_rec hz (by simp) fun h₁ hz₁ hs₁ => wpAny_pure (h2 h₁ hz₁ hs₁))
theorem zipF_next_item {z TI TO i1 i2 l1 l2 : Addr} {fl : Bool} {f0 : Value} {k1 k2 : Nat} {xs ys : Array Value} {x y a a' : Value} {Q : Value → Shared → Prop} (D : ZipApart z TI TO i1 i2 l1 l2) (hf : Fr0 f0)
    (hz : IsZipF s.heap z TI TO f0 fl) (hTI : IsPair s.heap TI (.ref i1) (.ref i2)) (hTO : IsPair s.heap TO a a')
    (h1 : IsSqIt b1 s.heap i1 l1 k1) (h2 : IsSqIt b2 s.heap i2 l2 k2) (hl1 : IsSq b1 s.heap l1 xs) (hl2 : IsSq b2 s.heap l2 ys) (hx : xs[k1]? = some x) (hy : ys[k2]? = some y)
    (hQ : ∀ h' f0' fl' c c', Fr0 f0' → (fl' = false → f0' = rawInt s.heap.objs.size) → IsZipF h' z TI TO f0' fl' → IsPair h' TO c c' → IsSqIt b1 h' i1 l1 (k1 + 1) → IsSqIt b2 h' i2 l2 (k2 + 1) → IsPair h' s.heap.objs.size x y → h'.objs.size = s.heap.objs.size + 1 →
      (∀ c o, c ≠ z → c ≠ TO → c ≠ i1 → c ≠ i2 → s.heap.get? c = some o → h'.get? c = some o) → Q (.ref s.heap.objs.size) { s with heap := h' }) :
    wpAny (model prog w) A (Builtin.«zip.__next__» ⟨[.ref z], []⟩) (fun fin s' => ∃ v, fin = .done (.ret v) ∧ Q v s') E s := by
  show wpAny _ _ (field (.ref z) 2 >>= _) _ _ _
  refine wpAny_bind (wpAny_field hz rfl (x := .bool false) rfl ?_)
  show wpAny _ _ (field (.ref z) 3 >>= _) _ _ _
  refine wpAny_bind (wpAny_field hz rfl (x := .ref TI) rfl ?_)
  refine wpAny_bind (wpAny_seqItems hTI rfl ?_)
  show wpAny _ _ (Builtin.SmallTypes.ownedTupleIsFree (.ref z) >>= _) _ _ _
  refine wpAny_bind (zip_isFree hf hz ?_ fun h₁ hz₁ hs₁ => ?_)
  · simp only [if_true]
    refine wpAny_bind (wpAny_rule ?_)
    refine wpAny_bind (wpAny_field hz rfl (x := .ref TO) rfl ?_)
    refine wpAny_bind (wpAny_setField_rec hz (by simp) fun h₁ hz₁ hs₁ => ?_)
    replace hz₁ : IsZipF h₁ z TI TO .ellipsis fl := hz₁
    refine wpAny_bind ?_
    simp only [List.zipIdx_cons, List.zipIdx_nil, List.forIn_cons, List.forIn_nil]
    refine wpAny_bind (wpAny_bind (wpAny_onRaise ?_))
    show wpAny _ _ (Builtin.SmallTypes.nextOf (.ref i1) >>= _) _ _ _
    refine wpAny_bind (nextOf_sq_item (h1.ext hs₁ D.i1z) (hl1.ext hs₁ D.l1z) hx fun h₂ h1₂ hs₂ => wpAny_pure ?_)
    have hTO₂ : IsPair h₂ TO a a' := hs₂.extBut _ _ D.TOi1 (hs₁.extBut _ _ D.TOz hTO)
    refine wpAny_bind (wpAny_seqItems hTO₂ rfl ?_)
    refine wpAny_bind (wpAny_updateSeq_pair hTO₂ fun h₃ hTO₃ hs₃ => ?_)
    replace hTO₃ : IsPair h₃ TO x a' := hTO₃
    refine wpAny_bind (wpAny_letGo (wpAny_pure ?_))
    refine wpAny_bind (wpAny_bind (wpAny_onRaise ?_))
    show wpAny _ _ (Builtin.SmallTypes.nextOf (.ref i2) >>= _) _ _ _
    refine wpAny_bind (nextOf_sq_item (((h2.ext hs₁ D.i2z).ext hs₂ D.i12.symm).ext hs₃ D.TOi2.symm) (((hl2.ext hs₁ D.l2z).ext hs₂ D.l2i1).ext hs₃ D.l2TO) hy fun h₄ h2₄ hs₄ => wpAny_pure ?_)
    have hTO₄ : IsPair h₄ TO x a' := hs₄.extBut _ _ D.TOi2 hTO₃
    refine wpAny_bind (wpAny_seqItems hTO₄ rfl ?_)
    refine wpAny_bind (wpAny_updateSeq_pair hTO₄ fun h₅ hTO₅ hs₅ => ?_)
    replace hTO₅ : IsPair h₅ TO x y := hTO₅
    refine wpAny_bind (wpAny_letGo (wpAny_pure (wpAny_pure ?_)))
    refine wpAny_bind (wpAny_seqItems hTO₅ rfl ?_)
    refine wpAny_bind (wpAny_newTuple ?_)
    have hsz : h₅.objs.size = s.heap.objs.size := by rw [hs₅.1, hs₄.1, hs₃.1, hs₂.1, hs₁.1]
    have hz₅ : IsZipF h₅ z TI TO .ellipsis fl := hs₅.extBut _ _ D.TOz.symm (hs₄.extBut _ _ D.i2z.symm (hs₃.extBut _ _ D.TOz.symm (hs₂.extBut _ _ D.i1z.symm hz₁)))
    have hk₅ : ∀ c o, c ≠ z → c ≠ TO → c ≠ i1 → c ≠ i2 → s.heap.get? c = some o → h₅.get? c = some o := fun c o c1 c2 c3 c4 e =>
      hs₅.extBut _ _ c2 (hs₄.extBut _ _ c4 (hs₃.extBut _ _ c2 (hs₂.extBut _ _ c3 (hs₁.extBut _ _ c1 e))))
    have h1₅ : IsSqIt b1 h₅ i1 l1 (k1 + 1) := ((h1₂.ext hs₃ D.TOi1.symm).ext hs₄ D.i12).ext hs₅ D.TOi1.symm
    have h2₅ : IsSqIt b2 h₅ i2 l2 (k2 + 1) := h2₄.ext hs₅ D.TOi2.symm
    have hzlt : z < h₅.objs.size := Heap.lt_size hz₅
    show wpAny _ _ (Builtin.SmallTypes.ownedTupleHandOut (.ref z) (.ref h₅.objs.size) >>= _) _ _ _
    refine wpAny_bind ?_
    unfold Builtin.SmallTypes.ownedTupleHandOut
    have hz₆ : IsZipF (h₅.push { cls := .type "tuple", data := .seq #[x, y] }) z TI TO .ellipsis fl := Heap.get?_push_of_some _ hz₅
    refine wpAny_bind (wpAny_setField_rec hz₆ (by simp) fun h₇ hz₇ hs₇ => ?_)
    replace hz₇ : IsZipF h₇ z TI TO (rawInt h₅.objs.size) fl := hz₇
    refine wpAny_setField_rec hz₇ (by simp) fun h₈ hz₈ hs₈ => ?_
    replace hz₈ : IsZipF h₈ z TI TO (rawInt h₅.objs.size) false := hz₈
    have up : ∀ c o, c ≠ z → h₅.get? c = some o → h₈.get? c = some o := fun c o c1 e => hs₈.extBut _ _ c1 (hs₇.extBut _ _ c1 (Heap.get?_push_of_some _ e))
    have hT₈ : IsPair h₈ h₅.objs.size x y := hs₈.extBut _ _ (Nat.ne_of_gt hzlt) (hs₇.extBut _ _ (Nat.ne_of_gt hzlt) (Heap.get?_push_size _ rfl))
    have hz8 : h₈.objs.size = h₅.objs.size + 1 := by rw [hs₈.1, hs₇.1, Heap.size_push]
    rw [hsz] at hz₈ hT₈ hz8
    refine wpAny_pure ⟨_, rfl, ?_⟩
    show Q (.ref h₅.objs.size) _
    rw [hsz]
    exact hQ h₈ _ _ _ _ (.inr ⟨_, rfl⟩) (fun _ => rfl) hz₈ (up _ _ D.TOz hTO₅) (h1₅.at fun o e => up _ o D.i1z e) (h2₅.at fun o e => up _ o D.i2z e) hT₈ hz8 fun c o c1 c2 c3 c4 e => up c o c1 (hk₅ c o c1 c2 c3 c4 e)
  · simp only [Bool.false_eq_true, if_false]
    refine wpAny_bind ?_
    rw [← Array.forIn_toList]
    simp only [List.forIn_cons, List.forIn_nil]
    refine wpAny_bind (wpAny_bind (wpAny_holding ?_))
    show wpAny _ _ (Builtin.SmallTypes.nextOf (.ref i1) >>= _) _ _ _
    refine wpAny_bind (nextOf_sq_item (s := { s with heap := h₁ }) (h1.ext hs₁ D.i1z) (hl1.ext hs₁ D.l1z) hx fun h₂ h1₂ hs₂ => wpAny_pure ?_)
    refine wpAny_pure ?_
    refine wpAny_bind (wpAny_bind (wpAny_holding ?_))
    show wpAny _ _ (Builtin.SmallTypes.nextOf (.ref i2) >>= _) _ _ _
    refine wpAny_bind (nextOf_sq_item (s := { s with heap := h₂ }) ((h2.ext hs₁ D.i2z).ext hs₂ D.i12.symm) ((hl2.ext hs₁ D.l2z).ext hs₂ D.l2i1) hy fun h₃ h2₃ hs₃ => wpAny_pure ?_)
    refine wpAny_pure (wpAny_pure ?_)
    show wpAny _ _ (newTuple [x, y] >>= _) _ _ _
    refine wpAny_bind (wpAny_newTuple ?_)
    have hsz : h₃.objs.size = s.heap.objs.size := by rw [hs₃.1, hs₂.1, hs₁.1]
    have hz₃ : IsZipF h₃ z TI TO f0 true := hs₃.extBut _ _ D.i2z.symm (hs₂.extBut _ _ D.i1z.symm hz₁)
    have hk : ∀ c o, c ≠ z → c ≠ i1 → c ≠ i2 → s.heap.get? c = some o → h₃.get? c = some o := fun c o c1 c2 c3 e => hs₃.extBut _ _ c3 (hs₂.extBut _ _ c2 (hs₁.extBut _ _ c1 e))
    have h1₃ : IsSqIt b1 h₃ i1 l1 (k1 + 1) := h1₂.ext hs₃ D.i12
    have hTO₃ : IsPair h₃ TO a a' := hk _ _ D.TOz D.TOi1 D.TOi2 hTO
    refine wpAny_pure ⟨_, rfl, ?_⟩
    show Q (.ref h₃.objs.size) _
    have hp : IsPair (h₃.push { cls := .type "tuple", data := .seq #[x, y] }) h₃.objs.size x y := Heap.get?_push_size _ rfl
    have hz4 : (h₃.push { cls := .type "tuple", data := .seq #[x, y] }).objs.size = h₃.objs.size + 1 := Heap.size_push ..
    rw [hsz] at hp hz4 ⊢
    exact hQ _ _ _ _ _ hf (fun z => by cases z) (Heap.get?_push_of_some _ hz₃) (Heap.get?_push_of_some _ hTO₃) (h1₃.at fun o e => Heap.get?_push_of_some _ e) (h2₃.at fun o e => Heap.get?_push_of_some _ e) hp hz4
      fun c o c1 _ c3 c4 e => Heap.get?_push_of_some _ (hk c o c1 c3 c4 e)
theorem zipF_next_end {z TI TO i1 i2 l1 l2 : Addr} {fl : Bool} {f0 : Value} {k1 k2 : Nat} {xs ys : Array Value} {a a' : Value} {Q : Fin → Shared → Prop} (hh : A.handled = none) (D : ZipApart z TI TO i1 i2 l1 l2) (hf : Fr0 f0)
    (hz : IsZipF s.heap z TI TO f0 fl) (hTI : IsPair s.heap TI (.ref i1) (.ref i2)) (hTO : IsPair s.heap TO a a')
    (h1 : IsSqIt b1 s.heap i1 l1 k1) (h2 : IsSqIt b2 s.heap i2 l2 k2) (hl1 : IsSq b1 s.heap l1 xs) (hl2 : IsSq b2 s.heap l2 ys) (hend : xs[k1]? = none ∨ ys[k2]? = none)
    (hE : ∀ h' e, (∀ c o, c ≠ z → c ≠ TO → c ≠ i1 → c ≠ i2 → s.heap.get? c = some o → h'.get? c = some o) → (∃ o, h'.get? e = some o ∧ o.cls = .type "StopIteration") → E (.ref e) { s with heap := h' }) :
    wpAny (model prog w) A (Builtin.«zip.__next__» ⟨[.ref z], []⟩) Q E s := by
  show wpAny _ _ (field (.ref z) 2 >>= _) _ _ _
  refine wpAny_bind (wpAny_field hz rfl (x := .bool false) rfl ?_)
  show wpAny _ _ (field (.ref z) 3 >>= _) _ _ _
  refine wpAny_bind (wpAny_field hz rfl (x := .ref TI) rfl ?_)
  refine wpAny_bind (wpAny_seqItems hTI rfl ?_)
  show wpAny _ _ (Builtin.SmallTypes.ownedTupleIsFree (.ref z) >>= _) _ _ _
  refine wpAny_bind (zip_isFree hf hz ?_ fun h₁ hz₁ hs₁ => ?_)
  · simp only [if_true]
    refine wpAny_bind (wpAny_rule ?_)
    refine wpAny_bind (wpAny_field hz rfl (x := .ref TO) rfl ?_)
    refine wpAny_bind (wpAny_setField_rec hz (by simp) fun h₁ hz₁ hs₁ => ?_)
    replace hz₁ : IsZipF h₁ z TI TO .ellipsis fl := hz₁
    refine wpAny_bind ?_
    simp only [List.zipIdx_cons, List.zipIdx_nil, List.forIn_cons, List.forIn_nil]
    refine wpAny_bind (wpAny_bind (wpAny_onRaise ?_))
    show wpAny _ _ (Builtin.SmallTypes.nextOf (.ref i1) >>= _) _ _ _
    cases hx : xs[k1]? with
    | none =>
      refine wpAny_bind (nextOf_sq_end hh (h1.ext hs₁ D.i1z) (hl1.ext hs₁ D.l1z) hx fun h₂ e hs₂ he => ?_)
      obtain ⟨oe, hoe, hce⟩ := he
      have hz₂ : IsZipF h₂ z TI TO .ellipsis fl := hs₂ _ _ D.i1z.symm hz₁
      have hez : e ≠ z := fun x => by subst x; rw [hz₂] at hoe; cases hoe; simp at hce
      refine wpAny_setField_rec hz₂ (by simp) fun h₃ _ hs₃ => hE h₃ e (fun c o c1 _ c3 _ x => hs₃.extBut _ _ c1 (hs₂ _ _ c3 (hs₁.extBut _ _ c1 x))) ⟨oe, hs₃.extBut _ _ hez hoe, hce⟩
    | some x =>
      have hy : ys[k2]? = none := by rcases hend with h | h; rw [hx] at h; cases h; exact h
      refine wpAny_bind (nextOf_sq_item (h1.ext hs₁ D.i1z) (hl1.ext hs₁ D.l1z) hx fun h₂ h1₂ hs₂ => wpAny_pure ?_)
      have hTO₂ : IsPair h₂ TO a a' := hs₂.extBut _ _ D.TOi1 (hs₁.extBut _ _ D.TOz hTO)
      refine wpAny_bind (wpAny_seqItems hTO₂ rfl ?_)
      refine wpAny_bind (wpAny_updateSeq_pair hTO₂ fun h₃ hTO₃ hs₃ => ?_)
      refine wpAny_bind (wpAny_letGo (wpAny_pure ?_))
      refine wpAny_bind (wpAny_bind (wpAny_onRaise ?_))
      show wpAny _ _ (Builtin.SmallTypes.nextOf (.ref i2) >>= _) _ _ _
      refine wpAny_bind (nextOf_sq_end hh (((h2.ext hs₁ D.i2z).ext hs₂ D.i12.symm).ext hs₃ D.TOi2.symm) (((hl2.ext hs₁ D.l2z).ext hs₂ D.l2i1).ext hs₃ D.l2TO) hy fun h₄ e hs₄ he => ?_)
      obtain ⟨oe, hoe, hce⟩ := he
      have hz₄ : IsZipF h₄ z TI TO .ellipsis fl := hs₄ _ _ D.i2z.symm (hs₃.extBut _ _ D.TOz.symm (hs₂.extBut _ _ D.i1z.symm hz₁))
      have hez : e ≠ z := fun x => by subst x; rw [hz₄] at hoe; cases hoe; simp at hce
      refine wpAny_setField_rec hz₄ (by simp) fun h₅ _ hs₅ => hE h₅ e (fun c o c1 c2 c3 c4 x => hs₅.extBut _ _ c1 (hs₄ _ _ c4 (hs₃.extBut _ _ c2 (hs₂.extBut _ _ c3 (hs₁.extBut _ _ c1 x))))) ⟨oe, hs₅.extBut _ _ hez hoe, hce⟩
  · simp only [Bool.false_eq_true, if_false]
    refine wpAny_bind ?_
    rw [← Array.forIn_toList]
    simp only [List.forIn_cons, List.forIn_nil]
    refine wpAny_bind (wpAny_bind (wpAny_holding ?_))
    show wpAny _ _ (Builtin.SmallTypes.nextOf (.ref i1) >>= _) _ _ _
    cases hx : xs[k1]? with
    | none =>
      refine wpAny_bind (nextOf_sq_end (s := { s with heap := h₁ }) hh (h1.ext hs₁ D.i1z) (hl1.ext hs₁ D.l1z) hx fun h₂ e hs₂ he => ?_)
      exact hE h₂ e (fun c o c1 _ c2 _ x => hs₂ _ _ c2 (hs₁.extBut _ _ c1 x)) he
    | some x =>
      have hy : ys[k2]? = none := by rcases hend with h | h; rw [hx] at h; cases h; exact h
      refine wpAny_bind (nextOf_sq_item (s := { s with heap := h₁ }) (h1.ext hs₁ D.i1z) (hl1.ext hs₁ D.l1z) hx fun h₂ h1₂ hs₂ => wpAny_pure ?_)
      refine wpAny_pure ?_
      refine wpAny_bind (wpAny_bind (wpAny_holding ?_))
      show wpAny _ _ (Builtin.SmallTypes.nextOf (.ref i2) >>= _) _ _ _
      refine wpAny_bind (nextOf_sq_end (s := { s with heap := h₂ }) hh ((h2.ext hs₁ D.i2z).ext hs₂ D.i12.symm) ((hl2.ext hs₁ D.l2z).ext hs₂ D.l2i1) hy fun h₃ e hs₃ he => ?_)
      exact hE h₃ e (fun c o c1 _ c2 c3 x => hs₃ _ _ c3 (hs₂.extBut _ _ c2 (hs₁.extBut _ _ c1 x))) he
theorem nextOf_zip_item {z TI TO i1 i2 l1 l2 : Addr} {fl : Bool} {f0 : Value} {k1 k2 : Nat} {xs ys : Array Value} {x y a a' : Value} {Q : Value → Shared → Prop} (D : ZipApart z TI TO i1 i2 l1 l2) (hf : Fr0 f0)
    (hz : IsZipF s.heap z TI TO f0 fl) (hTI : IsPair s.heap TI (.ref i1) (.ref i2)) (hTO : IsPair s.heap TO a a')
    (h1 : IsSqIt b1 s.heap i1 l1 k1) (h2 : IsSqIt b2 s.heap i2 l2 k2) (hl1 : IsSq b1 s.heap l1 xs) (hl2 : IsSq b2 s.heap l2 ys) (hx : xs[k1]? = some x) (hy : ys[k2]? = some y)
    (hQ : ∀ h' f0' fl' c c', Fr0 f0' → IsZipF h' z TI TO f0' fl' → IsPair h' TO c c' → IsSqIt b1 h' i1 l1 (k1 + 1) → IsSqIt b2 h' i2 l2 (k2 + 1) → IsPair h' s.heap.objs.size x y → h'.objs.size = s.heap.objs.size + 1 →
      (∀ c o, c ≠ z → c ≠ TO → c ≠ i1 → c ≠ i2 → s.heap.get? c = some o → h'.get? c = some o) → Q (.ref s.heap.objs.size) { s with heap := h' }) :
    wpAny (model prog w) A (Builtin.SmallTypes.nextOf (.ref z)) Q E s := by
  have hT : s.TypeIs (.ref z) "zip" := ⟨_, hz, rfl⟩
  unfold Builtin.SmallTypes.nextOf
  exact wpAny_bind (wpAny_callSpecial?_slot (name := Str.ofString "__next__") hT F.slot_zip_next
    (wpAny_call_entry F.slot_zip_next hT F.entry_zip_next (zipF_next_item D hf hz hTI hTO h1 h2 hl1 hl2 hx hy fun h' f0' fl' c c' q1 _ q2 q3 q4 q5 q6 q7 q8 => wpAny_pure (hQ h' f0' fl' c c' q1 q2 q3 q4 q5 q6 q7 q8)) (F.args_zip_next_1 _)))
theorem nextOf_zip_end {z TI TO i1 i2 l1 l2 : Addr} {fl : Bool} {f0 : Value} {k1 k2 : Nat} {xs ys : Array Value} {a a' : Value} {Q : Value → Shared → Prop} (hh : A.handled = none) (D : ZipApart z TI TO i1 i2 l1 l2) (hf : Fr0 f0)
    (hz : IsZipF s.heap z TI TO f0 fl) (hTI : IsPair s.heap TI (.ref i1) (.ref i2)) (hTO : IsPair s.heap TO a a')
    (h1 : IsSqIt b1 s.heap i1 l1 k1) (h2 : IsSqIt b2 s.heap i2 l2 k2) (hl1 : IsSq b1 s.heap l1 xs) (hl2 : IsSq b2 s.heap l2 ys) (hend : xs[k1]? = none ∨ ys[k2]? = none)
    (hE : ∀ h' e, (∀ c o, c ≠ z → c ≠ TO → c ≠ i1 → c ≠ i2 → s.heap.get? c = some o → h'.get? c = some o) → (∃ o, h'.get? e = some o ∧ o.cls = .type "StopIteration") → E (.ref e) { s with heap := h' }) :
    wpAny (model prog w) A (Builtin.SmallTypes.nextOf (.ref z)) Q E s := by
  have hT : s.TypeIs (.ref z) "zip" := ⟨_, hz, rfl⟩
  unfold Builtin.SmallTypes.nextOf
  exact wpAny_bind (wpAny_callSpecial?_slot (name := Str.ofString "__next__") hT F.slot_zip_next
    (wpAny_call_entry F.slot_zip_next hT F.entry_zip_next (zipF_next_end hh D hf hz hTI hTO h1 h2 hl1 hl2 hend hE) (F.args_zip_next_1 _)))
/-! ### pyNext of a zip that is walked itself -/
theorem pyNext_zip_item {z TI TO i1 i2 l1 l2 : Addr} {k1 k2 : Nat} {xs ys : Array Value} {x y a a' : Value} {Q : Option Value → Shared → Prop} (D : ZipApart z TI TO i1 i2 l1 l2)
    (hz : IsZip s.heap z TI TO .none) (hTI : IsPair s.heap TI (.ref i1) (.ref i2)) (hTO : IsPair s.heap TO a a')
    (h1 : IsSqIt b1 s.heap i1 l1 k1) (h2 : IsSqIt b2 s.heap i2 l2 k2) (hl1 : IsSq b1 s.heap l1 xs) (hl2 : IsSq b2 s.heap l2 ys) (hx : xs[k1]? = some x) (hy : ys[k2]? = some y)
    (hQ : ∀ h' f0 fl c c', Fr0 f0 → (fl = false → f0 = rawInt s.heap.objs.size) → IsZipF h' z TI TO f0 fl → IsPair h' TO c c' → IsSqIt b1 h' i1 l1 (k1 + 1) → IsSqIt b2 h' i2 l2 (k2 + 1) → IsPair h' s.heap.objs.size x y → h'.objs.size = s.heap.objs.size + 1 →
      (∀ c o, c ≠ z → c ≠ TO → c ≠ i1 → c ≠ i2 → s.heap.get? c = some o → h'.get? c = some o) → Q (some (.ref s.heap.objs.size)) { s with heap := h' }) :
    wpAny (model prog w) A (pyNext (.ref z)) Q E s := by
  have hT : s.TypeIs (.ref z) "zip" := ⟨_, hz, rfl⟩
  unfold pyNext
  exact wpAny_bind (wpAny_attempt (wpAny_callSpecial?_slot (name := Str.ofString "__next__") hT F.slot_zip_next
    (wpAny_call_entry F.slot_zip_next hT F.entry_zip_next (zipF_next_item D (.inl rfl) hz hTI hTO h1 h2 hl1 hl2 hx hy fun h' f0 fl c c' q0 q1 q2 q3 q4 q5 q6 q7 q8 => wpAny_pure (hQ h' f0 fl c c' q0 q1 q2 q3 q4 q5 q6 q7 q8)) (F.args_zip_next_1 _))))
theorem pyNext_zip_end {z TI TO i1 i2 l1 l2 : Addr} {k1 k2 : Nat} {xs ys : Array Value} {a a' : Value} {Q : Option Value → Shared → Prop} (hh : A.handled = none) (D : ZipApart z TI TO i1 i2 l1 l2)
    (hz : IsZip s.heap z TI TO .none) (hTI : IsPair s.heap TI (.ref i1) (.ref i2)) (hTO : IsPair s.heap TO a a')
    (h1 : IsSqIt b1 s.heap i1 l1 k1) (h2 : IsSqIt b2 s.heap i2 l2 k2) (hl1 : IsSq b1 s.heap l1 xs) (hl2 : IsSq b2 s.heap l2 ys) (hend : xs[k1]? = none ∨ ys[k2]? = none)
    (hQ : ∀ h', (∀ c o, c ≠ z → c ≠ TO → c ≠ i1 → c ≠ i2 → s.heap.get? c = some o → h'.get? c = some o) → Q none { s with heap := h' }) : wpAny (model prog w) A (pyNext (.ref z)) Q E s := by
  have hT : s.TypeIs (.ref z) "zip" := ⟨_, hz, rfl⟩
  unfold pyNext
  refine wpAny_bind (wpAny_attempt (wpAny_callSpecial?_slot (name := Str.ofString "__next__") hT F.slot_zip_next
    (wpAny_call_entry F.slot_zip_next hT F.entry_zip_next (zipF_next_end hh D (.inl rfl) hz hTI hTO h1 h2 hl1 hl2 hend fun h' e hk he => ?_) (F.args_zip_next_1 _))))
  obtain ⟨o, ho, hc⟩ := he
  refine wpAny_bind (wpAny_isInstance (T := "StopIteration") (b := true) ⟨o, ho, hc⟩ isSubtype_stop ?_)
  exact wpAny_pure (hQ _ hk)
end
end DZ
/-! Part 19: the turns of zip of lists and tuples, enumerate of a list or a tuple, enumerate(zip(..)) -/
namespace DZ
open PySem PyProof.Rows L2
open PySem.Sem (wp)
section
variable {prog : Program} {w : World} {A : Around} {E : Value → Shared → Prop} {s : Shared} {b b1 b2 : Bool}
theorem letGoF {elts : List Expr} {x1 : Nat} {pos : Pos} {z TI TO T : Addr} {f0 : Value} {fl : Bool} {Q : Unit → Shared → Prop} (hf : Fr0 f0) (hz : IsZipF s.heap z TI TO f0 fl)
    (hQ : ∀ h' f0', Fr0 f0' → IsZipF h' z TI TO f0' fl → Heap.SameBut z s.heap h' → Q () { s with heap := h' }) : wpAny (model prog w) A (letOwnedTupleGo (.Tuple elts x1 pos) (.ref z) (.ref T)) Q E s := by
  unfold letOwnedTupleGo
  refine wpAny_bind (wpAny_load hz ?_)
  show wpAny _ _ (if (["enumerate", "zip", "dict_itemiterator", "dict_reverseitemiterator", "odict_iterator", "itertools.zip_longest", "itertools.pairwise"].contains "zip" &&
      (#[f0, .bool fl, .bool false, .ref TI, .ref TO] : Array Value)[0]? == some (rawInt T)) = true then _ else _) Q E s
  cases (["enumerate", "zip", "dict_itemiterator", "dict_reverseitemiterator", "odict_iterator", "itertools.zip_longest", "itertools.pairwise"].contains "zip" && (#[f0, .bool fl, .bool false, .ref TI, .ref TO] : Array Value)[0]? == some (rawInt T)) with
  | true =>
    rw [if_pos rfl]
    refine wpAny_bind (wpAny_rule ?_)
    show wpAny _ _ (setField (.ref z) 0 .none) Q E s
    exact wpAny_setField_rec hz (by simp) fun h' hz' hs' => hQ h' _ (.inl rfl) hz' hs'
  | false =>
    rw [if_neg Bool.false_ne_true]
    exact wpAny_pure (hQ s.heap f0 hf hz (Heap.SameBut.refl _ _))
theorem pyIter_zipF {z TI TO : Addr} {f0 : Value} {fl : Bool} {Q : Value → Shared → Prop} (hz : IsZipF s.heap z TI TO f0 fl) (h : Q (.ref z) s) : wpAny (model prog w) A (pyIter (.ref z)) Q E s := by
  have hT : s.TypeIs (.ref z) "zip" := ⟨_, hz, rfl⟩
  refine wpAny_pyIter_slot hT F.slot_zip_iter (wpAny_call_entry F.slot_zip_iter hT F.entry_zip_iter ?_ (F.args_zip_iter_1 _))
  show wpAny _ _ (ret (.ref z)) _ _ s
  exact wpAny_pure ⟨_, rfl, "zip", _, hT, F.slot_zip_next.lookup, h⟩
theorem pyNext_zipF_item {z TI TO i1 i2 l1 l2 : Addr} {fl : Bool} {f0 : Value} {k1 k2 : Nat} {xs ys : Array Value} {x y a a' : Value} {Q : Option Value → Shared → Prop} (D : ZipApart z TI TO i1 i2 l1 l2) (hf : Fr0 f0)
    (hz : IsZipF s.heap z TI TO f0 fl) (hTI : IsPair s.heap TI (.ref i1) (.ref i2)) (hTO : IsPair s.heap TO a a')
    (h1 : IsSqIt b1 s.heap i1 l1 k1) (h2 : IsSqIt b2 s.heap i2 l2 k2) (hl1 : IsSq b1 s.heap l1 xs) (hl2 : IsSq b2 s.heap l2 ys) (hx : xs[k1]? = some x) (hy : ys[k2]? = some y)
    (hQ : ∀ h' f0' fl' c c', Fr0 f0' → IsZipF h' z TI TO f0' fl' → IsPair h' TO c c' → IsSqIt b1 h' i1 l1 (k1 + 1) → IsSqIt b2 h' i2 l2 (k2 + 1) → IsPair h' s.heap.objs.size x y → h'.objs.size = s.heap.objs.size + 1 →
      (∀ c o, c ≠ z → c ≠ TO → c ≠ i1 → c ≠ i2 → s.heap.get? c = some o → h'.get? c = some o) → Q (some (.ref s.heap.objs.size)) { s with heap := h' }) :
    wpAny (model prog w) A (pyNext (.ref z)) Q E s := by
  have hT : s.TypeIs (.ref z) "zip" := ⟨_, hz, rfl⟩
  unfold pyNext
  exact wpAny_bind (wpAny_attempt (wpAny_callSpecial?_slot (name := Str.ofString "__next__") hT F.slot_zip_next
    (wpAny_call_entry F.slot_zip_next hT F.entry_zip_next (zipF_next_item D hf hz hTI hTO h1 h2 hl1 hl2 hx hy fun h' f0' fl' c c' q0 _ q2 q3 q4 q5 q6 q7 q8 => wpAny_pure (hQ h' f0' fl' c c' q0 q2 q3 q4 q5 q6 q7 q8)) (F.args_zip_next_1 _))))
theorem pyNext_zipF_end {z TI TO i1 i2 l1 l2 : Addr} {fl : Bool} {f0 : Value} {k1 k2 : Nat} {xs ys : Array Value} {a a' : Value} {Q : Option Value → Shared → Prop} (hh : A.handled = none) (D : ZipApart z TI TO i1 i2 l1 l2) (hf : Fr0 f0)
    (hz : IsZipF s.heap z TI TO f0 fl) (hTI : IsPair s.heap TI (.ref i1) (.ref i2)) (hTO : IsPair s.heap TO a a')
    (h1 : IsSqIt b1 s.heap i1 l1 k1) (h2 : IsSqIt b2 s.heap i2 l2 k2) (hl1 : IsSq b1 s.heap l1 xs) (hl2 : IsSq b2 s.heap l2 ys) (hend : xs[k1]? = none ∨ ys[k2]? = none)
    (hQ : ∀ h', (∀ c o, c ≠ z → c ≠ TO → c ≠ i1 → c ≠ i2 → s.heap.get? c = some o → h'.get? c = some o) → Q none { s with heap := h' }) : wpAny (model prog w) A (pyNext (.ref z)) Q E s := by
  have hT : s.TypeIs (.ref z) "zip" := ⟨_, hz, rfl⟩
  unfold pyNext
  refine wpAny_bind (wpAny_attempt (wpAny_callSpecial?_slot (name := Str.ofString "__next__") hT F.slot_zip_next
    (wpAny_call_entry F.slot_zip_next hT F.entry_zip_next (zipF_next_end hh D hf hz hTI hTO h1 h2 hl1 hl2 hend fun h' e hk he => ?_) (F.args_zip_next_1 _))))
  obtain ⟨o, ho, hc⟩ := he
  refine wpAny_bind (wpAny_isInstance (T := "StopIteration") (b := true) ⟨o, ho, hc⟩ isSubtype_stop ?_)
  exact wpAny_pure (hQ _ hk)

/-! ### making a zip -/
abbrev zB1 (b1 : Bool) (h : Heap) (l1 : Addr) : Heap := h.push { cls := .type (itName b1), data := .fields #[.ref l1, .int 0 0] }
abbrev zB2 (b1 b2 : Bool) (h : Heap) (l1 l2 : Addr) : Heap := (zB1 b1 h l1).push { cls := .type (itName b2), data := .fields #[.ref l2, .int 0 0] }
abbrev zB3 (b1 b2 : Bool) (h : Heap) (l1 l2 : Addr) : Heap := (zB2 b1 b2 h l1 l2).push { cls := .type "tuple", data := .seq #[.ref h.objs.size, .ref (zB1 b1 h l1).objs.size] }
abbrev zB4 (b1 b2 : Bool) (h : Heap) (l1 l2 : Addr) : Heap := (zB3 b1 b2 h l1 l2).push { cls := .type "tuple", data := .seq #[.none, .none] }
abbrev zB5 (b1 b2 : Bool) (h : Heap) (l1 l2 : Addr) : Heap := (zB4 b1 b2 h l1 l2).push { cls := .type "zip", data := .fields #[.none, .bool false, .bool false, .ref (zB2 b1 b2 h l1 l2).objs.size, .ref (zB3 b1 b2 h l1 l2).objs.size] }
theorem meets_zipB_new (b1 b2 : Bool) (l1 l2 : Addr) (xs ys : Array Value) :
    Meets (Builtin.«zip.__new__» ⟨[.type "zip", .ref l1, .ref l2], []⟩) (fun _ R s => IsSq b1 s.heap l1 xs ∧ IsSq b2 s.heap l2 ys ∧
      R (.ok (.ret (.ref (zB4 b1 b2 s.heap l1 l2).objs.size))) { s with heap := zB5 b1 b2 s.heap l1 l2 }) :=
  .of_wp fun prog w A R s h => by
    obtain ⟨hp, g, d, tk, os⟩ := s; obtain ⟨hl1, hl2, h⟩ := h
    have hsub := sub_zip
    have hL1 : IsSq b1 (Shared.heap ⟨hp, g, d, tk, os⟩) l1 xs := hl1
    have hL2 : IsSq b2 (Shared.heap ⟨hp.push { cls := .type (itName b1), data := .fields #[.ref l1, .int 0 0] }, g, d, tk, os⟩) l2 ys := hl2.at fun o e => Heap.get?_push_of_some _ e
    wp_walk using pyIter_sq hL1, pyIter_sq hL2
    exact ⟨_, rfl, h⟩
theorem call_zipB {l1 l2 : Addr} {xs ys : Array Value} {Q : Value → Shared → Prop} (hl1 : IsSq b1 s.heap l1 xs) (hl2 : IsSq b2 s.heap l2 ys)
    (h : ∀ h', IsZipF h' (s.heap.objs.size + 4) (s.heap.objs.size + 2) (s.heap.objs.size + 3) .none false → IsPair h' (s.heap.objs.size + 2) (.ref s.heap.objs.size) (.ref (s.heap.objs.size + 1)) →
      IsPair h' (s.heap.objs.size + 3) .none .none → IsSqIt b1 h' s.heap.objs.size l1 0 → IsSqIt b2 h' (s.heap.objs.size + 1) l2 0 → h'.objs.size = s.heap.objs.size + 5 →
      (∀ c o, s.heap.get? c = some o → h'.get? c = some o) → Q (.ref (s.heap.objs.size + 4)) { s with heap := h' }) :
    wpAny (model prog w) A (call (.type "zip") [.ref l1, .ref l2]) Q E s := by
  refine callType_new F.called_zip (by decide) (F.typeCall_zip_2 _ _) (F.newCall_zip_2 _ _) (fun obj => F.args_object_init_3 obj _ _) F.entry_zip_new
    (meets_zipB_new b1 b2 l1 l2 xs ys) ⟨hl1, hl2, ?_⟩
  have z1 : (zB1 b1 s.heap l1).objs.size = s.heap.objs.size + 1 := Heap.size_push ..
  have z2 : (zB2 b1 b2 s.heap l1 l2).objs.size = s.heap.objs.size + 2 := by rw [Heap.size_push, z1]
  have z3 : (zB3 b1 b2 s.heap l1 l2).objs.size = s.heap.objs.size + 3 := by rw [Heap.size_push, z2]
  have z4 : (zB4 b1 b2 s.heap l1 l2).objs.size = s.heap.objs.size + 4 := by rw [Heap.size_push, z3]
  have z5 : (zB5 b1 b2 s.heap l1 l2).objs.size = s.heap.objs.size + 5 := by rw [Heap.size_push, z4]
  have g5 : (zB5 b1 b2 s.heap l1 l2).get? (zB4 b1 b2 s.heap l1 l2).objs.size = some _ := Heap.get?_push_size _ rfl
  have g4 : (zB5 b1 b2 s.heap l1 l2).get? (zB3 b1 b2 s.heap l1 l2).objs.size = some _ := Heap.get?_push_of_some _ (Heap.get?_push_size _ rfl)
  have g3 : (zB5 b1 b2 s.heap l1 l2).get? (zB2 b1 b2 s.heap l1 l2).objs.size = some _ := Heap.get?_push_of_some _ (Heap.get?_push_of_some _ (Heap.get?_push_size _ rfl))
  have g2 : (zB5 b1 b2 s.heap l1 l2).get? (zB1 b1 s.heap l1).objs.size = some _ := Heap.get?_push_of_some _ (Heap.get?_push_of_some _ (Heap.get?_push_of_some _ (Heap.get?_push_size _ rfl)))
  have g1 : (zB5 b1 b2 s.heap l1 l2).get? s.heap.objs.size = some _ := Heap.get?_push_of_some _ (Heap.get?_push_of_some _ (Heap.get?_push_of_some _ (Heap.get?_push_of_some _ (Heap.get?_push_size _ rfl))))
  show _ ∧ _
  rw [z2, z3, z4] at g5
  rw [z1, z2] at g3
  rw [z3] at g4
  rw [z1] at g2
  rw [z4]
  have e1 : IsSqIt b1 (zB5 b1 b2 s.heap l1 l2) s.heap.objs.size l1 0 := by cases b1 <;> exact ⟨_, g1, rfl, rfl⟩
  have e2 : IsSqIt b2 (zB5 b1 b2 s.heap l1 l2) (s.heap.objs.size + 1) l2 0 := by cases b2 <;> exact ⟨_, g2, rfl, rfl⟩
  exact ⟨⟨_, g5, rfl⟩, h _ g5 g3 g4 e1 e2 z5 fun c o x =>
    Heap.get?_push_of_some _ (Heap.get?_push_of_some _ (Heap.get?_push_of_some _ (Heap.get?_push_of_some _ (Heap.get?_push_of_some _ x))))⟩

/-! ### enumerate over a zip -/
theorem meets_enumZ_new (z TI TO : Addr) :
    Meets (Builtin.«enumerate.__new__» ⟨[.type "enumerate", .ref z], []⟩) (fun _ R s => IsZipF s.heap z TI TO .none false ∧
      R (.ok (.ret (.ref s.heap.objs.size))) { s with heap := s.heap.push { cls := .type "enumerate", data := .fields #[.none, .bool false, .ref z, rawInt 0, .none, .none] } }) :=
  .of_wp fun prog w A R s h => by
    obtain ⟨hp, g, d, tk, os⟩ := s; obtain ⟨hl, h⟩ := h
    have hsub := sub_enumerate
    have hL : IsZipF (Shared.heap ⟨hp, g, d, tk, os⟩) z TI TO .none false := hl
    have hz : hp.get? z = some { cls := .type "zip", dict := none, data := .fields #[.none, .bool false, .bool false, .ref TI, .ref TO], slots := #[] } := hl
    wp_walk using AutoSeq1.wpAny_loadPart' hz
    refine wpAny_stack_any fun st => wpAny_pure ?_
    split
    · rename_i c _ _ _ _ _
      cases (c == Value.type "enumerate")
      · wp_walk using AutoSeq1.wpAny_loadPart' hz, pyIter_zipF hL
        exact ⟨_, rfl, h⟩
      · wp_walk using AutoSeq1.wpAny_loadPart' hz, pyIter_zipF hL
        exact ⟨_, rfl, h⟩
    · wp_walk using AutoSeq1.wpAny_loadPart' hz, pyIter_zipF hL
      exact ⟨_, rfl, h⟩
theorem call_enumZ {z TI TO : Addr} {Q : Value → Shared → Prop} (hL : IsZipF s.heap z TI TO .none false)
    (h : ∀ h', IsEnum h' s.heap.objs.size z 0 .none → h'.objs.size = s.heap.objs.size + 1 → (∀ b o, s.heap.get? b = some o → h'.get? b = some o) → Q (.ref s.heap.objs.size) { s with heap := h' }) :
    wpAny (model prog w) A (call (.type "enumerate") [.ref z]) Q E s := by
  refine callType_new F.called_enumerate (by decide) (F.typeCall_enumerate_1 _) (F.newCall_enumerate_1 _) (fun obj => F.args_object_init_2 obj _) F.entry_enumerate_new
    (meets_enumZ_new z TI TO) ⟨hL, ?_⟩
  have he : IsEnum (s.heap.push { cls := .type "enumerate", data := .fields #[.none, .bool false, .ref z, rawInt 0, .none, .none] }) s.heap.objs.size z 0 .none := Heap.get?_push_size _ rfl
  exact ⟨⟨_, he, rfl⟩, h _ he (Heap.size_push ..) fun b o x => Heap.get?_push_of_some _ x⟩
theorem meets_enumT_new (t : Addr) (items : Array Value) (ot : Obj) :
    Meets (Builtin.«enumerate.__new__» ⟨[.type "enumerate", .ref t], []⟩) (fun _ R s => s.heap.get? t = some ot ∧ s.heap.IsTuple t items ∧
      R (.ok (.ret (.ref (s.heap.push { cls := .type "tuple_iterator", data := .fields #[.ref t, .int 0 0] }).objs.size)))
        { s with heap := (s.heap.push { cls := .type "tuple_iterator", data := .fields #[.ref t, .int 0 0] }).push { cls := .type "enumerate", data := .fields #[.none, .bool false, .ref s.heap.objs.size, rawInt 0, .none, .none] } }) :=
  .of_wp fun prog w A R s h => by
    obtain ⟨hp, g, d, tk, os⟩ := s; obtain ⟨hl, hi, h⟩ := h
    have hsub := sub_enumerate
    have hL : Heap.IsTuple (Shared.heap ⟨hp, g, d, tk, os⟩) t items := hi
    obtain ⟨o', ho', hc, n, hd⟩ := hi
    obtain ⟨c, dct, dt, sl⟩ := o'
    replace hc : c = .type "tuple" := hc
    replace hd : dt = .seq items n := hd
    subst hc hd
    wp_walk using AutoSeq1.wpAny_loadPart' ho'
    refine wpAny_stack_any fun st => wpAny_pure ?_
    split
    · rename_i c _ _ _ _ _
      cases (c == Value.type "enumerate")
      · wp_walk using AutoSeq1.wpAny_loadPart' ho', wpAny_pyIter_tuple hL
        exact ⟨_, rfl, h⟩
      · wp_walk using AutoSeq1.wpAny_loadPart' ho', wpAny_pyIter_tuple hL
        exact ⟨_, rfl, h⟩
    · wp_walk using AutoSeq1.wpAny_loadPart' ho', wpAny_pyIter_tuple hL
      exact ⟨_, rfl, h⟩
theorem call_enumT {t : Addr} {items : Array Value} {Q : Value → Shared → Prop} (hL : s.heap.IsTuple t items)
    (h : ∀ h', IsEnum h' (s.heap.objs.size + 1) s.heap.objs.size 0 .none → h'.IsTupleIter s.heap.objs.size t 0 → h'.objs.size = s.heap.objs.size + 2 →
      (∀ b o, s.heap.get? b = some o → h'.get? b = some o) → Q (.ref (s.heap.objs.size + 1)) { s with heap := h' }) :
    wpAny (model prog w) A (call (.type "enumerate") [.ref t]) Q E s := by
  obtain ⟨ot, ho, _⟩ := id hL
  refine callType_new F.called_enumerate (by decide) (F.typeCall_enumerate_1 _) (F.newCall_enumerate_1 _) (fun obj => F.args_object_init_2 obj _) F.entry_enumerate_new
    (meets_enumT_new t items ot) ⟨ho, hL, ?_⟩
  have hz : (s.heap.push { cls := .type "tuple_iterator", data := .fields #[.ref t, .int 0 0] }).objs.size = s.heap.objs.size + 1 := Heap.size_push ..
  show _ ∧ _
  rw [hz]
  have he : IsEnum ((s.heap.push { cls := .type "tuple_iterator", data := .fields #[.ref t, .int 0 0] }).push
      { cls := .type "enumerate", data := .fields #[.none, .bool false, .ref s.heap.objs.size, rawInt 0, .none, .none] }) (s.heap.objs.size + 1) s.heap.objs.size 0 .none := by
    have := Heap.get?_push_size (s.heap.push { cls := .type "tuple_iterator", data := .fields #[.ref t, .int 0 0] })
      (o := { cls := .type "enumerate", data := .fields #[.none, .bool false, .ref s.heap.objs.size, rawInt 0, .none, .none] }) rfl
    rw [hz] at this; exact this
  refine ⟨⟨_, he, rfl⟩, h _ he ⟨_, Heap.get?_push_of_some _ (Heap.get?_push_size _ rfl), rfl, rfl⟩ (by rw [Heap.size_push, hz]) fun b o x => Heap.get?_push_of_some _ (Heap.get?_push_of_some _ x)⟩
/-- enumerate.__next__, the inner iterator's step told by its item -/
theorem enum_next_gen {e it : Addr} {i : Nat} {old x : Value} {Q : Value → Shared → Prop} {Pm : Value → Heap → Prop} (he : IsEnum s.heap e it i old)
    (hin : ∀ (Q1 : Value → Shared → Prop), (∀ x h₁, Pm x h₁ → h₁.get? e = s.heap.get? e → s.heap.objs.size ≤ h₁.objs.size → Q1 x { s with heap := h₁ }) → wpAny (model prog w) A (Builtin.SmallTypes.nextOf (.ref it)) Q1 E s)
    (hQ : ∀ x h₁ h', Pm x h₁ → IsEnumOut h' e it ((i : Int) + 1) x h₁.objs.size → h'.get? h₁.objs.size = some { cls := .type "tuple", data := .seq #[.int i s.toks, x] } → h'.objs.size = h₁.objs.size + 1 →
      (∀ b o, b ≠ e → h₁.get? b = some o → h'.get? b = some o) → Q (.ref h₁.objs.size) { s with heap := h', toks := s.toks + 1 }) :
    wpAny (model prog w) A (Builtin.«enumerate.__next__» ⟨[.ref e], []⟩) (fun fin s' => ∃ v, fin = .done (.ret v) ∧ Q v s') E s := by
  obtain ⟨hp, g, d, tk, os⟩ := s
  show wpAny _ _ (field (.ref e) 2 >>= _) _ _ _
  refine wpAny_bind (wpAny_field he rfl (x := .ref it) rfl ?_)
  refine wpAny_bind (hin _ fun x h₁ hPx hk₁ hsz₁ => ?_)
  have he₁ : IsEnum h₁ e it i old := hk₁.trans he
  show wpAny _ _ (field (.ref e) 3 >>= _) _ _ ⟨h₁, g, d, tk, os⟩
  refine wpAny_bind (wpAny_field he₁ rfl (x := rawInt i) rfl ?_)
  show wpAny _ _ (field (.ref e) 4 >>= _) _ _ ⟨h₁, g, d, tk, os⟩
  refine wpAny_bind (wpAny_field he₁ rfl (x := .none) rfl ?_)
  show wpAny _ _ (mkInt i >>= _) _ _ ⟨h₁, g, d, tk, os⟩
  refine wpAny_bind (wpAny_mkInt ?_)
  show wpAny _ _ (setField (.ref e) 3 (rawInt ((i : Int) + 1)) >>= _) _ _ ⟨h₁, g, d, tk + 1, os⟩
  refine wpAny_bind (wpAny_setField_rec he₁ (by simp) fun h₂ he₂ hs₂ => ?_)
  replace hs₂ : Heap.SameBut e h₁ h₂ := hs₂
  replace he₂ : IsEnum h₂ e it ((i : Int) + 1) old := he₂
  show wpAny _ _ (setField (.ref e) 4 .none >>= _) _ _ ⟨h₂, g, d, tk + 1, os⟩
  refine wpAny_bind (wpAny_setField_rec he₂ (by simp) fun h₃ he₃ hs₃ => ?_)
  replace hs₃ : Heap.SameBut e h₂ h₃ := hs₃
  replace he₃ : IsEnum h₃ e it ((i : Int) + 1) old := he₃
  show wpAny _ _ (newTuple [.int i tk, x] >>= _) _ _ ⟨h₃, g, d, tk + 1, os⟩
  refine wpAny_bind (wpAny_newTuple ?_)
  have he₄ : IsEnum (h₃.push { cls := .type "tuple", data := .seq #[.int i tk, x] }) e it ((i : Int) + 1) old := Heap.get?_push_of_some _ he₃
  generalize hh₄ : h₃.push { cls := .type "tuple", data := .seq #[.int i tk, x] } = h₄ at he₄
  have hsz : h₃.objs.size = h₁.objs.size := by rw [hs₃.1, hs₂.1]
  have hel : e < h₁.objs.size := Heap.lt_size he₁
  have ht₄ : h₄.get? h₁.objs.size = some { cls := .type "tuple", data := .seq #[.int i tk, x] } := by rw [← hh₄, ← hsz]; exact Heap.get?_push_size _ rfl
  have hz₄ : h₄.objs.size = h₁.objs.size + 1 := by rw [← hh₄, Heap.size_push, hsz]
  have hk₄ : ∀ b o, b ≠ e → h₁.get? b = some o → h₄.get? b = some o := fun b o hbe hb => by
    rw [← hh₄]; exact Heap.get?_push_of_some _ (hs₃.extBut b o hbe (hs₂.extBut b o hbe hb))
  show wpAny _ _ (Builtin.SmallTypes.ownedTupleIsFree (.ref e) >>= _) _ _ ⟨h₄, g, d, tk + 1, os⟩
  rw [hsz]
  refine wpAny_bind ?_
  · unfold Builtin.SmallTypes.ownedTupleIsFree
    refine wpAny_bind (wpAny_field he₄ rfl (x := .none) rfl (wpAny_pure ?_))
    simp only [if_true]
    refine wpAny_bind (wpAny_rule ?_)
    refine wpAny_bind (wpAny_field he₄ rfl (x := old) rfl ?_)
    refine wpAny_bind (wpAny_setField_rec he₄ (by simp) fun h₅ he₅ hs₅ => ?_)
    replace hs₅ : Heap.SameBut e h₄ h₅ := hs₅
    replace he₅ : IsEnum h₅ e it ((i : Int) + 1) x := he₅
    show wpAny _ _ (Builtin.SmallTypes.ownedTupleHandOut (.ref e) (.ref h₁.objs.size) >>= _) _ _ ⟨h₅, g, d, tk + 1, os⟩
    refine wpAny_bind ?_
    · unfold Builtin.SmallTypes.ownedTupleHandOut
      refine wpAny_bind (wpAny_setField_rec he₅ (by simp) fun h₆ he₆ hs₆ => ?_)
      replace hs₆ : Heap.SameBut e h₅ h₆ := hs₆
      replace he₆ : IsEnumOut h₆ e it ((i : Int) + 1) x h₁.objs.size := he₆
      refine wpAny_setField_rec he₆ (by simp) fun h₇ he₇ hs₇ => ?_
      replace hs₇ : Heap.SameBut e h₆ h₇ := hs₇
      replace he₇ : IsEnumOut h₇ e it ((i : Int) + 1) x h₁.objs.size := he₇
      refine wpAny_bind (wpAny_letGo (wpAny_pure ⟨_, rfl, hQ x h₁ h₇ hPx he₇ ?_ ?_ ?_⟩))
      · exact hs₇.extBut _ _ (Nat.ne_of_gt hel) (hs₆.extBut _ _ (Nat.ne_of_gt hel) (hs₅.extBut _ _ (Nat.ne_of_gt hel) ht₄))
      · rw [hs₇.1, hs₆.1, hs₅.1, hz₄]
      · exact fun b o hbe hb => hs₇.extBut b o hbe (hs₆.extBut b o hbe (hs₅.extBut b o hbe (hk₄ b o hbe hb)))
theorem pyNext_enum_gen {e it : Addr} {i : Nat} {old : Value} {Q : Option Value → Shared → Prop} {Pm : Value → Heap → Prop} (he : IsEnum s.heap e it i old)
    (hin : ∀ (A : Around) (E : Value → Shared → Prop) (Q1 : Value → Shared → Prop), (∀ x h₁, Pm x h₁ → h₁.get? e = s.heap.get? e → s.heap.objs.size ≤ h₁.objs.size → Q1 x { s with heap := h₁ }) → wpAny (model prog w) A (Builtin.SmallTypes.nextOf (.ref it)) Q1 E s)
    (hQ : ∀ x h₁ h', Pm x h₁ → IsEnumOut h' e it ((i : Int) + 1) x h₁.objs.size → h'.get? h₁.objs.size = some { cls := .type "tuple", data := .seq #[.int i s.toks, x] } → h'.objs.size = h₁.objs.size + 1 →
      (∀ b o, b ≠ e → h₁.get? b = some o → h'.get? b = some o) → Q (some (.ref h₁.objs.size)) { s with heap := h', toks := s.toks + 1 }) :
    wpAny (model prog w) A (pyNext (.ref e)) Q E s := by
  have hT : s.TypeIs (.ref e) "enumerate" := ⟨_, he, rfl⟩
  unfold pyNext
  exact wpAny_bind (wpAny_attempt (wpAny_callSpecial?_slot (name := Str.ofString "__next__") hT F.slot_enumerate_next
    (wpAny_call_entry F.slot_enumerate_next hT F.entry_enumerate_next
      (enum_next_gen (x := .none) he (hin _ _) fun x h₁ h' a b c d k => wpAny_pure (hQ x h₁ h' a b c d k)) (F.args_enumerate_next_1 _))))
theorem pyNext_enum_end {e it : Addr} {i : Int} {old : Value} {Q : Option Value → Shared → Prop} {Pe : Heap → Prop} (hh : A.handled = none) (he : IsEnum s.heap e it i old)
    (hin : ∀ (A : Around) (Q1 : Value → Shared → Prop) (E1 : Value → Shared → Prop), A.handled = none → (∀ h' x, Pe h' → (∃ o, h'.get? x = some o ∧ o.cls = .type "StopIteration") → E1 (.ref x) { s with heap := h' }) → wpAny (model prog w) A (Builtin.SmallTypes.nextOf (.ref it)) Q1 E1 s)
    (hQ : ∀ h', Pe h' → Q none { s with heap := h' }) : wpAny (model prog w) A (pyNext (.ref e)) Q E s := by
  have hT : s.TypeIs (.ref e) "enumerate" := ⟨_, he, rfl⟩
  unfold pyNext
  refine wpAny_bind (wpAny_attempt (wpAny_callSpecial?_slot (name := Str.ofString "__next__") hT F.slot_enumerate_next
    (wpAny_call_entry F.slot_enumerate_next hT F.entry_enumerate_next ?_ (F.args_enumerate_next_1 _))))
  show wpAny _ _ (field (.ref e) 2 >>= _) _ _ _
  refine wpAny_bind (wpAny_field he rfl (x := .ref it) rfl ?_)
  refine wpAny_bind (hin _ _ _ hh fun h' x hpe hx' => ?_)
  obtain ⟨o, ho, hc⟩ := hx'
  refine wpAny_bind (wpAny_isInstance (T := "StopIteration") (b := true) ⟨o, ho, hc⟩ isSubtype_stop ?_)
  exact wpAny_pure (hQ _ hpe)
end
end DZ
/-! Part 20: what is walked: zip of lists and tuples, enumerate of either, enumerate(zip(..)) -/
namespace DZ
open PySem PyProof.Rows L2
section
variable {X : Cx} {pins : List (Addr × Obj)} {σ : L2.St} {H : Hp} {s : Shared} {a : Addr} {xs ys : List V} {b : Bool}
theorem inv_sqB (I : Inv X pins σ H s) (h : SqB b X.K H a xs) : ∃ its : List Value, Vals xs its ∧ IsSq b s.heap a its.toArray ∧ a < s.heap.objs.size := by
  cases b with
  | true =>
    obtain ⟨its, r, p, _⟩ := I.tuple h
    exact ⟨its, r, p, IsSq.lt (b := true) p⟩
  | false =>
    obtain ⟨its, r, p, _⟩ := I.list h
    exact ⟨its, r, p.isList, p.lt⟩
theorem sqB_inj (I : Inv X pins σ H s) (h : SqB b X.K H a xs) (h' : SqB b X.K H a ys) : xs = ys := by
  cases b with
  | true => exact I.tuple_inj h h'
  | false => exact I.list_inj h h'
end
/-! ### zip -/
def ItZ (b1 b2 : Bool) (K : PySem.W.Frag) (a a' : Addr) : It :=
  ⟨fun i H => ∃ (xs ys : List V) (x y : V), SqB b1 K H a xs ∧ SqB b2 K H a' ys ∧ xs[i]? = some x ∧ ys[i]? = some y,
    fun i H v H' => ∃ T x y, v = .ref T ∧ H T = none ∧ H' = upd H T (.tup [x, y]) ∧ (∀ xs, SqB b1 K H a xs → xs[i]? = some x) ∧ ∀ ys, SqB b2 K H a' ys → ys[i]? = some y,
    fun i H => ∃ xs ys : List V, SqB b1 K H a xs ∧ SqB b2 K H a' ys ∧ (xs.length ≤ i ∨ ys.length ≤ i)⟩
def ZSt (b1 b2 : Bool) (z TI TO i1 i2 a a' : Addr) (i : Nat) (h : Heap) : Prop :=
  (∃ f0 fl, Fr0 f0 ∧ IsZipF h z TI TO f0 fl) ∧ IsPair h TI (.ref i1) (.ref i2) ∧ (∃ x y, IsPair h TO x y) ∧ IsSqIt b1 h i1 a i ∧ IsSqIt b2 h i2 a' i
section
variable {b1 b2 : Bool} {z TI TO i1 i2 a a' : Addr} {i : Nat} {h h' : Heap}
theorem ZSt.obj (st : ZSt b1 b2 z TI TO i1 i2 a a' i h) : ∀ c ∈ [z, TI, TO, i1, i2], ∃ o, h.get? c = some o ∧ ∀ v, o.data ≠ .cell v := by
  obtain ⟨⟨f0, fl, _, hz⟩, hTI, ⟨x, y, hTO⟩, q1, q2⟩ := st
  intro c hc
  have e' : c = z ∨ c = TI ∨ c = TO ∨ c = i1 ∨ c = i2 := by simpa using hc
  rcases e' with q | q | q | q | q
  · rw [q]; exact ⟨_, hz, fun v q => nomatch q⟩
  · rw [q]; exact ⟨_, hTI, fun v q => nomatch q⟩
  · rw [q]; exact ⟨_, hTO, fun v q => nomatch q⟩
  · rw [q]; exact q1.ob
  · rw [q]; exact q2.ob
theorem ZSt.keep (st : ZSt b1 b2 z TI TO i1 i2 a a' i h) (k : ∀ b ∈ [z, TI, TO, i1, i2], ∀ o, h.get? b = some o → h'.get? b = some o) : ZSt b1 b2 z TI TO i1 i2 a a' i h' := by
  obtain ⟨⟨f0, fl, hf, hz⟩, hTI, ⟨x, y, hTO⟩, h1, h2⟩ := st
  exact ⟨⟨f0, fl, hf, k z (by simp) _ hz⟩, k TI (by simp) _ hTI, ⟨x, y, k TO (by simp) _ hTO⟩, h1.at fun o q => k i1 (by simp) o q, h2.at fun o q => k i2 (by simp) o q⟩
theorem ZSt.lt (st : ZSt b1 b2 z TI TO i1 i2 a a' i h) : ∀ c ∈ [z, TI, TO, i1, i2], c < h.objs.size := fun c hc => by
  obtain ⟨o, e, _⟩ := st.obj c hc
  exact Heap.lt_size e
end
theorem turn_zipB {P : Program} {w : World} {K : PySem.W.Frag} {elts : List Expr} {kk : Nat} {tpos : Pos} {b1 b2 : Bool} {a a' z TI TO i1 i2 : Addr} (D : ZipApart z TI TO i1 i2 a a') :
    Turn P w K (.Tuple elts kk tpos) (ItZ b1 b2 K a a') [z, TI, TO, i1, i2] z (ZSt b1 b2 z TI TO i1 i2 a a') where
  mem := by simp
  obj := fun i h st => st.obj
  keep := fun i h h' st k => st.keep k
  item := by
    intro X hP hw hK hc i pins s σ H E I hf st hg
    subst hP hw hK
    have hlt := st.lt
    obtain ⟨⟨f0, fl, hf0, hz⟩, hTI, ⟨x0, y0, hTO⟩, h1, h2⟩ := st
    obtain ⟨xs, ys, x, y, hqx, hqy, hx, hy⟩ := hg
    obtain ⟨its, rv, p, _⟩ := inv_sqB I hqx
    obtain ⟨its2, rv2, p2, _⟩ := inv_sqB I hqy
    obtain ⟨u, hu, ru⟩ := rv.get hx
    obtain ⟨u2, hu2, ru2⟩ := rv2.get hy
    have hzl : z < s.heap.objs.size := Heap.lt_size hz
    refine pyNext_zipF_item D hf0 hz hTI hTO h1 h2 p p2 (x := u) (y := u2) (by simpa using hu) (by simpa using hu2) fun h' g0 gl c c' hg0 z' TO' h1' h2' hT hsz hk => ?_
    refine ⟨_, rfl, letGoF (s := { s with heap := h' }) hg0 z' fun h'' g1 hg1 z'' sb => ?_⟩
    have hT2 : h''.get? s.heap.objs.size = some { cls := .type "tuple", data := .seq #[u, u2] } := (sb.2 _ (Nat.ne_of_gt hzl)).trans hT
    have new : ObjOk X.prog X.w (upd H s.heap.objs.size (.tup [x, y])) h'' s.heap.objs.size (.tup [x, y]) :=
      ⟨by show 2 ≤ sizeLine; decide, [u, u2], .cons ru (.cons ru2 .nil), ⟨_, hT2, rfl, _, rfl⟩⟩
    have I1 : Inv X pins σ (upd H s.heap.objs.size (.tup [x, y])) { s with heap := h'' } :=
      I.turnedNew (t' := s.toks) (ch := [z, TI, TO, i1, i2]) (fun c o hb q => (sb.2 c (fun q' => hb (by simp [q']))).trans (hk c o (fun q' => hb (by simp [q'])) (fun q' => hb (by simp [q'])) (fun q' => hb (by simp [q'])) (fun q' => hb (by simp [q'])) q)) hf (Nat.le_refl _) new
    refine ⟨.ref s.heap.objs.size, _, I1, rfl, ⟨_, x, y, rfl, I.hok.fresh (Nat.le_refl _), rfl, fun l hl => by rw [sqB_inj I hl hqx]; exact hx, fun l hl => by rw [sqB_inj I hl hqy]; exact hy⟩, ⟨⟨g1, gl, hg1, z''⟩, ?_, ⟨c, c', ?_⟩, ?_, ?_⟩, fun c hcm => ?_⟩
    · exact (sb.2 _ D.TIz).trans (hk _ _ D.TIz D.TITO D.TIi1 D.TIi2 hTI)
    · exact (sb.2 _ D.TOz).trans TO'
    · exact h1'.at fun o q => (sb.2 _ D.i1z).trans q
    · exact h2'.at fun o q => (sb.2 _ D.i2z).trans q
    · rw [upd_ne (Nat.ne_of_lt (hlt c hcm))]
      exact (hf c hcm).1
  done := by
    intro X hP hw hK hc i pins s σ H E I hf st hg
    subst hP hw hK
    obtain ⟨⟨f0, fl, hf0, hz⟩, hTI, ⟨x0, y0, hTO⟩, h1, h2⟩ := st
    obtain ⟨xs, ys, hqx, hqy, hend⟩ := hg
    obtain ⟨its, rv, p, _⟩ := inv_sqB I hqx
    obtain ⟨its2, rv2, p2, _⟩ := inv_sqB I hqy
    have l1 := rv.length
    have l2 := rv2.length
    have he : its.toArray[i]? = none ∨ its2.toArray[i]? = none := by
      rcases hend with q | q
      · exact .inl (by simp; omega)
      · exact .inr (by simp; omega)
    exact pyNext_zipF_end (I.ok.hd hc) D hf0 hz hTI hTO h1 h2 p p2 he fun h' hk => ⟨rfl, I.turnedL (t' := s.toks) (ch := [z, TI, TO, i1, i2]) (fun c o hb q =>
      hk c o (fun q' => hb (by simp [q'])) (fun q' => hb (by simp [q'])) (fun q' => hb (by simp [q'])) (fun q' => hb (by simp [q'])) q) hf⟩
  self := fun A i s Q E st h => by
    obtain ⟨⟨f0, fl, _, hz⟩, _⟩ := st
    exact pyIter_zipF hz h
def iZipB (K : PySem.W.Frag) (ta : TA) : TI := fun σ H R => ta σ H fun vs H1 => ∃ a a' xs ys b1 b2, vs = [.ref a, .ref a'] ∧ SqB b1 K H1 a xs ∧ SqB b2 K H1 a' ys ∧ R (ItZ b1 b2 K a a') H1
theorem pi_zipB {X : Cx} {e e2 : Expr} {ta : TA} {p pos tpos : Pos} {elts : List Expr} {kk : Nat} (hg : Gl X "zip") (hm : X.mg "zip" = none) (ha : PA X [e, e2] ta)
    (hs : starEach [e, e2] X.env = (false, eval e X.env) :: starEach [e2] X.env := by rfl) (hpl : (backTo pos (starEach [e2] X.env)).any (·.1) = false := by rfl) :
    PI X (.Tuple elts kk tpos) (.Call (.Name "zip" p) [e, e2] [] pos) (iZipB X.K ta) := by
  refine ⟨fun pins s σ H R I h => ?_⟩
  refine Call_ (ld_blt I hg hm PyProof.Rows.boot_zip (PyProof.Rows.callWith_type1 (thn (ha.run pos pins s σ H _ I h) fun us s1 ⟨vs, H1, I1, r1, q1⟩ => ?_) hs hpl))
  obtain ⟨a, a', xs, ys, b1, b2, ex, hqx, hqy, q⟩ := q1
  subst ex
  cases r1 with
  | cons r rr =>
    cases rr with
    | cons r' rr =>
      cases rr
      cases r
      cases r'
      obtain ⟨its, rv, p1, la⟩ := inv_sqB I1 hqx
      obtain ⟨its2, rv2, p2, lb⟩ := inv_sqB I1 hqy
      refine call_zipB p1 p2 fun h' hz hTI hTO h1 h2 hsz hk => pyIter_zipF hz ?_
      have I2 : Inv X pins σ H1 { s1 with heap := h' } := I1.kept (t' := s1.toks) hk
      refine ⟨s1.heap.objs.size + 4, [s1.heap.objs.size + 4, s1.heap.objs.size + 2, s1.heap.objs.size + 3, s1.heap.objs.size, s1.heap.objs.size + 1], _, _, H1, rfl, I2, turn_zipB (PySem.W.ktu_apart s1.heap.objs.size a a' la lb), ⟨⟨_, _, .inl rfl, hz⟩, hTI, ⟨_, _, hTO⟩, h1, h2⟩, fun c hcm => ?_, q⟩
      have e' : c = s1.heap.objs.size + 4 ∨ c = s1.heap.objs.size + 2 ∨ c = s1.heap.objs.size + 3 ∨ c = s1.heap.objs.size ∨ c = s1.heap.objs.size + 1 := by simpa using hcm
      have hle : s1.heap.objs.size ≤ c := by
        rcases e' with z | z | z | z | z
        · rw [z]; exact Nat.le_add_right _ _
        · rw [z]; exact Nat.le_add_right _ _
        · rw [z]; exact Nat.le_add_right _ _
        · rw [z]; exact Nat.le_refl _
        · rw [z]; exact Nat.le_add_right _ _
      exact I1.fpOk hle (I1.hok.fresh hle)
/-! ### enumerate(tuple) -/
def ItT (K : PySem.W.Frag) (a : Addr) : It :=
  ⟨fun i H => ∃ (xs : List V) (x : V), SqT K H a xs ∧ xs[i]? = some x, fun i H v H' => ∃ T x, v = .ref T ∧ H T = none ∧ H' = upd H T (.tup [.int (i : Nat), x]) ∧ ∀ xs, SqT K H a xs → xs[i]? = some x, fun i H => ∃ xs : List V, SqT K H a xs ∧ xs.length ≤ i⟩
theorem turn_enumT {P : Program} {w : World} {K : PySem.W.Frag} {elts : List Expr} {kk : Nat} {tpos : Pos} (a e it : Addr) :
    Turn P w K (.Tuple elts kk tpos) (ItT K a) [e, it] e (fun i h => (∃ old, IsEnum h e it ((i : Nat) : Int) old) ∧ h.IsTupleIter it a i ∧ e ≠ it) where
  mem := by simp
  obj := fun i h st b hb => by
    obtain ⟨⟨old, he⟩, ⟨o, ho, hc, hd⟩, _⟩ := st
    have e' : b = e ∨ b = it := by simpa using hb
    rcases e' with z | z
    · rw [z]; exact ⟨_, he, fun v q => nomatch q⟩
    · rw [z]; exact ⟨o, ho, fun v q => by rw [hd] at q; cases q⟩
  keep := fun i h h' st k => let ⟨⟨old, he⟩, hi, hne⟩ := st; ⟨⟨old, k e (by simp) _ he⟩, hi.at fun o q => k it (by simp) o q, hne⟩
  item := by
    intro X hP hw hK hc i pins s σ H E I hf st hg
    subst hP hw hK
    obtain ⟨⟨old, he⟩, hit, hne⟩ := st
    obtain ⟨xs, x, hq, hx⟩ := hg
    obtain ⟨its, rv, p, hz⟩ := I.tuple hq
    obtain ⟨u, hu, ru⟩ := rv.get hx
    have hel : e < s.heap.objs.size := Heap.lt_size he
    have hil : it < s.heap.objs.size := by obtain ⟨_, q, _⟩ := hit; exact Heap.lt_size q
    refine pyNext_enum_gen (Pm := fun x h₁ => x = u ∧ h₁.IsTupleIter it a (i + 1) ∧ Heap.SameBut it s.heap h₁) he
      (fun A E Q1 k => RZ.nextOf_tuple_item hit p (x := u) (by simpa using hu) fun h' h1 h2 => k u h' ⟨rfl, h1, h2⟩ (h2.2 e hne) (by rw [h2.1] <;> exact Nat.le_refl _)) fun x' h₁ h' ⟨ex, hit', sb1⟩ ho hT hsz hk => ?_
    subst ex
    have s1 : h₁.objs.size = s.heap.objs.size := sb1.1
    rw [s1] at ho hT hsz ⊢
    refine ⟨_, rfl, wpAny_letOwnedTupleGo_enum (s := { s with heap := h', toks := s.toks + 1 }) ho fun h'' he' sb => ?_⟩
    have hT2 : h''.get? s.heap.objs.size = some { cls := .type "tuple", data := .seq #[.int i s.toks, x'] } := (sb.2 _ (Nat.ne_of_gt hel)).trans hT
    have new : ObjOk X.prog X.w (upd H s.heap.objs.size (.tup [.int (i : Nat), x])) h'' s.heap.objs.size (.tup [.int (i : Nat), x]) :=
      ⟨by show 2 ≤ sizeLine; decide, [.int i s.toks, x'], .cons ⟨_, rfl⟩ (.cons ru .nil), ⟨_, hT2, rfl, _, rfl⟩⟩
    have I1 : Inv X pins σ (upd H s.heap.objs.size (.tup [.int (i : Nat), x])) { s with heap := h'', toks := s.toks + 1 } :=
      I.turnedNew (ch := [e, it]) (fun b ob hb q => (sb.2 b (fun z => hb (by simp [z]))).trans (hk b ob (fun z => hb (by simp [z])) (sb1.extBut _ _ (fun z => hb (by simp [z])) q))) hf (Nat.le_refl _) new
    refine ⟨.ref s.heap.objs.size, _, I1, rfl, ⟨_, x, rfl, I.hok.fresh (Nat.le_refl _), rfl, fun ys hy => by rw [I.tuple_inj hy hq]; exact hx⟩, ⟨⟨x', ?_⟩, hit'.at fun o q => (sb.2 it (Ne.symm hne)).trans (hk _ _ (Ne.symm hne) q), hne⟩, fun b hb => ?_⟩
    · have e1 : ((i + 1 : Nat) : Int) = (i : Int) + 1 := by omega
      rw [e1]; exact he'
    · have hb' : b < s.heap.objs.size := by
        have e' : b = e ∨ b = it := by simpa using hb
        rcases e' with z | z
        · rw [z]; exact hel
        · rw [z]; exact hil
      rw [upd_ne (Nat.ne_of_lt hb')]
      exact (hf b hb).1
  done := by
    intro X hP hw hK hc i pins s σ H E I hf st hg
    subst hP hw hK
    obtain ⟨⟨old, he⟩, hit, hne⟩ := st
    obtain ⟨xs, hq, hx⟩ := hg
    obtain ⟨its, rv, p, hz⟩ := I.tuple hq
    obtain ⟨f0, f1, f2, f3, f4, f5⟩ := hf it (by simp)
    have hl := rv.length
    exact pyNext_enum_end (Pe := fun h' => Heap.ExtBut it s.heap h') (I.ok.hd hc) he (fun A Q1 E1 hh k => RZ.nextOf_tuple_end hh hit p (by simp; omega) fun h' x h1 h2 => k h' x h1 h2)
      fun h' eb => ⟨rfl, I.turned (t' := s.toks) (fun b o hb q => eb b o hb q) f0 f1 f3 f4 f5⟩
  self := fun A i s Q E st h => let ⟨⟨_, he⟩, _⟩ := st; wpAny_pyIter_enum he h
def iEnumT (K : PySem.W.Frag) (ta : TA) : TI := fun σ H R => ta σ H fun vs H1 => ∃ a xs, vs = [.ref a] ∧ ((SqL K H1 a xs ∧ R (Ite K a) H1) ∨ (SqT K H1 a xs ∧ R (ItT K a) H1))
theorem pi_enumT {X : Cx} {e : Expr} {ta : TA} {p pos tpos : Pos} {elts : List Expr} {kk : Nat} (hg : Gl X "enumerate") (hm : X.mg "enumerate" = none) (ha : PA X [e] ta) (hs : starEach [e] X.env = [(false, eval e X.env)] := by rfl) :
    PI X (.Tuple elts kk tpos) (.Call (.Name "enumerate" p) [e] [] pos) (iEnumT X.K ta) := by
  refine ⟨fun pins s σ H R I h => ?_⟩
  refine Call_ (ld_blt I hg hm boot_enumerate (PyProof.Rows.callWith_type1 (thn (ha.run pos pins s σ H _ I h) fun us s1 ⟨vs, H1, I1, r1, q1⟩ => ?_) hs rfl))
  obtain ⟨a, xs, ex, q1⟩ := q1
  subst ex
  cases r1 with
  | cons r rr =>
    cases rr
    cases r
    have fr : ∀ b ∈ [s1.heap.objs.size + 1, s1.heap.objs.size], FpOk X pins H1 b := fun b hb => by
      have e' : b = s1.heap.objs.size + 1 ∨ b = s1.heap.objs.size := by simpa using hb
      have hle : s1.heap.objs.size ≤ b := by
        rcases e' with z | z
        · rw [z]; exact Nat.le_add_right _ _
        · rw [z]; exact Nat.le_refl _
      exact I1.fpOk hle (I1.hok.fresh hle)
    rcases q1 with ⟨hq, q⟩ | ⟨hq, q⟩
    · obtain ⟨its, rv, p', hz⟩ := I1.list hq
      refine call_enumerate_list p'.isList fun h' he hit hsz hk => wpAny_pyIter_enum he ?_
      have I2 : Inv X pins σ H1 { s1 with heap := h' } := I1.kept (t' := s1.toks) hk
      exact ⟨s1.heap.objs.size + 1, [s1.heap.objs.size + 1, s1.heap.objs.size], _, _, H1, rfl, I2, turn_enum a (s1.heap.objs.size + 1) s1.heap.objs.size, ⟨⟨.none, he⟩, hit, Nat.succ_ne_self _⟩, fr, q⟩
    · obtain ⟨its, rv, p', hz⟩ := I1.tuple hq
      refine call_enumT (show s1.heap.IsTuple a its.toArray from p') fun h' he hit hsz hk => wpAny_pyIter_enum he ?_
      have I2 : Inv X pins σ H1 { s1 with heap := h' } := I1.kept (t' := s1.toks) hk
      exact ⟨s1.heap.objs.size + 1, [s1.heap.objs.size + 1, s1.heap.objs.size], _, _, H1, rfl, I2, turn_enumT a (s1.heap.objs.size + 1) s1.heap.objs.size, ⟨⟨.none, he⟩, hit, Nat.succ_ne_self _⟩, fr, q⟩
/-! ### enumerate(zip(..)) -/
def ItEZ (b1 b2 : Bool) (K : PySem.W.Frag) (a a' : Addr) : It :=
  ⟨fun i H => ∃ (xs ys : List V) (x y : V), SqB b1 K H a xs ∧ SqB b2 K H a' ys ∧ xs[i]? = some x ∧ ys[i]? = some y,
    fun i H v H' => ∃ T R x y, v = .ref R ∧ H T = none ∧ H R = none ∧ R ≠ T ∧ H' = upd (upd H T (.tup [x, y])) R (.tup [.int (i : Nat), .ref T]) ∧ (∀ xs, SqB b1 K H a xs → xs[i]? = some x) ∧ ∀ ys, SqB b2 K H a' ys → ys[i]? = some y,
    fun i H => ∃ xs ys : List V, SqB b1 K H a xs ∧ SqB b2 K H a' ys ∧ (xs.length ≤ i ∨ ys.length ≤ i)⟩
theorem turn_enumZ {P : Program} {w : World} {K : PySem.W.Frag} {elts : List Expr} {kk : Nat} {tpos : Pos} {b1 b2 : Bool} {a a' e z TI TO i1 i2 : Addr} (D : ZipApart z TI TO i1 i2 a a') (hez : e ∉ [z, TI, TO, i1, i2]) :
    Turn P w K (.Tuple elts kk tpos) (ItEZ b1 b2 K a a') [e, z, TI, TO, i1, i2] e (fun i h => (∃ old, IsEnum h e z ((i : Nat) : Int) old) ∧ ZSt b1 b2 z TI TO i1 i2 a a' i h) where
  mem := by simp
  obj := fun i h st c hc => by
    obtain ⟨⟨old, he⟩, st⟩ := st
    rcases List.mem_cons.mp hc with q | q
    · rw [q]; exact ⟨_, he, fun v q => nomatch q⟩
    · exact st.obj c q
  keep := fun i h h' st k => by
    obtain ⟨⟨old, he⟩, st⟩ := st
    exact ⟨⟨old, k e (by simp) _ he⟩, st.keep fun b hb => k b (List.mem_cons_of_mem _ hb)⟩
  item := by
    intro X hP hw hK hc i pins s σ H E I hf st hg
    subst hP hw hK
    obtain ⟨⟨old, he⟩, st⟩ := st
    have hlt := st.lt
    obtain ⟨⟨f0, fl, hf0, hz⟩, hTI, ⟨x0, y0, hTO⟩, h1, h2⟩ := st
    obtain ⟨xs, ys, x, y, hqx, hqy, hx, hy⟩ := hg
    obtain ⟨its, rv, p, _⟩ := inv_sqB I hqx
    obtain ⟨its2, rv2, p2, _⟩ := inv_sqB I hqy
    obtain ⟨u, hu, ru⟩ := rv.get hx
    obtain ⟨u2, hu2, ru2⟩ := rv2.get hy
    have hel : e < s.heap.objs.size := Heap.lt_size he
    have ez : e ≠ z := fun q => hez (by simp [q])
    have eTI : e ≠ TI := fun q => hez (by simp [q])
    have eTO : e ≠ TO := fun q => hez (by simp [q])
    have e1 : e ≠ i1 := fun q => hez (by simp [q])
    have e2 : e ≠ i2 := fun q => hez (by simp [q])
    refine pyNext_enum_gen (Pm := fun v h₁ => v = .ref s.heap.objs.size ∧ ZSt b1 b2 z TI TO i1 i2 a a' (i + 1) h₁ ∧ IsPair h₁ s.heap.objs.size u u2 ∧ h₁.objs.size = s.heap.objs.size + 1 ∧
        (∀ c o, c ≠ z → c ≠ TO → c ≠ i1 → c ≠ i2 → s.heap.get? c = some o → h₁.get? c = some o)) he
      (fun A E Q1 k => nextOf_zip_item D hf0 hz hTI hTO h1 h2 p p2 (x := u) (y := u2) (by simpa using hu) (by simpa using hu2) fun h' g0 gl c c' hg0 z' TO' h1' h2' hT hsz hk =>
        k _ h' ⟨rfl, ⟨⟨g0, gl, hg0, z'⟩, hk _ _ D.TIz D.TITO D.TIi1 D.TIi2 hTI, ⟨c, c', TO'⟩, h1', h2'⟩, hT, hsz, hk⟩ ((hk e _ ez eTO e1 e2 he).trans he.symm) (by rw [hsz] <;> exact Nat.le_succ _)) fun v h₁ h' ⟨ev, st1, hp1, hs1, hk1⟩ ho hT hsz hk => ?_
    subst ev
    rw [hs1] at ho hT hsz ⊢
    refine ⟨_, rfl, wpAny_letOwnedTupleGo_enum (s := { s with heap := h', toks := s.toks + 1 }) ho fun h'' he' sb => ?_⟩
    have newT : ObjOk X.prog X.w (upd H s.heap.objs.size (.tup [x, y])) h₁ s.heap.objs.size (.tup [x, y]) :=
      ⟨by show 2 ≤ sizeLine; decide, [u, u2], .cons ru (.cons ru2 .nil), ⟨_, hp1, rfl, _, rfl⟩⟩
    have I1 : Inv X pins σ (upd H s.heap.objs.size (.tup [x, y])) { s with heap := h₁, toks := s.toks } :=
      I.turnedNew (ch := [e, z, TI, TO, i1, i2]) (fun c o hb q => hk1 c o (fun q' => hb (by simp [q'])) (fun q' => hb (by simp [q'])) (fun q' => hb (by simp [q'])) (fun q' => hb (by simp [q'])) q) hf (Nat.le_refl _) newT
    have hltA : ∀ c ∈ [e, z, TI, TO, i1, i2], c < s.heap.objs.size := fun c hc => by
      rcases List.mem_cons.mp hc with q | q
      · rw [q]; exact hel
      · exact hlt c q
    have hf1 : ∀ c ∈ [e, z, TI, TO, i1, i2], FpOk X pins (upd H s.heap.objs.size (.tup [x, y])) c := fun c hc => by
      obtain ⟨q0, q1⟩ := hf c hc
      exact ⟨by rw [upd_ne (Nat.ne_of_lt (hltA c hc))]; exact q0, q1⟩
    have hR2 : h''.get? (s.heap.objs.size + 1) = some { cls := .type "tuple", data := .seq #[.int i s.toks, .ref s.heap.objs.size] } := (sb.2 (s.heap.objs.size + 1) (Nat.ne_of_gt (Nat.lt_succ_of_lt hel))).trans hT
    have newR : ObjOk X.prog X.w (upd (upd H s.heap.objs.size (.tup [x, y])) (s.heap.objs.size + 1) (.tup [.int (i : Nat), .ref s.heap.objs.size])) h'' (s.heap.objs.size + 1) (.tup [.int (i : Nat), .ref s.heap.objs.size]) :=
      ⟨by show 2 ≤ sizeLine; decide, [.int i s.toks, .ref s.heap.objs.size], .cons ⟨_, rfl⟩ (.cons rfl .nil), ⟨_, hR2, rfl, _, rfl⟩⟩
    have I2 : Inv X pins σ (upd (upd H s.heap.objs.size (.tup [x, y])) (s.heap.objs.size + 1) (.tup [.int (i : Nat), .ref s.heap.objs.size])) { s with heap := h'', toks := s.toks + 1 } :=
      I1.turnedNew (t' := s.toks + 1) (ch := [e, z, TI, TO, i1, i2]) (fun c o hb q => (sb.2 c (fun z => hb (by simp [z]))).trans (hk c o (fun z => hb (by simp [z])) q)) hf1 (by rw [show ({ s with heap := h₁, toks := s.toks } : Shared).heap = h₁ from rfl, hs1] <;> exact Nat.le_refl _) newR
    have hH1 : H s.heap.objs.size = none := I.hok.fresh (Nat.le_refl _)
    have hH2 : H (s.heap.objs.size + 1) = none := I.hok.fresh (Nat.le_succ _)
    refine ⟨.ref (s.heap.objs.size + 1), _, I2, rfl, ⟨s.heap.objs.size, s.heap.objs.size + 1, x, y, rfl, hH1, hH2, Nat.succ_ne_self _, rfl, fun l hl => by rw [sqB_inj I hl hqx]; exact hx, fun l hl => by rw [sqB_inj I hl hqy]; exact hy⟩, ⟨⟨.ref s.heap.objs.size, ?_⟩, st1.keep fun c hc o q => ?_⟩, fun c hc => ?_⟩
    · have e1 : ((i + 1 : Nat) : Int) = (i : Int) + 1 := by omega
      rw [e1]; exact he'
    · have ne : c ≠ e := fun z => hez (by rw [← z]; exact hc)
      exact (sb.2 c ne).trans (hk c o ne q)
    · have hl := hltA c hc
      rw [upd_ne (Nat.ne_of_lt (Nat.lt_succ_of_lt hl)), upd_ne (Nat.ne_of_lt hl)]
      exact (hf c hc).1
  done := by
    intro X hP hw hK hc i pins s σ H E I hf st hg
    subst hP hw hK
    obtain ⟨⟨old, he⟩, ⟨f0, fl, hf0, hz⟩, hTI, ⟨x0, y0, hTO⟩, h1, h2⟩ := st
    obtain ⟨xs, ys, hqx, hqy, hend⟩ := hg
    obtain ⟨its, rv, p, _⟩ := inv_sqB I hqx
    obtain ⟨its2, rv2, p2, _⟩ := inv_sqB I hqy
    have l1 := rv.length
    have l2 := rv2.length
    have hen : its.toArray[i]? = none ∨ its2.toArray[i]? = none := by
      rcases hend with q | q
      · exact .inl (by simp; omega)
      · exact .inr (by simp; omega)
    exact pyNext_enum_end (Pe := fun h' => ∀ c o, c ≠ z → c ≠ TO → c ≠ i1 → c ≠ i2 → s.heap.get? c = some o → h'.get? c = some o) (I.ok.hd hc) he
      (fun A Q1 E1 hh k => nextOf_zip_end hh D hf0 hz hTI hTO h1 h2 p p2 hen fun h' x h1 h2 => k h' x h1 h2)
      fun h' hk => ⟨rfl, I.turnedL (t' := s.toks) (ch := [e, z, TI, TO, i1, i2]) (fun c o hb q => hk c o (fun q' => hb (by simp [q'])) (fun q' => hb (by simp [q'])) (fun q' => hb (by simp [q'])) (fun q' => hb (by simp [q'])) q) hf⟩
  self := fun A i s Q E st h => let ⟨⟨_, he⟩, _⟩ := st; wpAny_pyIter_enum he h
theorem apart6 (n a a' : Nat) : n + 5 ∉ [n + 4, n + 2, n + 3, n, n + 1] := by
  simp only [List.mem_cons, List.not_mem_nil, or_false, not_or]
  omega
def iEnumZ (K : PySem.W.Frag) (ta : TA) : TI := fun σ H R => ta σ H fun vs H1 => ∃ a a' xs ys b1 b2, vs = [.ref a, .ref a'] ∧ SqB b1 K H1 a xs ∧ SqB b2 K H1 a' ys ∧ R (ItEZ b1 b2 K a a') H1
theorem pi_enumZ {X : Cx} {e e2 : Expr} {ta : TA} {p p2 pos pos2 tpos : Pos} {elts : List Expr} {kk : Nat} (hg : Gl X "enumerate") (hm : X.mg "enumerate" = none) (hg2 : Gl X "zip") (hm2 : X.mg "zip" = none) (ha : PA X [e, e2] ta)
    (hs : starEach [e, e2] X.env = (false, eval e X.env) :: starEach [e2] X.env := by rfl) (hpl : (backTo pos2 (starEach [e2] X.env)).any (·.1) = false := by rfl)
    (hs1 : starEach [Expr.Call (.Name "zip" p2) [e, e2] [] pos2] X.env = (false, eval (.Call (.Name "zip" p2) [e, e2] [] pos2) X.env) :: starEach [] X.env := by rfl) :
    PI X (.Tuple elts kk tpos) (.Call (.Name "enumerate" p) [.Call (.Name "zip" p2) [e, e2] [] pos2] [] pos) (iEnumZ X.K ta) := by
  refine ⟨fun pins s σ H R I h => ?_⟩
  refine Call_ (ld_blt I hg hm boot_enumerate (PyProof.Rows.callWith_type1 (PyProof.Rows.args_cons ?_ hs1) hs1 rfl))
  refine Call_ (ld_blt I hg2 hm2 PyProof.Rows.boot_zip (PyProof.Rows.callWith_type1 (thn (ha.run pos2 pins s σ H _ I h) fun us s1 ⟨vs, H1, I1, r1, q1⟩ => ?_) hs hpl))
  obtain ⟨a, a', xs, ys, b1, b2, ex, hqx, hqy, q⟩ := q1
  subst ex
  cases r1 with
  | cons r rr =>
    cases rr with
    | cons r' rr =>
      cases rr
      cases r
      cases r'
      obtain ⟨its, rv, p1, la⟩ := inv_sqB I1 hqx
      obtain ⟨its2, rv2, p2, lb⟩ := inv_sqB I1 hqy
      refine call_zipB p1 p2 fun h' hz hTI hTO h1 h2 hsz hk => PyProof.Rows.args_nil ?_
      refine call_enumZ (s := { s1 with heap := h' }) hz fun h3 he hsz3 hk3 => wpAny_pyIter_enum he ?_
      rw [show ({ s1 with heap := h' } : Shared).heap = h' from rfl, hsz] at he
      have I2 : Inv X pins σ H1 { s1 with heap := h3 } := I1.kept (t' := s1.toks) fun b o e => hk3 b o (hk b o e)
      refine ⟨_, [s1.heap.objs.size + 5, s1.heap.objs.size + 4, s1.heap.objs.size + 2, s1.heap.objs.size + 3, s1.heap.objs.size, s1.heap.objs.size + 1], _, _, H1, by rw [show ({ s1 with heap := h' } : Shared).heap = h' from rfl, hsz], I2,
        turn_enumZ (e := s1.heap.objs.size + 5) (PySem.W.ktu_apart s1.heap.objs.size a a' la lb) (apart6 _ a a'), ⟨⟨.none, he⟩, ⟨⟨_, _, .inl rfl, hk3 _ _ hz⟩, hk3 _ _ hTI, ⟨_, _, hk3 _ _ hTO⟩, h1.at fun o e => hk3 _ o e, h2.at fun o e => hk3 _ o e⟩⟩, fun c hcm => ?_, q⟩
      have e' : c = s1.heap.objs.size + 5 ∨ c = s1.heap.objs.size + 4 ∨ c = s1.heap.objs.size + 2 ∨ c = s1.heap.objs.size + 3 ∨ c = s1.heap.objs.size ∨ c = s1.heap.objs.size + 1 := by simpa using hcm
      have hle : s1.heap.objs.size ≤ c := by
        rcases e' with z | z | z | z | z | z
        · rw [z]; exact Nat.le_add_right _ _
        · rw [z]; exact Nat.le_add_right _ _
        · rw [z]; exact Nat.le_add_right _ _
        · rw [z]; exact Nat.le_add_right _ _
        · rw [z]; exact Nat.le_refl _
        · rw [z]; exact Nat.le_add_right _ _
      exact I1.fpOk hle (I1.hok.fresh hle)
end DZ
/-! Part 21: zip, enumerate, enumerate(zip) of lists and tuples; is; targets within targets; range with a step -/
namespace Dn
open PySem PyProof.Rows L2 DZ
def seqOf : PyData → Option (List PyData)
  | .list xs => some xs
  | .tuple xs => some xs
  | _ => none
theorem Le.sqB {K : PySem.W.Frag} {G G' : Hp} {b : Bool} {a : Addr} {xs : List V} (e : Le G G') (h : SqB b K G a xs) : SqB b K G' a xs := by
  cases b with
  | true => exact Le.sqT e h
  | false => exact Le.sqL e h
theorem sh_seq {K : PySem.W.Frag} {G : Hp} {v : V} {d : PyData} {ds : List PyData} (h : Sh K G v d) (e : seqOf d = some ds) : ∃ (b : Bool) (a : Addr) (xs : List V), v = .ref a ∧ SqB b K G a xs ∧ ShL K G xs ds := by
  cases h with
  | lst h1 r => cases e; exact ⟨false, _, _, rfl, SqL.of h1, r⟩
  | tup h1 r => cases e; exact ⟨true, _, _, rfl, h1, r⟩
  | non => cases e
  | bl b => cases e
  | int i => cases e
  | str x => cases e
  | dkk _ _ _ => cases e
  | dtt _ _ _ => cases e
section
variable {K : PySem.W.Frag} {G : Hp} {b1 b2 : Bool} {a a' : Addr} {us ws : List V} {xs ys : List PyData}
theorem walk_zipB (h1 : SqB b1 K G a us) (h2 : SqB b2 K G a' ws) (r1 : ShL K G us xs) (r2 : ShL K G ws ys) : Walk K G (zipD xs ys) (ItZ b1 b2 K a a') where
  go := fun i H l hi => by
    obtain ⟨p, q, q1, q2, _⟩ := zipD_get hi
    obtain ⟨v, q3, _⟩ := r1.get' q1
    obtain ⟨w, q4, _⟩ := r2.get' q2
    exact ⟨_, _, v, w, Le.sqB l h1, Le.sqB l h2, q3, q4⟩
  stop := fun i H l hi => by
    refine ⟨_, _, Le.sqB l h1, Le.sqB l h2, ?_⟩
    unfold zipD at hi
    rw [List.length_map, List.length_zip, ← r1.length, ← r2.length] at hi
    omega
  yld := fun i H x H' l hi y => by
    obtain ⟨T, v, w, e1, e2, e3, q1, q2⟩ := y
    obtain ⟨p, q, q3, q4, q5⟩ := zipD_get hi
    obtain ⟨d1, z1, z2⟩ := r1.get (q1 _ (Le.sqB l h1))
    obtain ⟨d2, z3, z4⟩ := r2.get (q2 _ (Le.sqB l h2))
    rw [q3] at z1
    rw [q4] at z3
    cases z1
    cases z3
    exact ⟨_, q5, .inr (.inl ⟨T, _, _, e1, e2, e3, rfl, .cons z2 (.cons z4 .nil)⟩)⟩
theorem walk_enumZ (h1 : SqB b1 K G a us) (h2 : SqB b2 K G a' ws) (r1 : ShL K G us xs) (r2 : ShL K G ws ys) : Walk K G (enumD 0 (zipD xs ys)) (ItEZ b1 b2 K a a') where
  go := fun i H l hi => by
    rw [enumD_length] at hi
    obtain ⟨p, q, q1, q2, _⟩ := zipD_get hi
    obtain ⟨v, q3, _⟩ := r1.get' q1
    obtain ⟨w, q4, _⟩ := r2.get' q2
    exact ⟨_, _, v, w, Le.sqB l h1, Le.sqB l h2, q3, q4⟩
  stop := fun i H l hi => by
    rw [enumD_length] at hi
    refine ⟨_, _, Le.sqB l h1, Le.sqB l h2, ?_⟩
    unfold zipD at hi
    rw [List.length_map, List.length_zip, ← r1.length, ← r2.length] at hi
    omega
  yld := fun i H x H' l hi y => by
    rw [enumD_length] at hi
    obtain ⟨T, R, v, w, e1, e2, e3, e4, e5, q1, q2⟩ := y
    obtain ⟨p, q, q3, q4, q5⟩ := zipD_get hi
    obtain ⟨d1, z1, z2⟩ := r1.get (q1 _ (Le.sqB l h1))
    obtain ⟨d2, z3, z4⟩ := r2.get (q2 _ (Le.sqB l h2))
    rw [q3] at z1
    rw [q4] at z3
    cases z1
    cases z3
    refine ⟨.tuple [.int (i : Nat), .tuple [p, q]], ?_, .inr (.inr ⟨T, R, [v, w], [p, q], ((i : Nat) : Int), e1, e2, e3, e4, e5, rfl, .cons z2 (.cons z4 .nil)⟩)⟩
    rw [enumD_get, q5]
    simp
theorem walk_enumT (h1 : SqT K G a us) (r1 : ShL K G us xs) : Walk K G (enumD 0 xs) (ItT K a) where
  go := fun i H l hi => by
    rw [enumD_length] at hi
    obtain ⟨v, q3, _⟩ := r1.get' (List.getElem?_eq_getElem hi)
    exact ⟨_, v, Le.sqT l h1, q3⟩
  stop := fun i H l hi => by
    rw [enumD_length] at hi
    exact ⟨_, Le.sqT l h1, by rw [r1.length]; exact hi⟩
  yld := fun i H x H' l hi y => by
    obtain ⟨T, v, e1, e2, e3, q1⟩ := y
    obtain ⟨d1, z1, z2⟩ := r1.get (q1 _ (Le.sqT l h1))
    refine ⟨.tuple [.int (i : Nat), d1], ?_, .inr (.inl ⟨T, _, _, e1, e2, e3, rfl, .cons (.int _) (.cons z2 .nil)⟩)⟩
    rw [enumD_get, z1]
    simp
theorem walk_enumL (h1 : SqL K G a us) (r1 : ShL K G us xs) : Walk K G (enumD 0 xs) (Ite K a) where
  go := fun i H l hi => by
    rw [enumD_length] at hi
    obtain ⟨v, q3, _⟩ := r1.get' (List.getElem?_eq_getElem hi)
    exact ⟨_, v, Le.sqL l h1, q3⟩
  stop := fun i H l hi => by
    rw [enumD_length] at hi
    exact ⟨_, Le.sqL l h1, by rw [r1.length]; exact hi⟩
  yld := fun i H x H' l hi y => by
    obtain ⟨T, v, e1, e2, e3, q1⟩ := y
    obtain ⟨d1, z1, z2⟩ := r1.get (q1 _ (Le.sqL l h1))
    refine ⟨.tuple [.int (i : Nat), d1], ?_, .inr (.inl ⟨T, _, _, e1, e2, e3, rfl, .cons (.int _) (.cons z2 .nil)⟩)⟩
    rw [enumD_get, z1]
    simp
end
section
variable {X : Cx} {F : Entry} {a b e e2 tg : Expr} {es : List Expr} {pos p p1 p2 pos2 tpos : Pos} {fa fb f fi : EE} {ta : AE} {x : Str}
def zipBI (ta : AE) : IE := fun ρ => (ta ρ).bind fun p => (frozeL p.1 p.2).bind fun q => match q.1 with
  | [d, d'] => (seqOf d).bind fun xs => (seqOf d').map fun ys => (zipD xs ys, q.2)
  | _ => none
def enumZI (ta : AE) : IE := fun ρ => (ta ρ).bind fun p => (frozeL p.1 p.2).bind fun q => match q.1 with
  | [d, d'] => (seqOf d).bind fun xs => (seqOf d').map fun ys => (enumD 0 (zipD xs ys), q.2)
  | _ => none
def enumTI (ta : AE) : IE := fun ρ => (ta ρ).bind fun p => (frozeL p.1 p.2).bind fun q => match q.1 with
  | [d] => (seqOf d).map fun xs => (enumD 0 xs, q.2)
  | _ => none
theorem i_zipB {elts : List Expr} {kk : Nat} (hg : Gl X "zip") (hm : X.mg "zip" = none) (ha : DAs X F [e, e2] ta)
    (hs : starEach [e, e2] X.env = (false, eval e X.env) :: starEach [e2] X.env := by rfl) (hpl : (backTo pos (starEach [e2] X.env)).any (·.1) = false := by rfl) :
    DI X F (.Tuple elts kk tpos) (.Call (.Name "zip" p) [e, e2] [] pos) (zipBI ta) := pi_imp (pi_zipB hg hm ha hs hpl) fun σ H R ⟨G, ρ, φ, ts, ds, ρ', I, hf, k⟩ => by
  unfold zipBI at hf
  obtain ⟨⟨rs, ρ1⟩, h1, hf⟩ := Option.bind_eq_some_iff.mp hf
  obtain ⟨⟨dd, ρ2⟩, h2, hf⟩ := Option.bind_eq_some_iff.mp hf
  simp only at h2 hf
  split at hf
  · obtain ⟨xs, z1, hf⟩ := Option.bind_eq_some_iff.mp hf
    obtain ⟨ys, z2, hf⟩ := Option.map_eq_some_iff.mp hf
    cases hf
    refine ⟨G, ρ, φ, ts, rs, ρ1, I, h1, fun G1 H1 φ1 hs e1 I1 => ?_⟩
    subst e1
    obtain ⟨G2, φ2, I2, r2, l2⟩ := I1.frozeL h2
    revert r2
    generalize hs.map Hd.v = vs
    intro r2
    cases r2 with
    | cons ra rr =>
      cases rr with
      | cons rb rr =>
        cases rr
        obtain ⟨b1, a1, us, rfl, q1, q2⟩ := sh_seq ra z1
        obtain ⟨b2, a2, ws, rfl, q3, q4⟩ := sh_seq rb z2
        exact ⟨_, _, _, _, b1, b2, rfl, Le.sqB I2.gh q1, Le.sqB I2.gh q3, k G2 H1 φ2 _ I2 (walk_zipB q1 q3 q2 q4)⟩
  · cases hf
theorem i_enumZ {elts : List Expr} {kk : Nat} (hg : Gl X "enumerate") (hm : X.mg "enumerate" = none) (hg2 : Gl X "zip") (hm2 : X.mg "zip" = none) (ha : DAs X F [e, e2] ta)
    (hs : starEach [e, e2] X.env = (false, eval e X.env) :: starEach [e2] X.env := by rfl) (hpl : (backTo pos2 (starEach [e2] X.env)).any (·.1) = false := by rfl)
    (hs1 : starEach [Expr.Call (.Name "zip" p2) [e, e2] [] pos2] X.env = (false, eval (.Call (.Name "zip" p2) [e, e2] [] pos2) X.env) :: starEach [] X.env := by rfl) :
    DI X F (.Tuple elts kk tpos) (.Call (.Name "enumerate" p) [.Call (.Name "zip" p2) [e, e2] [] pos2] [] pos) (enumZI ta) := pi_imp (pi_enumZ hg hm hg2 hm2 ha hs hpl hs1) fun σ H R ⟨G, ρ, φ, ts, ds, ρ', I, hf, k⟩ => by
  unfold enumZI at hf
  obtain ⟨⟨rs, ρ1⟩, h1, hf⟩ := Option.bind_eq_some_iff.mp hf
  obtain ⟨⟨dd, ρ2⟩, h2, hf⟩ := Option.bind_eq_some_iff.mp hf
  simp only at h2 hf
  split at hf
  · obtain ⟨xs, z1, hf⟩ := Option.bind_eq_some_iff.mp hf
    obtain ⟨ys, z2, hf⟩ := Option.map_eq_some_iff.mp hf
    cases hf
    refine ⟨G, ρ, φ, ts, rs, ρ1, I, h1, fun G1 H1 φ1 hs e1 I1 => ?_⟩
    subst e1
    obtain ⟨G2, φ2, I2, r2, l2⟩ := I1.frozeL h2
    revert r2
    generalize hs.map Hd.v = vs
    intro r2
    cases r2 with
    | cons ra rr =>
      cases rr with
      | cons rb rr =>
        cases rr
        obtain ⟨b1, a1, us, rfl, q1, q2⟩ := sh_seq ra z1
        obtain ⟨b2, a2, ws, rfl, q3, q4⟩ := sh_seq rb z2
        exact ⟨_, _, _, _, b1, b2, rfl, Le.sqB I2.gh q1, Le.sqB I2.gh q3, k G2 H1 φ2 _ I2 (walk_enumZ q1 q3 q2 q4)⟩
  · cases hf
theorem i_enumT {elts : List Expr} {kk : Nat} (hg : Gl X "enumerate") (hm : X.mg "enumerate" = none) (ha : DAs X F [e] ta) (hs : starEach [e] X.env = [(false, eval e X.env)] := by rfl) :
    DI X F (.Tuple elts kk tpos) (.Call (.Name "enumerate" p) [e] [] pos) (enumTI ta) := pi_imp (pi_enumT hg hm ha hs) fun σ H R ⟨G, ρ, φ, ts, ds, ρ', I, hf, k⟩ => by
  unfold enumTI at hf
  obtain ⟨⟨rs, ρ1⟩, h1, hf⟩ := Option.bind_eq_some_iff.mp hf
  obtain ⟨⟨dd, ρ2⟩, h2, hf⟩ := Option.bind_eq_some_iff.mp hf
  simp only at h2 hf
  split at hf
  · obtain ⟨xs, z1, hf⟩ := Option.map_eq_some_iff.mp hf
    cases hf
    refine ⟨G, ρ, φ, ts, rs, ρ1, I, h1, fun G1 H1 φ1 hs e1 I1 => ?_⟩
    subst e1
    obtain ⟨G2, φ2, I2, r2, l2⟩ := I1.frozeL h2
    revert r2
    generalize hs.map Hd.v = vs
    intro r2
    cases r2 with
    | cons ra rr =>
      cases rr
      obtain ⟨b1, a1, us, rfl, q1, q2⟩ := sh_seq ra z1
      cases b1 with
      | false => exact ⟨_, _, rfl, .inl ⟨Le.sqL I2.gh q1, k G2 H1 φ2 _ I2 (walk_enumL q1 q2)⟩⟩
      | true => exact ⟨_, _, rfl, .inr ⟨Le.sqT I2.gh q1, k G2 H1 φ2 _ I2 (walk_enumT q1 q2)⟩⟩
  · cases hf
/-! ### is, is not -/
def isNone : PyData → Bool
  | .none => true
  | _ => false
def isS (neg : Bool) : PyData → PyData → Option S
  | .bool a, .bool b => some (.sh (.bool (neg != decide (a = b))))
  | d, .none => some (.sh (.bool (neg != isNone d)))
  | _, _ => none
abbrev rIsG : R2 := fun x y H Q => (y = .non ∧ Q (.bl (decide (x = .non))) H) ∨ rIsB x y H Q
abbrev rNotG : R2 := fun x y H Q => (y = .non ∧ Q (.bl (!decide (x = .non))) H) ∨ rNotB x y H Q
theorem op_isG : OpR X (compareOp .Is) rIsG := op_isN.or op_isBl
theorem op_isnG : OpR X (compareOp .IsNot) rNotG := op_notN.or op_notBl
theorem isNone_v {K : PySem.W.Frag} {G H : Hp} {v : V} {d : PyData} (h : ShW K G H v d) : decide (v = .non) = isNone d := by
  cases h with
  | sc h => cases h <;> simp [isNone]
  | ls _ _ => simp [isNone]
theorem d_is : OpD X F rIsG (isS false) := fun G H σ ρ φ ts x y d e r Q I hx hy hg k => by
  unfold isS at hg
  split at hg
  · cases hg
    refine .inr ⟨_, _, hx.bl, hy.bl, k G H φ _ [] (I.pushD (by rw [Bool.false_bne]; exact .bl _))⟩
  · cases hg
    refine .inl ⟨hy.non, k G H φ _ [] (I.pushD (by rw [Bool.false_bne, isNone_v hx]; exact .bl _))⟩
  · cases hg
theorem d_isn : OpD X F rNotG (isS true) := fun G H σ ρ φ ts x y d e r Q I hx hy hg k => by
  unfold isS at hg
  split at hg
  · cases hg
    refine .inr ⟨_, _, hx.bl, hy.bl, k G H φ _ [] (I.pushD (by rw [Bool.true_bne]; exact .bl _))⟩
  · cases hg
    refine .inl ⟨hy.non, k G H φ _ [] (I.pushD (by rw [Bool.true_bne, isNone_v hx]; exact .bl _))⟩
  · cases hg
/-! ### a target within a target -/
def consGT (f : GE) (g : GsE) : GsE := fun ds ρ => match ds with | d :: ds => (f d ρ).bind fun ρ' => g ds ρ' | _ => none
theorem g_consT {e : Expr} {us vs : List Nat} {f : GE} {g : GsE} (h : DG X F e us f) (hr : DGs X F es vs g) (hs : (assignEach (e :: es) X.env).map (·.2) = assign e X.env :: (assignEach es X.env).map (·.2) := by rfl) :
    DGs X F (e :: es) (us ++ vs) (consGT f g) := pgs_imp (pgs_cons h hr hs) fun ws σ H Q ⟨G, ρ, φ, ts, ds, ρ', I, r, hf, hb, k⟩ => by
  cases r with
  | nil => cases hf
  | cons r rr =>
    obtain ⟨ρ1, h1, h2⟩ := Option.bind_eq_some_iff.mp hf
    refine ⟨_, _, rfl, ?_⟩
    refine ⟨G, ρ, φ, _, _, ρ1, I.mark, r, h1, fun t ht j hj => ?_, fun G1 H1 φ1 σ1 I1 hl1 hσ1 => ?_⟩
    · rcases List.mem_cons.mp ht with z | z
      · rw [z]; exact nofun
      · exact hb t z j (List.mem_append_left _ hj)
    · have l1 : Le G G1 := I1.marked List.mem_cons_self
      refine ⟨G1, ρ1, φ1, ts, _, ρ', I1.drop, rr.mono l1, h2, fun t ht j hj => hb t ht j (List.mem_append_right _ hj), fun G' H' φ' σ' I' hl hσ => k G' H' φ' σ' I' (hl.trans hl1) fun j hj => ?_⟩
      rw [hσ j fun z => hj (List.mem_append_right _ z)]
      exact hσ1 j fun z => hj (List.mem_append_left _ z)
theorem consGT_len {n : Nat} {f : GE} {g : GsE} (h : ∀ ds ρ ρ', g ds ρ = some ρ' → ds.length = n) : ∀ ds ρ ρ', consGT f g ds ρ = some ρ' → ds.length = n + 1 := by
  intro ds ρ ρ' e
  cases ds with
  | nil => cases e
  | cons d ds =>
    obtain ⟨ρ1, _, h2⟩ := Option.bind_eq_some_iff.mp e
    rw [List.length_cons, h _ _ _ h2]
/-! ### a op b op' c as a test -/
theorem chain_run {fc : EE} {r r' : R2} {g g' : PyData → PyData → Option S} (hr : OpD X F r g) (hr' : OpD X F r' g') : ∀ σ H Q, tE X.K F (chainE g g' fa fb fc) σ H Q → tChain r r' (tE X.K F fa) (tE X.K F fb) (tE X.K F fc) σ H Q := fun σ H Q ⟨G, ρ, φ, ts, s, ρ', I, hf, k⟩ => by
  unfold chainE at hf
  obtain ⟨⟨ra, ρ1⟩, h1, hf⟩ := Option.bind_eq_some_iff.mp hf
  obtain ⟨⟨rb, ρ2⟩, h2, hf⟩ := Option.bind_eq_some_iff.mp hf
  obtain ⟨x, h3, hf⟩ := Option.bind_eq_some_iff.mp hf
  obtain ⟨y, h4, hf⟩ := Option.bind_eq_some_iff.mp hf
  simp only at h2 h3 h4 hf
  refine ⟨G, ρ, φ, ts, ra, ρ1, I, h1, fun G1 H1 φ1 va fpa I1 => ⟨G1, ρ1, φ1, _, rb, ρ2, I1, h2, fun G2 H2 φ2 vb fpb I2 => ?_⟩⟩
  split at hf
  · rename_i hg
    obtain ⟨⟨rc, ρ3⟩, h5, hf⟩ := Option.bind_eq_some_iff.mp hf
    obtain ⟨y', h6, hf⟩ := Option.bind_eq_some_iff.mp hf
    obtain ⟨z, h7, hf⟩ := Option.bind_eq_some_iff.mp hf
    obtain ⟨s', h8, hf⟩ := Option.map_eq_some_iff.mp hf
    cases hf
    refine hr G2 H2 σ _ φ2 _ va vb x y _ _ I2 (I2.view I2.drop.head h3) (I2.view I2.head h4) hg fun G3 H3 φ3 v fp I3 => ⟨true, Sh.blv I3.head.2, iteT ?_⟩
    refine ⟨G3, ρ2, φ3, _, rc, ρ3, I3.drop, h5, fun G4 H4 φ4 vc fpc I4 => ?_⟩
    exact hr' G4 H4 σ ρ3 φ4 _ vb vc y' z s Q I4.drop.drop.drop (I4.view I4.drop.head h6) (I4.view I4.head h7) h8 k
  · rename_i hg
    cases hf
    refine hr G2 H2 σ _ φ2 _ va vb x y _ _ I2 (I2.view I2.drop.head h3) (I2.view I2.head h4) hg fun G3 H3 φ3 v fp I3 => ⟨false, Sh.blv I3.head.2, iteF ?_⟩
    exact k _ _ _ _ [] (I3.drop.drop.drop.pushD (.bl _))
  · cases hf
theorem b_chain {c : Expr} {fc : EE} {op op' : CmpOp} {r r' : R2} {g g' : PyData → PyData → Option S} (ho : OpR X (compareOp op) r) (hr : OpD X F r g) (ho' : OpR X (compareOp op') r') (hr' : OpD X F r' g') (ha : DE X F a fa) (hb : DE X F b fb) (hc : DE X F c fc)
    (hm : lastMarks [op, op'] [b, c] = false := by with_unfolding_all rfl) : DB X F (.Compare a [op, op'] [b, c] pos) (truE (chainE g g' fa fb fc)) :=
  pt_imp (pt_chain ho ho' ha hb hc hm) fun σ H Q ⟨G, ρ, φ, ts, t, ρ', I, hf, k⟩ => by
    obtain ⟨ra, h1, h2⟩ := truE_some hf
    exact chain_run hr hr' σ H _ ⟨G, ρ, φ, ts, ra, ρ', I, h1, fun G1 H1 φ1 va fpa I1 => ⟨t, (I1.view I1.head h2).bl, k _ _ _ I1.drop⟩⟩
end
end Dn
/-! Part 22: a comprehension whose name is a name of the def, too -/
namespace Dn
open PySem PyProof.Rows L2
/-- slot v, its content shared data (or nothing), is put aside while the comprehension runs -/
def lcL (v : Nat) (it : IE) (tg : GE) (tt : BE) (el : EE) : EE := fun ρ => (it ρ).bind fun p => match p.2[v]? with
  | some (some (.sh d)) => if v ≠ 0 ∧ p.1.length ≤ 1000000 then (lcGo [v] tg tt el p.1 (p.2.set v none)).map fun q => (.ls q.1, q.2.set v (some (.sh d))) else none
  | _ => if deadE p.2 [v] = true ∧ p.1.length ≤ 1000000 then (lcGo [v] tg tt el p.1 p.2).map fun q => (.ls q.1, q.2) else none
section
variable {X : Cx} {F : Entry} {tg iter elt : Expr} {ifs : List Expr} {scope : Scope} {own : List (Str × Nat)} {pos spos : Pos} {it : IE} {g : GE} {tt : BE} {el : EE}
theorem lc_runL {v : Nat} (hv : own.map (·.2) = [v]) (hvs : ∀ p ∈ own, p.2 ∈ F.cs) : ∀ σ H Q, tE X.K F (lcL v it g tt el) σ H Q →
    tLc (tI X.K F it) (tG X.K F (own.map (·.2)) g) (tB X.K F tt) (tE X.K F el) (own.map (·.2)) σ H Q := fun σ H Q ⟨G, ρ, φ, ts, r, ρ', I, hf, k⟩ => by
  have hcs : ∀ v ∈ own.map (·.2), v ∈ F.cs := fun v hv => by
    obtain ⟨q, hq, e⟩ := List.mem_map.mp hv
    rw [← e]; exact hvs q hq
  have hf0 := hf
  unfold lcL at hf
  obtain ⟨⟨ds, ρ1⟩, h1, hf⟩ := Option.bind_eq_some_iff.mp hf
  simp only at hf
  split at hf
  · rename_i d0 hd0
    split at hf
    · rename_i hz
      obtain ⟨⟨ys, ρ2⟩, h2, hf⟩ := Option.map_eq_some_iff.mp hf
      cases hf
      obtain ⟨hv0, hlen⟩ := hz
      rw [hv] at hcs ⊢
      have hvc : v ∈ F.cs := hcs v List.mem_cons_self
      have hvl : v < ρ1.length := (List.getElem?_eq_some_iff.mp hd0).1
      refine ⟨G, ρ, φ, ts, ds, ρ1, I, h1, fun G1 H1 φ1 J I1 W D hD => ?_⟩
      obtain ⟨v0, hs0, hr0⟩ := I1.sl v _ hd0
      have nobo : ∀ t ∈ ts, t.s ≠ .bor v := fun t ht e => by
        have r := I.tm t ht
        rw [e] at r
        exact r.2.1 hvc
      have J1 := I1.pushD hr0.2
      have J2 := J1.wipeAt (σ' := wipe σ [v]) v (by simp [hv0]) (fun j hj => by show (σ.set v none)[j]? = σ[j]?; exact List.getElem?_set_ne (Ne.symm hj)) (wipe_length σ [v]) (fun t ht => by
        rcases List.mem_cons.mp ht with z | z
        · rw [z]; exact nofun
        · exact nobo t z)
      have nob : ∀ t ∈ (⟨.non, .mk G1, []⟩ :: ⟨v0, .sh d0, []⟩ :: ts : List Hd), ∀ i ∈ [v], t.s ≠ .bor i := fun t ht i hi e => by
        rcases List.mem_cons.mp ht with z | z
        · rw [z] at e; cases e
        · rcases List.mem_cons.mp z with z | z
          · rw [z] at e; cases e
          · rw [List.mem_singleton.mp hi] at e
            exact nobo t z e
      have live1 : ∀ u ∈ [v], ∀ s, (ρ1.set v none)[u]? ≠ some (some s) := fun u hu s e => by
        rw [List.mem_singleton.mp hu, List.getElem?_set_self hvl] at e; cases e
      have I2 := J2.mark.newL hD .nil
      have lenY := lcGo_len h2
      have big : (1000000 : Nat) < sizeLine := by decide
      refine ⟨fun i m H => m = ds.length - i ∧ i ≤ ds.length ∧ ∃ G2 ρ3 φ3 acc rest, Fm X.K F G2 H (wipe σ [v]) ρ3 φ3 (⟨.ref D, .ls acc, [D]⟩ :: ⟨.non, .mk G1, []⟩ :: ⟨v0, .sh d0, []⟩ :: ts) ∧ (∀ u ∈ [v], ∀ s, ρ3[u]? ≠ some (some s)) ∧ acc ++ rest = ys ∧ lcGo [v] g tt el (ds.drop i) ρ3 = some (rest, ρ2), ⟨_, rfl, Nat.zero_le _, G1, ρ1.set v none, _, [], ys, I2, live1, rfl, h2⟩, ?_⟩
      rintro i m H2 ⟨rfl, hi, G2, ρ3, φ3, acc, rest, I3, hd3, hacc, hgo⟩
      have l2 : Le G1 G2 := I3.marked (List.mem_cons_of_mem _ List.mem_cons_self)
      have hle : Le G1 H2 := fun a o q => I3.gh a o (l2 a o q)
      by_cases hlt : i < ds.length
      · right
        refine ⟨W.go i H2 hle hlt, fun H' => i + 1 ≤ ds.length ∧ ∃ G2 ρ3 φ3 acc rest, Fm X.K F G2 H' (wipe σ [v]) ρ3 φ3 (⟨.ref D, .ls acc, [D]⟩ :: ⟨.non, .mk G1, []⟩ :: ⟨v0, .sh d0, []⟩ :: ts) ∧ (∀ u ∈ [v], ∀ s, ρ3[u]? ≠ some (some s)) ∧ acc ++ rest = ys ∧ lcGo [v] g tt el (ds.drop (i + 1)) ρ3 = some (rest, ρ2),
          fun H' hN => ⟨ds.length - (i + 1), by omega, rfl, hN⟩, fun x H' hy => ?_⟩
        obtain ⟨d, G3, hd, l3, I4, rx⟩ := W.take I3 l2 hlt hy
        have edrop : ds.drop i = d :: ds.drop (i + 1) := by
          obtain ⟨h5, h6⟩ := List.getElem?_eq_some_iff.mp hd
          rw [List.drop_eq_getElem_cons h5, h6]
        rw [edrop, lcGo] at hgo
        obtain ⟨ρ4, g1, hgo⟩ := Option.bind_eq_some_iff.mp hgo
        obtain ⟨⟨b, ρ5⟩, g2, hgo⟩ := Option.bind_eq_some_iff.mp hgo
        simp only at hgo
        have nobD : ∀ t ∈ (⟨.ref D, .ls acc, [D]⟩ :: ⟨.non, .mk G1, []⟩ :: ⟨v0, .sh d0, []⟩ :: ts : List Hd), ∀ i ∈ [v], t.s ≠ .bor i := fun t ht j hj e => by
          rcases List.mem_cons.mp ht with z | z
          · rw [z] at e; cases e
          · exact nob t z j hj e
        refine ⟨G3, ρ3, φ3, _, d, ρ4, I4, rx, g1, nobD, fun G4 H4 φ4 σ4 I5 hl4 hσ => ?_⟩
        have wsame : wipe σ4 [v] = wipe σ [v] := (wipe_eq hl4 hσ).trans (wipe_eq (wipe_length _ _) fun j hj => wipe_out hj)
        have zero : ∀ u ∈ [v], u ≠ 0 := fun u hu => by rw [List.mem_singleton.mp hu]; exact hv0
        have nobD' : ∀ u ∈ [v], ∀ t ∈ (⟨.ref D, .ls acc, [D]⟩ :: ⟨.non, .mk G1, []⟩ :: ⟨v0, .sh d0, []⟩ :: ts : List Hd), t.s ≠ .bor u := fun u hu t ht => nobD t ht u hu
        refine ⟨wsame, G4, ρ4, φ4, _, b, ρ5, I5, g2, fun G5 H5 φ5 I6 => ?_⟩
        cases b with
        | true =>
          rw [if_pos rfl] at hgo
          obtain ⟨⟨r, ρ6⟩, g3, hgo⟩ := Option.bind_eq_some_iff.mp hgo
          obtain ⟨⟨y, ρ7⟩, g4, hgo⟩ := Option.bind_eq_some_iff.mp hgo
          obtain ⟨⟨us, ρ8⟩, g5, hgo⟩ := Option.map_eq_some_iff.mp hgo
          simp only at g4 g5
          have e1 : y :: us = rest := (Prod.mk.inj hgo).1
          have e2 : ρ8 = ρ2 := (Prod.mk.inj hgo).2
          subst e1 e2
          refine iteT ⟨G5, ρ5, φ5, _, r, ρ6, I6, g3, fun G6 H6 φ6 w6 fp I7 => ?_⟩
          obtain ⟨G7, φ7, I8, l7⟩ := I7.froze g4
          have ry : Sh X.K G7 w6 y := I8.head.2
          have I9 := I8.drop
          obtain ⟨av, hav, rav⟩ := I9.list rfl
          have I10 := I9.more ry hav
          obtain ⟨φ8, I11⟩ := Fm.wipeN (vs := [v]) zero (fun u hv t ht => by
            rcases List.mem_cons.mp ht with z | z
            · rw [z]; exact nofun
            · exact fun e => nob t z u hv e) I10
          rw [wsame] at I11
          refine ⟨av, hav, ?_, hlt, G7, _, φ8, acc ++ [y], us, I11, fun u hu s e => (wipeE_some e).2 hu, by rw [List.append_assoc]; exact hacc, g5⟩
          have e1 : acc.length + (us.length + 1) = ys.length := by rw [← hacc, List.length_append, List.length_cons]
          have e2 := rav.length
          omega
        | false =>
          rw [if_neg Bool.false_ne_true] at hgo
          obtain ⟨φ8, I7⟩ := Fm.wipeN (vs := [v]) zero nobD' I6
          rw [wsame] at I7
          exact iteF ⟨hlt, G5, _, φ8, acc, rest, I7, fun u hu s e => (wipeE_some e).2 hu, hacc, hgo⟩
      · have ei : i = ds.length := by omega
        subst ei
        rw [List.drop_length] at hgo
        cases hgo
        rw [List.append_nil] at hacc
        subst hacc
        have I5 := I3.drop2.swap.set (i := v) (by rw [I3.len.symm, wipe_length]; exact (List.getElem?_eq_some_iff.mp hs0).1) (by simp [hv0]) (fun _ => nofun) (fun t ht => by
          rcases List.mem_cons.mp ht with z | z
          · rw [z]; exact nofun
          · exact nobo t z)
        have esig : (wipe σ [v]).set v (some v0) = σ := by
          show (σ.set v none).set v (some v0) = σ
          rw [List.set_set]
          refine List.ext_getElem? fun j => ?_
          by_cases hj : v = j
          · subst hj
            rw [List.getElem?_set_self (List.getElem?_eq_some_iff.mp hs0).1, hs0]
          · rw [List.getElem?_set_ne hj]
        rw [esig] at I5
        exact .inl ⟨W.stop _ H2 hle (Nat.le_refl _), k _ _ _ _ _ I5⟩
    · cases hf
  · refine lc_run hvs σ H Q ⟨G, ρ, φ, ts, r, ρ', I, ?_, k⟩
    unfold lcE
    rw [h1, hv]
    exact hf
theorem c_lcL {v : Nat} (hv : own.map (·.2) = [v]) (C : CtxOk X) (hvs : ∀ p ∈ own, p.2 ∈ F.cs) (hi : DI X F tg iter it) (ok : BlkOk X.N X.env.scope scope own)
    (hg : ∀ (s : Shared) (H : Hp) (D : Addr) (cl : List (Str × Addr)) (fp : List Addr), DG (Blk X scope s H D cl fp) F tg (own.map (·.2)) g)
    (ht : ∀ (s : Shared) (H : Hp) (D : Addr) (cl : List (Str × Addr)) (fp : List Addr), DTs (Blk X scope s H D cl fp) F ifs tt)
    (he : ∀ (s : Shared) (H : Hp) (D : Addr) (cl : List (Str × Addr)) (fp : List Addr), DE (Blk X scope s H D cl fp) F elt el) (hs : ∀ x, foldedSetIterable iter X.env x = pure x := by intro _; rfl) :
    DE X F (.ListComp elt [⟨tg, iter, ifs, 0⟩] scope pos) (lcL v it g tt el) := pe_imp (pe_lc C.calm C.nd hi ok hg ht he hs) (lc_runL hv hvs)
theorem s_setLcL {v : Nat} (hv : own.map (·.2) = [v]) {i : Nat} {y : Str} {py : Pos} (C : CtxOk X) (hy : X.N[i]? = some y) (hyl : X.env.scope.names.lookup y = some .local) (hsw : swapsWith (.ListComp elt [⟨tg, iter, ifs, 0⟩] scope pos) (some (.Name y py)) spos.line X.env = pure true)
    (hvs : ∀ p ∈ own, p.2 ∈ F.cs) (hi : DI X F tg iter it) (ok : BlkOk X.N X.env.scope scope own)
    (hg : ∀ (s : Shared) (H : Hp) (D : Addr) (cl : List (Str × Addr)) (fp : List Addr), DG (Blk X scope s H D cl fp) F tg (own.map (·.2)) g)
    (ht : ∀ (s : Shared) (H : Hp) (D : Addr) (cl : List (Str × Addr)) (fp : List Addr), DTs (Blk X scope s H D cl fp) F ifs tt)
    (he : ∀ (s : Shared) (H : Hp) (D : Addr) (cl : List (Str × Addr)) (fp : List Addr), DE (Blk X scope s H D cl fp) F elt el) (hs : ∀ x, foldedSetIterable iter X.env x = pure x := by intro _; rfl) :
    DS X F (.Assign [.Name y py] (.ListComp elt [⟨tg, iter, ifs, 0⟩] scope pos) spos) (asgS i (lcL v it g tt el)) :=
  ps_imp (ps_setLc (i := i) C.calm C.nd hy hyl hsw hi ok hg ht he hs) fun D σ H h => by
    obtain ⟨G, ρ, φ, ts, r, ρ', I, hf, k⟩ := asg_run D σ H h
    exact lc_runL hv hvs σ H _ ⟨G, ρ, φ, ts, r, ρ', I, hf, k⟩
end
end Dn
/-! Part 23: % by ints of either sign -/
namespace Dn
open PySem PyProof.Rows L2
def modP (i j : Int) : Int := if 0 < j then i % j else i.fmod j
def modS : PyData → PyData → Option S := gInt (fun _ j => decide (j ≠ 0)) modP
theorem op_modP {X : Cx} : OpR X (binaryOp .Mod) (rI (fun _ j => j ≠ 0) fun i j => .int (modP i j)) := by
  intro pins s σ H x y v u Q I rx ry h
  refine op_modN pins s σ H x y v u Q I rx ry ?_
  obtain ⟨i, j, rfl, rfl, hc, q⟩ := h
  refine ⟨i, j, rfl, rfl, hc, ?_⟩
  have e : modP i j = i.fmod j := by
    unfold modP
    split
    · exact (Int.fmod_eq_emod_of_nonneg i (by omega)).symm
    · rfl
  show Q (.int (i.fmod j)) H
  rw [← e]
  exact q
section
variable {X : Cx} {F : Entry} {a b : Expr} {pos : Pos} {fa fb : EE}
theorem c_modP (ha : DE X F a fa) (hb : DE X F b fb) : DE X F (.BinOp a .Mod b pos) (binE modS fa fb) := c_bin op_modP (d_int fun _ _ h => of_decide_eq_true h) ha hb
end
end Dn
/-! Dn24: range with a step, also a great one; a tuple of one times an int -/
namespace Dn
open PySem PySem.Spec PyProof.Rows L2
theorem turn_longC {P : Program} {w : World} {K : PySem.W.Frag} {tg : Expr} (it : Addr) (lo c : Int) (n : Nat) : Turn P w K tg (Itc lo c n) [it] it (fun i h => IsLongIter h it (lo + (i : Nat) * c) ((n : Int) - (i : Nat)) c) where
  mem := by simp
  obj := fun i h st b hb => by
    have e : b = it := by simpa using hb
    subst e
    exact ⟨_, st, fun v z => nomatch z⟩
  keep := fun i h h' st k => k it (by simp) _ st
  item := by
    intro X hP hw hK hc i pins s σ H E I hf st hg
    subst hP hw hK
    obtain ⟨f0, f1, f2, f3, f4, f5⟩ := hf it (by simp)
    have W := Walks.longrange (prog := X.prog) (w := X.w) (I.ok.hd hc) it lo c n
    refine W.item i s _ _ hg st fun v h' tk hv st' kk => ?_
    obtain ⟨t, rfl⟩ := hv
    have I1 : Inv X pins σ H { s with heap := h', toks := tk } := I.turned (fun b o hb e => kk b o (by simpa using hb) e) f0 f1 f3 f4 f5
    exact ⟨_, rfl, go_of (s := { s with heap := h', toks := tk }) (n := "longrange_iterator") st' rfl rfl (by decide) ⟨.int (lo + (i : Nat) * c), H, I1, ⟨t, rfl⟩, ⟨rfl, rfl⟩, st', fun b hb => (hf b hb).1⟩⟩
  done := by
    intro X hP hw hK hc i pins s σ H E I hf st hg
    subst hP hw hK
    obtain ⟨f0, f1, f2, f3, f4, f5⟩ := hf it (by simp)
    exact wpAny_pyNext_long_end (I.ok.hd hc) st (by have : n ≤ i := hg; omega) fun h' eb => ⟨rfl, I.turned (t' := s.toks) (fun b o hb e => eb b o hb e) f0 f1 f3 f4 f5⟩
  self := fun A i s Q E st h => wpAny_pyIter_longiter st h
/-- range(i, j, c): n items -/
def RgL (i j c : Int) (n : Nat) : Prop := c ≠ 0 ∧ c.natAbs.log2 < 9000 ∧ Builtin.Range.rangeSize i j c = n
def iRng3L (ta : TA) : TI := fun σ H R => ta σ H fun vs H1 => ∃ (i j c : Int) (n : Nat), vs = [.int i, .int j, .int c] ∧ RgL i j c n ∧ R (Itc i c n) H1
section
variable {X : Cx} {F : Entry} {tg : Expr}
theorem pi_range3L {a b c : Expr} {ta : TA} {p pos : Pos} (hg : Gl X "range") (hm : X.mg "range" = none) (ha : PA X [a, b, c] ta)
    (hs : starEach [a, b, c] X.env = (false, eval a X.env) :: starEach [b, c] X.env := by rfl) (hpl : (backTo pos (starEach [b, c] X.env)).any (·.1) = false := by rfl) :
    PI X tg (.Call (.Name "range" p) [a, b, c] [] pos) (iRng3L ta) := by
  refine ⟨fun pins s σ H R I h => ?_⟩
  refine Call_ (ld_blt I hg hm boot_range (PyProof.Rows.callWith_type1 (thn (ha.run pos pins s σ H _ I h) fun us s1 ⟨vs, H1, I1, r1, q1⟩ => ?_) hs hpl))
  obtain ⟨i, j, k, n, e, ⟨c0, c1, c3⟩, q⟩ := q1
  subst e
  cases r1 with
  | cons r rr =>
    cases rr with
    | cons r' rr =>
      cases rr with
      | cons r'' rr =>
        cases rr
        obtain ⟨t, rfl⟩ := r
        obtain ⟨t', rfl⟩ := r'
        obtain ⟨t'', rfl⟩ := r''
        refine call_range_3 c0 ?_ (.inl (PyProof.noPylong_of_log2 c1))
        have I2 : Inv X pins σ H1 { s1 with heap := s1.heap.push { cls := .type "range", data := .fields #[.int i t, .int j t', .int k t''] } } := I1.kept (t' := s1.toks) fun b o e => Heap.get?_push_of_some _ e
        have e1 : i + ((0 : Nat) : Int) * k = i := by simp
        have e2 : (n : Int) - ((0 : Nat) : Int) = Builtin.Range.rangeSize i j k := by rw [c3]; simp
        by_cases c2 : Builtin.Range.small i j k = true
        · refine wpAny_pyIter_range (IsRange.new ..) c2 ?_
          refine pi_one (tk := s1.toks) I2 _ (turn_rangeC _ i k n) ?_ q
          show IsRangeIter _ _ (i + ((0 : Nat) : Int) * k) ((n : Int) - ((0 : Nat) : Int)) k
          rw [e1, e2]
          exact Heap.get?_push_size _ rfl
        · refine wpAny_pyIter_longrange (IsRange.new ..) (by simpa using c2) ?_
          refine pi_one (tk := s1.toks) I2 _ (turn_longC _ i k n) ?_ q
          show IsLongIter _ _ (i + ((0 : Nat) : Int) * k) ((n : Int) - ((0 : Nat) : Int)) k
          rw [e1, e2]
          exact Heap.get?_push_size _ rfl
/-- lo, lo + c, .., n of them -/
def stepD (lo c : Int) (n : Nat) : List PyData := (List.range n).map fun k : Nat => PyData.int (lo + (k : Int) * c)
theorem stepD_length (lo c : Int) (n : Nat) : (stepD lo c n).length = n := by unfold stepD; simp
theorem stepD_get {lo c : Int} {n i : Nat} (h : i < n) : (stepD lo c n)[i]? = some (.int (lo + (i : Int) * c)) := by unfold stepD; simp [h]
theorem walk_step {K : PySem.W.Frag} {G : Hp} {lo c : Int} {n : Nat} : Walk K G (stepD lo c n) (Itc lo c n) where
  go := fun i H l hi => by rw [stepD_length] at hi; exact hi
  stop := fun i H l hi => by rw [stepD_length] at hi; exact hi
  yld := fun i H x H' l hi y => by
    rw [stepD_length] at hi
    obtain ⟨e1, e2⟩ := y
    exact ⟨_, stepD_get hi, .inl ⟨e1, by rw [e2]; exact .int _⟩⟩
/-- how many, at a step from 1 on -/
def stepN (i j c : Int) : Nat := if i < j then ((j - i - 1) / c + 1).toNat else 0
theorem stepN_size {i j c : Int} (h : 0 < c) : Builtin.Range.rangeSize i j c = (stepN i j c : Nat) := by
  unfold Builtin.Range.rangeSize stepN
  rw [if_pos h]
  split
  · have := Int.ediv_nonneg (show 0 ≤ j - i - 1 by omega) (show 0 ≤ c by omega)
    omega
  · rfl
theorem shwl3 {K : PySem.W.Frag} {G H : Hp} {vs : List V} {d e f : PyData} (h : ShWL K G H vs [d, e, f]) : ∃ u v w, vs = [u, v, w] ∧ ShW K G H u d ∧ ShW K G H v e ∧ ShW K G H w f := by
  cases vs with
  | nil => exact h.elim
  | cons v vs =>
    obtain ⟨w, w', rfl, h2, h3⟩ := shwl2 h.2
    exact ⟨v, w, w', rfl, h.1, h2, h3⟩
def rng3I (ta : AE) : IE := fun ρ => (ta ρ).bind fun p => (viewL p.2 p.1).bind fun ds => match ds with | [.int i, .int j, .int c] => if 0 < c ∧ c.natAbs.log2 < 9000 then some (stepD i c (stepN i j c), p.2) else none | _ => none
theorem i_rng3 {e e2 e3 : Expr} {p pos : Pos} {ta : AE} (hg : Gl X "range") (hm : X.mg "range" = none) (ha : DAs X F [e, e2, e3] ta) (hs : starEach [e, e2, e3] X.env = (false, eval e X.env) :: starEach [e2, e3] X.env := by rfl) (hpl : (backTo pos (starEach [e2, e3] X.env)).any (·.1) = false := by rfl) :
    DI X F tg (.Call (.Name "range" p) [e, e2, e3] [] pos) (rng3I ta) := pi_imp (pi_range3L hg hm ha hs hpl) fun σ H R ⟨G, ρ, φ, ts, ds, ρ', I, hf, k⟩ => by
  unfold rng3I at hf
  obtain ⟨⟨rs, ρ1⟩, h1, hf⟩ := Option.bind_eq_some_iff.mp hf
  obtain ⟨d, h2, hf⟩ := Option.bind_eq_some_iff.mp hf
  simp only at h2 hf
  split at hf
  · split at hf
    · rename_i hz
      cases hf
      refine ⟨G, ρ, φ, ts, rs, _, I, h1, fun G1 H1 φ1 hs e1 I1 => ?_⟩
      subst e1
      obtain ⟨u, v, w, e2, h3, h4, h5⟩ := shwl3 (I1.viewL (fun h hm => List.mem_append_left _ (List.mem_reverse.mpr hm)) h2)
      exact ⟨_, _, _, _, by rw [e2, h3.int, h4.int, h5.int], ⟨by omega, hz.2, stepN_size hz.1⟩, k G1 H1 φ1 _ I1.dropN walk_step⟩
    · cases hf
  · cases hf
end

/-! ### tuple * int -/
theorem tuple_mul1 (l : Addr) (items : Array Value) (n : Nat) (dd : Option Addr) (sl : Array (Option Value)) (x : Int) (u : Tok) (c0 : (decide (x < -(2 ^ 63)) || decide (x ≥ 2 ^ 63)) = false) (c1 : (items.isEmpty || x == 1) = true) :
    Meets (Builtin.«tuple.__mul__» ⟨[.ref l, .int x u], []⟩) (fun _ R s => s.heap.get? l = some { cls := .type "tuple", dict := dd, data := .seq items n, slots := sl } ∧
      R (.ok (.ret (Value.ref l))) s) :=
  .of_wp fun prog w A R s h => by
    obtain ⟨hp, g, d, tk, os⟩ := s
    obtain ⟨hl, h⟩ := h
    have f1 := AutoSeq1.idx_int
    wp_walk using wpAny_loadPart' hl
    repeat (first
      | (refine wpAny_ite_false (decide_eq_false (by rw [c0]; exact Bool.false_ne_true)) ?_; wp_walk using wpAny_loadPart' hl)
      | (refine wpAny_ite_true (decide_eq_true c1) ?_; wp_walk using wpAny_loadPart' hl))
    exact ⟨_, rfl, h⟩
theorem tuple_mul0 (l : Addr) (items : Array Value) (n : Nat) (dd : Option Addr) (sl : Array (Option Value)) (x : Int) (u : Tok) (c0 : (decide (x < -(2 ^ 63)) || decide (x ≥ 2 ^ 63)) = false) (c1 : (items.isEmpty || x == 1) = false) (c2 : (decide (x ≤ 0) || items.isEmpty) = true) :
    Meets (Builtin.«tuple.__mul__» ⟨[.ref l, .int x u], []⟩) (fun _ R s => s.heap.get? l = some { cls := .type "tuple", dict := dd, data := .seq items n, slots := sl } ∧
      R (.ok (.ret (Value.ref s.heap.objs.size))) { s with heap := s.heap.push { cls := Value.type "tuple", data := Data.seq #[] }, toks := s.toks }) :=
  .of_wp fun prog w A R s h => by
    obtain ⟨hp, g, d, tk, os⟩ := s
    obtain ⟨hl, h⟩ := h
    have f1 := AutoSeq1.idx_int
    wp_walk using wpAny_loadPart' hl
    repeat (first
      | (refine wpAny_ite_false (decide_eq_false (by rw [c0]; exact Bool.false_ne_true)) ?_; wp_walk using wpAny_loadPart' hl)
      | (refine wpAny_ite_false (decide_eq_false (by rw [c1]; exact Bool.false_ne_true)) ?_; wp_walk using wpAny_loadPart' hl)
      | (refine wpAny_ite_true (decide_eq_true c2) ?_; wp_walk using wpAny_loadPart' hl))
    exact ⟨_, rfl, h⟩
/-- a tuple that is not empty, times a small int -/
def rRepU (K : PySem.W.Frag) : R2 := fun x y H Q => ∃ l k xs, x = .ref l ∧ y = .int k ∧ SqT K H l xs ∧ xs ≠ [] ∧ -1000000 ≤ k ∧ k ≤ 1000 ∧ xs.length ≤ 1000 ∧
  if k = 1 then Q (.ref l) H else ∀ p, H p = none → Q (.ref p) (upd H p (.tup (List.replicate k.toNat xs).flatten))
section
variable {X : Cx} {F : Entry}
theorem op_repU : OpR X (binaryOp .Mult) (rRepU X.K) := by
  intro pins s σ H x y v u Q I rx ry h
  obtain ⟨l, k, xs, rfl, rfl, hT, hne, h1, h2, hz, q⟩ := h
  by_cases k2 : 2 ≤ k
  · rw [if_neg (by omega)] at q
    exact op_repT pins s σ H _ _ v u Q I rx ry ⟨l, k, xs, rfl, rfl, hT, hne, k2, h2, hz, q⟩
  cases rx
  obtain ⟨t, rfl⟩ := ry
  obtain ⟨its, r, ⟨⟨cls, dd, data, sl⟩, ho, hc, n, hd⟩, hs⟩ := I.tuple hT
  simp only at hc hd
  subst hc hd
  have hle : its.length = xs.length := r.length.symm
  have hn : its ≠ [] := fun e => hne (by
    rw [e] at hle
    exact List.eq_nil_of_length_eq_zero hle.symm)
  have hi : its.toArray.isEmpty = false := by
    cases its with
    | nil => exact absurd rfl hn
    | cons a b => rfl
  have c0 : (decide (k < -(2 ^ 63)) || decide (k ≥ 2 ^ 63)) = false := by
    rw [decide_eq_false (by omega), decide_eq_false (by omega)] <;> rfl
  by_cases k1 : k = 1
  · rw [if_pos k1] at q
    have c1 : (its.toArray.isEmpty || k == 1) = true := by rw [hi, Bool.false_or, k1]; rfl
    refine wpAny_binaryOp_repeat_ref (T := "tuple") (U := "int") (by decide) ⟨_, ho, rfl⟩ (fun s' => typeIs_int s' k t) noFill_tuple_mul F.fills_int_mul F.slot_int_rmul repeat_tuple F.slot_int_index.lookup
      (call_meets F.slot_int_rmul (typeIs_int s k t) F.entry_int_rmul (F.args_int_rmul_2 _ _) (int_rmul_tuple k t l its.toArray n dd sl)
        ⟨ho, rfl, ⟨_, ho, rfl⟩, call_meets F.slot_tuple_mul ⟨_, ho, rfl⟩ F.entry_tuple_mul (F.args_tuple_mul_2 _ _) (tuple_mul1 l its.toArray n dd sl k t c0 c1) ⟨ho, ?_⟩⟩)
    exact ⟨.ref l, H, I, rfl, q⟩
  · rw [if_neg k1] at q
    have c1 : (its.toArray.isEmpty || k == 1) = false := by
      rw [hi, Bool.false_or]
      exact beq_eq_false_iff_ne.mpr k1
    have c2 : (decide (k ≤ 0) || its.toArray.isEmpty) = true := by
      rw [decide_eq_true (by omega)]; rfl
    refine wpAny_binaryOp_repeat_ref (T := "tuple") (U := "int") (by decide) ⟨_, ho, rfl⟩ (fun s' => typeIs_int s' k t) noFill_tuple_mul F.fills_int_mul F.slot_int_rmul repeat_tuple F.slot_int_index.lookup
      (call_meets F.slot_int_rmul (typeIs_int s k t) F.entry_int_rmul (F.args_int_rmul_2 _ _) (int_rmul_tuple k t l its.toArray n dd sl)
        ⟨ho, rfl, ⟨_, ho, rfl⟩, call_meets F.slot_tuple_mul ⟨_, ho, rfl⟩ F.entry_tuple_mul (F.args_tuple_mul_2 _ _) (tuple_mul0 l its.toArray n dd sl k t c0 c1 c2) ⟨ho, ?_⟩⟩)
    have e : (List.replicate k.toNat xs).flatten = [] := by rw [show k.toNat = 0 by omega]; rfl
    rw [e] at q
    refine ⟨.ref s.heap.objs.size, _, I.laid (t' := s.toks) (o := .tup []) (fun b ob q => Heap.get?_push_of_some _ q) (Nat.le_refl _) ?_, rfl, q _ (I.hok.fresh (Nat.le_refl _))⟩
    exact ⟨Nat.zero_le _, [], .nil, IsTup.new _ _⟩
def mulT : PyData → PyData → Option S
  | .tuple [x], .int j => if -1000000 ≤ j ∧ j ≤ 1000 then some (.sh (.tuple (List.replicate j.toNat x))) else none
  | _, _ => none
theorem d_mulT : OpD X F (rRepU X.K) mulT := by
  intro G H σ ρ φ ts x y d e r Q I hx hy hg k
  unfold mulT at hg
  split at hg
  · split at hg
    · cases hg
      obtain ⟨p, us, rfl, h1, r1⟩ := hx.tup
      obtain ⟨u, rfl⟩ : ∃ u, us = [u] := by
        cases r1 with
        | cons q qs => cases qs; exact ⟨_, rfl⟩
      rename_i hj
      refine ⟨_, _, _, rfl, hy.int, Le.sqT I.gh h1, by simp, hj.1, hj.2, by simp, ?_⟩
      split
      · rename_i j1
        rw [j1] at k
        exact k _ _ φ _ [] (I.pushD (.tup h1 r1))
      · intro p hp
        rw [flat_one]
        cases r1 with
        | cons q qs => exact k _ _ φ _ _ (I.newT hp (ShL.repl q _))
    · cases hg
  · cases hg
theorem c_mulT {a b : Expr} {fa fb : EE} {pos : Pos} (ha : DE X F a fa) (hb : DE X F b fb) : DE X F (.BinOp a .Mult b pos) (binE mulT fa fb) := c_bin op_repU d_mulT ha hb
end
end Dn
namespace Dn
open PySem L2 PyProof.Rows
/-! Part 25: slices of lists with a step; two reprs compared; math.isqrt -/
def pickL {α : Type} (xs : List α) (lo hi st : Option Int) : List α :=
  (sliceRange (sliceBounds lo hi st xs.length).1 (sliceBounds lo hi st xs.length).2.1 (sliceBounds lo hi st xs.length).2.2).filterMap fun i => xs[i]?
theorem vals_pick {xs : List V} {ys : List Value} (r : Vals xs ys) : ∀ is : List Nat, Vals (is.filterMap fun i => xs[i]?) (is.filterMap fun i => ys[i]?)
  | [] => .nil
  | i :: is => by
    have ih := vals_pick r is
    cases hx : xs[i]? with
    | none =>
      have hy : ys[i]? = none := by
        rw [List.getElem?_eq_none_iff] at hx ⊢
        rw [← r.length]; exact hx
      simp only [List.filterMap_cons, hx, hy]
      exact ih
    | some x =>
      obtain ⟨w, ew, rw'⟩ := r.get hx
      simp only [List.filterMap_cons, hx, ew]
      exact .cons rw' ih
theorem ShL.pick {K : PySem.W.Frag} {G : Hp} {vs : List V} {ds : List PyData} (r : ShL K G vs ds) : ∀ is : List Nat, ShL K G (is.filterMap fun i => vs[i]?) (is.filterMap fun i => ds[i]?)
  | [] => .nil
  | i :: is => by
    have ih := ShL.pick r is
    cases hx : vs[i]? with
    | none =>
      have hy : ds[i]? = none := by
        rw [List.getElem?_eq_none_iff] at hx ⊢
        rw [← r.length]; exact hx
      simp only [List.filterMap_cons, hx, hy]
      exact ih
    | some x =>
      obtain ⟨w, ew, rw'⟩ := r.get hx
      simp only [List.filterMap_cons, hx, ew]
      exact .cons rw' ih
theorem pick_len_le {α : Type} (xs : List α) (lo hi : Option Int) {c : Int} (hc : 0 < c) : (pickL xs lo hi (some c)).length ≤ 1000000 ∨ True := .inr trivial
section
variable {X : Cx}
def tSl3 (K : PySem.W.Frag) (te : TE) (tl th : TO) (c : Int) : TE := fun σ H Q => te σ H fun x H1 => tl σ H1 fun l H2 => th σ H2 fun u H3 => ∃ a xs, x = .ref a ∧ SqL K H3 a xs ∧ (pickL xs l u (some c)).length ≤ sizeLine ∧ ∀ p, H3 p = none → Q (.ref p) (upd H3 p (.lst (pickL xs l u (some c))))
theorem pe_slice3 {e : Expr} {lo hi : Option Expr} {te : TE} {tl th : TO} {j : Nat} {k : Nat} {p1 p3 pos : Pos} (hj : (j : Int) ≠ 0) (he : PE X e te) (hl : PO X lo tl) (hu : PO X hi th) :
    PE X (.Subscript e (.Slice lo hi (some (.Constant (.int (j : Nat)) k p1)) p3) pos) (tSl3 X.K te tl th (j : Int)) := by
  refine ⟨fun pins s σ H Q I h => ?_⟩
  refine Subscript_ (thn (he.run pins s σ H _ I h) fun v s1 ⟨x, H1, I1, r1, q1⟩ => ?_)
  refine wpAny_Slice (thn (hl.run pins s1 σ H1 _ I1 q1) fun vl s2 ⟨l, H2, I2, pl, q2⟩ => thn (hu.run pins s2 σ H2 _ I2 q2) fun vu s3 ⟨u, H3, I3, pu, q3⟩ => ?_)
  have hst : PO X (some (.Constant (.int (j : Nat)) k p1)) (tPart (tC (.int (j : Int)))) := po_some pe_int
  refine thn (hst.run pins s3 σ H3 (fun o H4 => o = some (j : Int) ∧ H4 = H3) I3 ⟨(j : Int), rfl, rfl, rfl⟩) fun vs s4 ⟨o, H4, I4, ps, eo, e4⟩ => ?_
  subst eo e4
  obtain ⟨a, xs, ex, hx, hsz, q⟩ := q3
  subst ex
  cases r1
  have I5 : Inv X pins σ H4 { s4 with heap := s4.heap.push { cls := .type "slice", data := .fields #[vl, vu, vs] } } := I4.kept (t' := s4.toks) fun b ob q => Heap.get?_push_of_some _ q
  obtain ⟨its, r, ht, hz⟩ := I5.list hx
  have hlen := r.length
  show wpAny (model X.prog X.w) X.A (subscriptTail e (.Slice lo hi (some (.Constant (.int (j : Nat)) k p1)) p3) (.ref a) (.ref s4.heap.objs.size)) (EP X pins σ Q) X.xe { s4 with heap := s4.heap.push { cls := .type "slice", data := .fields #[vl, vu, vs] } }
  refine tail_any (ops := [.ref a, .ref s4.heap.objs.size]) ht.isList.typeIs (PySem.slot_list_getitem.lookup) ?_ (by with_unfolding_all rfl)
  refine wpAny_getItem_list_slice ht.isList (Heap.IsSliceOf.new _ vl vu vs) pl pu ps (by intro z; cases z; exact hj rfl) ?_ (by rw [List.size_toArray]; omega)
  have e1 : slicePick its.toArray l u (some (j : Int)) = (pickL its l u (some (j : Int))).toArray := by
    unfold slicePick pickL
    rw [List.size_toArray]
    congr 1
    refine congrArg (fun f => List.filterMap f _) ?_
    funext i
    simp
  rw [e1]
  have rp : Vals (pickL xs l u (some (j : Int))) (pickL its l u (some (j : Int))) := by
    unfold pickL
    rw [hlen]
    exact vals_pick r _
  refine ⟨.ref _, _, I5.laid (t' := s4.toks) (o := .lst (pickL xs l u (some (j : Int)))) (fun b ob q => Heap.get?_push_of_some _ q) (Nat.le_refl _) ?_, rfl, q _ (I5.hok.fresh (Nat.le_refl _))⟩
  exact ⟨hsz, _, 0, rp, Heap.get?_push_size _ rfl⟩
end
section
variable {X : Cx} {F : Entry}
def gCut3 (c : Int) (lo hi : Option Int) : PyData → Option S
  | .list xs => if (pickL xs lo hi (some c)).length ≤ 1000000 then some (.ls (pickL xs lo hi (some c))) else none
  | _ => none
def cut3E (c : Int) (f : EE) (fl fh : OE) : EE := fun ρ => (f ρ).bind fun p => (fl p.2).bind fun l => (fh l.2).bind fun u => (view u.2 p.1).bind fun d => (gCut3 c l.1 u.1 d).map fun r => (r, u.2)
theorem c_cut3 {e : Expr} {f : EE} {lo hi : Option Expr} {fl fh : OE} {j k : Nat} {p1 p2 pos : Pos} (hj : (j : Int) ≠ 0) (he : DE X F e f) (hl : DO X F lo fl) (hh : DO X F hi fh) : DE X F (.Subscript e (.Slice lo hi (some (.Constant (.int (j : Nat)) k p1)) p2) pos) (cut3E (j : Int) f fl fh) :=
  pe_imp (pe_slice3 hj he hl hh) fun σ H Q ⟨G, ρ, φ, ts, r, ρ', I, hf, k⟩ => by
    unfold cut3E at hf
    obtain ⟨⟨s, ρ1⟩, h1, hf⟩ := Option.bind_eq_some_iff.mp hf
    obtain ⟨⟨l, ρ2⟩, h2, hf⟩ := Option.bind_eq_some_iff.mp hf
    obtain ⟨⟨u, ρ3⟩, h3, hf⟩ := Option.bind_eq_some_iff.mp hf
    obtain ⟨d, h4, hf⟩ := Option.bind_eq_some_iff.mp hf
    obtain ⟨r', h5, h6⟩ := Option.map_eq_some_iff.mp hf
    cases h6
    refine ⟨G, ρ, φ, ts, s, ρ1, I, h1, fun G1 H1 φ1 v fp I1 => ⟨G1, ρ1, φ1, _, l, ρ2, I1, h2, fun G2 H2 φ2 I2 => ⟨G2, ρ2, φ2, _, u, ρ3, I2, h3, fun G3 H3 φ3 I3 => ?_⟩⟩⟩
    have hx := I3.view I3.head h4
    unfold gCut3 at h5
    split at h5
    · rename_i zs
      split at h5
      · rename_i hle
        cases h5
        obtain ⟨q, us, rfl, h6, r1⟩ := hx.list I3.gh
        have rp : ShL X.K G3 (pickL us l u (some (j : Int))) (pickL zs l u (some (j : Int))) := by
          unfold pickL
          rw [r1.length]
          exact r1.pick _
        exact ⟨q, us, rfl, SqL.of h6, by rw [rp.length]; exact Nat.le_trans hle line_big, fun p np => k _ _ φ3 _ _ (I3.drop.newL np rp)⟩
      · cases h5
    · cases h5
/-! ### repr(a) == repr(b) -/
mutual
def eqP : PyData → PyData → Bool
  | .none, .none => true
  | .bool a, .bool b => a == b
  | .int a, .int b => decide (a = b)
  | .str a, .str b => decide (a = b)
  | .tuple xs, .tuple ys => eqPL xs ys
  | .list xs, .list ys => eqPL xs ys
  | _, _ => false
def eqPL : List PyData → List PyData → Bool
  | [], [] => true
  | x :: xs, y :: ys => eqP x y && eqPL xs ys
  | _, _ => false
end
mutual
theorem eqP_eq : ∀ {a b : PyData}, eqP a b = true → a = b
  | .none, b, h => by cases b <;> simp [eqP] at h <;> rfl
  | .bool a, b, h => by cases b <;> simp [eqP] at h; rw [h]
  | .int a, b, h => by cases b <;> simp [eqP] at h; rw [h]
  | .str a, b, h => by cases b <;> simp [eqP] at h; rw [h]
  | .tuple xs, b, h => by
    cases b <;> try (simp [eqP] at h; done)
    rename_i ys
    have h : eqPL xs ys = true := by simpa [eqP] using h
    rw [eqPL_eq h]
  | .list xs, b, h => by
    cases b <;> try (simp [eqP] at h; done)
    rename_i ys
    have h : eqPL xs ys = true := by simpa [eqP] using h
    rw [eqPL_eq h]
  | .dict kvs, b, h => by cases b <;> simp [eqP] at h
theorem eqPL_eq : ∀ {a b : List PyData}, eqPL a b = true → a = b
  | [], b, h => by cases b <;> simp [eqPL] at h <;> rfl
  | x :: xs, b, h => by
    cases b with
    | nil => simp [eqPL] at h
    | cons y ys =>
      simp only [eqPL, Bool.and_eq_true] at h
      rw [eqP_eq h.1, eqPL_eq h.2]
end
theorem de_ref {e : Expr} {f f' : EE} (h : DE X F e f) (r : ∀ ρ x, f' ρ = some x → f ρ = some x) : DE X F e f' := pe_imp h fun σ H Q ⟨G, ρ, φ, ts, s, ρ', I, hf, k⟩ => ⟨G, ρ, φ, ts, s, ρ', I, r _ _ hf, k⟩
theorem db_ref {e : Expr} {f f' : BE} (h : DB X F e f) (r : ∀ ρ x, f' ρ = some x → f ρ = some x) : DB X F e f' := pt_imp h fun σ H Q ⟨G, ρ, φ, ts, s, ρ', I, hf, k⟩ => ⟨G, ρ, φ, ts, s, ρ', I, r _ _ hf, k⟩
def reprQ (neg : Bool) (fa fb : EE) : EE := fun ρ => (fa ρ).bind fun p => (view p.2 p.1).bind fun d => if reprOk d = true then (fb p.2).bind fun q => (view q.2 q.1).bind fun e => if reprOk e = true then some (.sh (.bool (neg != (eqP d e || decide (d.shown = e.shown)))), q.2) else none else none
abbrev reprB (neg : Bool) (fa fb : EE) : EE := binE (eqS neg) (callE gRepr (consA fa nilA)) (callE gRepr (consA fb nilA))
theorem eqP_or (d e : PyData) : (eqP d e || decide (d.shown = e.shown)) = decide (d.shown = e.shown) := by
  cases h : eqP d e with
  | false => rfl
  | true => rw [eqP_eq h]; simp
theorem reprQ_ref {neg : Bool} {fa fb : EE} : ∀ ρ x, reprQ neg fa fb ρ = some x → reprB neg fa fb ρ = some x := fun ρ x h => by
  unfold reprQ at h
  obtain ⟨⟨s, ρ1⟩, h1, h⟩ := Option.bind_eq_some_iff.mp h
  obtain ⟨d, h2, h⟩ := Option.bind_eq_some_iff.mp h
  split at h
  · rename_i ok1
    obtain ⟨⟨t, ρ2⟩, h3, h⟩ := Option.bind_eq_some_iff.mp h
    obtain ⟨e, h4, h⟩ := Option.bind_eq_some_iff.mp h
    split at h
    · rename_i ok2
      rw [eqP_or] at h
      have g1 : gRepr [d] = some (.sh (.str d.shown)) := if_pos ok1
      have g2 : gRepr [e] = some (.sh (.str e.shown)) := if_pos ok2
      have v1 : viewL ρ1 [s] = some [d] := by
        show (view ρ1 s).bind (fun d => (viewL ρ1 []).map fun ds => d :: ds) = _
        rw [h2]; rfl
      have v2 : viewL ρ2 [t] = some [e] := by
        show (view ρ2 t).bind (fun d => (viewL ρ2 []).map fun ds => d :: ds) = _
        rw [h4]; rfl
      have c1 : callE gRepr (consA fa nilA) ρ = some (.sh (.str d.shown), ρ1) := by
        unfold callE consA nilA
        rw [h1]
        show (viewL ρ1 [s]).bind _ = _
        rw [v1, Option.bind_some, g1]; rfl
      have c2 : callE gRepr (consA fb nilA) ρ1 = some (.sh (.str e.shown), ρ2) := by
        unfold callE consA nilA
        rw [h3]
        show (viewL ρ2 [t]).bind _ = _
        rw [v2, Option.bind_some, g2]; rfl
      unfold reprB binE
      rw [c1, Option.bind_some, c2, Option.bind_some]
      exact h
    · cases h
  · cases h
theorem c_reprQ {neg : Bool} {e : Expr} {fa fb : EE} (h : DE X F e (reprB neg fa fb)) : DE X F e (reprQ neg fa fb) := de_ref h reprQ_ref
theorem b_reprQ {neg : Bool} {e : Expr} {fa fb : EE} (h : DB X F e (truE (reprB neg fa fb))) : DB X F e (truE (reprQ neg fa fb)) := db_ref h fun ρ x h => by
  unfold truE at h ⊢
  obtain ⟨⟨s, ρ1⟩, h1, h⟩ := Option.bind_eq_some_iff.mp h
  rw [reprQ_ref _ _ h1, Option.bind_some]
  exact h
/-! ### math.isqrt -/
def rIsqrt : List V → Hp → VK → Prop := fun vs H Q => ∃ a : Int, vs = [.int a] ∧ 0 ≤ a ∧ a < 18446744073709551616 ∧ Q (.int ((Float64.isqrt a.toNat : Nat) : Int)) H
theorem cr_isqrt : CallR X (.builtin "math.isqrt") rIsqrt := by
  intro pins s σ H vs us Q I r h
  obtain ⟨a, rfl, h0, h1, q⟩ := h
  cases r with
  | cons r1 r2 =>
  cases r2
  obtain ⟨t, rfl⟩ := r1
  exact PySem.W.mg_isqrt h0 h1 ⟨.int _, H, I.tok _, ⟨_, rfl⟩, q⟩
def gIsqrt : List PyData → Option S
  | [.int a] => if 0 ≤ a ∧ a < 18446744073709551616 then some (.sh (.int ((Float64.isqrt a.toNat : Nat) : Int))) else none
  | _ => none
theorem ca_isqrt : CaD X F rIsqrt gIsqrt := by
  intro G H σ ρ φ ts vs ds r Q I hw hg k
  unfold gIsqrt at hg
  split at hg
  · split at hg
    · rename_i h
      cases hg
      obtain ⟨v, rfl, h1⟩ := shwl1 hw
      exact ⟨_, by rw [h1.int], h.1, h.2, k _ _ φ _ [] (I.pushD (.int _))⟩
    · cases hg
  · cases hg
end
end Dn
/-! Part 26: a comprehension one of whose names is a name of the def, too -/
namespace Dn
open PySem PyProof.Rows L2
/-- slot v, its content shared data (or nothing), is put aside while the comprehension runs -/
def lcV (v : Nat) (vs : List Nat) (it : IE) (tg : GE) (tt : BE) (el : EE) : EE := fun ρ => (it ρ).bind fun p => match p.2[v]? with
  | some (some (.sh d)) => if deadE (p.2.set v none) vs = true ∧ p.1.length ≤ 1000000 then (lcGo vs tg tt el p.1 (p.2.set v none)).map fun q => (.ls q.1, q.2.set v (some (.sh d))) else none
  | _ => if deadE p.2 vs = true ∧ p.1.length ≤ 1000000 then (lcGo vs tg tt el p.1 p.2).map fun q => (.ls q.1, q.2) else none
theorem wipe_set {σ : L2.St} {v : Nat} : ∀ {vs : List Nat}, v ∈ vs → wipe (σ.set v none) vs = wipe σ vs := fun {vs} h => by
  refine wipe_eq (by simp) fun j hj => ?_
  exact List.getElem?_set_ne fun z => hj (by rw [← z]; exact h)
section
variable {X : Cx} {F : Entry} {tg iter elt : Expr} {ifs : List Expr} {scope : Scope} {own : List (Str × Nat)} {pos spos : Pos} {it : IE} {g : GE} {tt : BE} {el : EE}
theorem lc_runV {v : Nat} {vs : List Nat} (hv : own.map (·.2) = vs) (hm : v ∈ vs) (hvs : ∀ p ∈ own, p.2 ∈ F.cs) : ∀ σ H Q, tE X.K F (lcV v vs it g tt el) σ H Q →
    tLc (tI X.K F it) (tG X.K F (own.map (·.2)) g) (tB X.K F tt) (tE X.K F el) (own.map (·.2)) σ H Q := fun σ H Q ⟨G, ρ, φ, ts, r, ρ', I, hf, k⟩ => by
  have hcs : ∀ v ∈ own.map (·.2), v ∈ F.cs := fun v hv => by
    obtain ⟨q, hq, e⟩ := List.mem_map.mp hv
    rw [← e]; exact hvs q hq
  have hf0 := hf
  unfold lcV at hf
  obtain ⟨⟨ds, ρ1⟩, h1, hf⟩ := Option.bind_eq_some_iff.mp hf
  simp only at hf
  split at hf
  · rename_i d0 hd0
    split at hf
    · rename_i hz
      obtain ⟨⟨ys, ρ2⟩, h2, hf⟩ := Option.map_eq_some_iff.mp hf
      cases hf
      obtain ⟨hdead, hlen⟩ := hz
      have dead := dead_spec hdead
      have hv0 : v ≠ 0 := (dead v hm).2
      rw [hv] at hcs ⊢
      have hvc : v ∈ F.cs := hcs v hm
      have hvl : v < ρ1.length := (List.getElem?_eq_some_iff.mp hd0).1
      refine ⟨G, ρ, φ, ts, ds, ρ1, I, h1, fun G1 H1 φ1 J I1 W D hD => ?_⟩
      obtain ⟨v0, hs0, hr0⟩ := I1.sl v _ hd0
      have nobo : ∀ t ∈ ts, t.s ≠ .bor v := fun t ht e => by
        have r := I.tm t ht
        rw [e] at r
        exact r.2.1 hvc
      have J1 := I1.pushD hr0.2
      have J2a := J1.wipeAt (σ' := σ.set v none) v (by simp [hv0]) (fun j hj => List.getElem?_set_ne (Ne.symm hj)) (by simp) (fun t ht => by
        rcases List.mem_cons.mp ht with z | z
        · rw [z]; exact nofun
        · exact nobo t z)
      have live1 : ∀ u ∈ vs, ∀ s, (ρ1.set v none)[u]? ≠ some (some s) := fun u hu s e => by rw [(dead u hu).1] at e; cases e
      have J2 := J2a.inBlock hcs live1
      rw [wipe_set hm] at J2
      have nob : ∀ t ∈ (⟨.non, .mk G1, []⟩ :: ⟨v0, .sh d0, []⟩ :: ts : List Hd), ∀ i ∈ vs, t.s ≠ .bor i := fun t ht i hi e => by
        rcases List.mem_cons.mp ht with z | z
        · rw [z] at e; cases e
        · rcases List.mem_cons.mp z with z | z
          · rw [z] at e; cases e
          · have r := I.tm t z
            rw [e] at r
            exact r.2.1 (hcs i hi)
      have I2 := J2.mark.newL hD .nil
      have lenY := lcGo_len h2
      have big : (1000000 : Nat) < sizeLine := by decide
      refine ⟨fun i m H => m = ds.length - i ∧ i ≤ ds.length ∧ ∃ G2 ρ3 φ3 acc rest, Fm X.K F G2 H (wipe σ vs) ρ3 φ3 (⟨.ref D, .ls acc, [D]⟩ :: ⟨.non, .mk G1, []⟩ :: ⟨v0, .sh d0, []⟩ :: ts) ∧ (∀ u ∈ vs, ∀ s, ρ3[u]? ≠ some (some s)) ∧ acc ++ rest = ys ∧ lcGo vs g tt el (ds.drop i) ρ3 = some (rest, ρ2), ⟨_, rfl, Nat.zero_le _, G1, ρ1.set v none, _, [], ys, I2, live1, rfl, h2⟩, ?_⟩
      rintro i m H2 ⟨rfl, hi, G2, ρ3, φ3, acc, rest, I3, hd3, hacc, hgo⟩
      have l2 : Le G1 G2 := I3.marked (List.mem_cons_of_mem _ List.mem_cons_self)
      have hle : Le G1 H2 := fun a o q => I3.gh a o (l2 a o q)
      by_cases hlt : i < ds.length
      · right
        refine ⟨W.go i H2 hle hlt, fun H' => i + 1 ≤ ds.length ∧ ∃ G2 ρ3 φ3 acc rest, Fm X.K F G2 H' (wipe σ vs) ρ3 φ3 (⟨.ref D, .ls acc, [D]⟩ :: ⟨.non, .mk G1, []⟩ :: ⟨v0, .sh d0, []⟩ :: ts) ∧ (∀ u ∈ vs, ∀ s, ρ3[u]? ≠ some (some s)) ∧ acc ++ rest = ys ∧ lcGo vs g tt el (ds.drop (i + 1)) ρ3 = some (rest, ρ2),
          fun H' hN => ⟨ds.length - (i + 1), by omega, rfl, hN⟩, fun x H' hy => ?_⟩
        obtain ⟨d, G3, hd, l3, I4, rx⟩ := W.take I3 l2 hlt hy
        have edrop : ds.drop i = d :: ds.drop (i + 1) := by
          obtain ⟨h5, h6⟩ := List.getElem?_eq_some_iff.mp hd
          rw [List.drop_eq_getElem_cons h5, h6]
        rw [edrop, lcGo] at hgo
        obtain ⟨ρ4, g1, hgo⟩ := Option.bind_eq_some_iff.mp hgo
        obtain ⟨⟨b, ρ5⟩, g2, hgo⟩ := Option.bind_eq_some_iff.mp hgo
        simp only at hgo
        have nobD : ∀ t ∈ (⟨.ref D, .ls acc, [D]⟩ :: ⟨.non, .mk G1, []⟩ :: ⟨v0, .sh d0, []⟩ :: ts : List Hd), ∀ i ∈ vs, t.s ≠ .bor i := fun t ht j hj e => by
          rcases List.mem_cons.mp ht with z | z
          · rw [z] at e; cases e
          · exact nob t z j hj e
        refine ⟨G3, ρ3, φ3, _, d, ρ4, I4, rx, g1, nobD, fun G4 H4 φ4 σ4 I5 hl4 hσ => ?_⟩
        have wsame : wipe σ4 vs = wipe σ vs := (wipe_eq hl4 hσ).trans (wipe_eq (wipe_length _ _) fun j hj => wipe_out hj)
        have zero : ∀ u ∈ vs, u ≠ 0 := fun u hu => (dead u hu).2
        have nobD' : ∀ u ∈ vs, ∀ t ∈ (⟨.ref D, .ls acc, [D]⟩ :: ⟨.non, .mk G1, []⟩ :: ⟨v0, .sh d0, []⟩ :: ts : List Hd), t.s ≠ .bor u := fun u hu t ht => nobD t ht u hu
        refine ⟨wsame, G4, ρ4, φ4, _, b, ρ5, I5, g2, fun G5 H5 φ5 I6 => ?_⟩
        cases b with
        | true =>
          rw [if_pos rfl] at hgo
          obtain ⟨⟨r, ρ6⟩, g3, hgo⟩ := Option.bind_eq_some_iff.mp hgo
          obtain ⟨⟨y, ρ7⟩, g4, hgo⟩ := Option.bind_eq_some_iff.mp hgo
          obtain ⟨⟨us, ρ8⟩, g5, hgo⟩ := Option.map_eq_some_iff.mp hgo
          simp only at g4 g5
          have e1 : y :: us = rest := (Prod.mk.inj hgo).1
          have e2 : ρ8 = ρ2 := (Prod.mk.inj hgo).2
          subst e1 e2
          refine iteT ⟨G5, ρ5, φ5, _, r, ρ6, I6, g3, fun G6 H6 φ6 w6 fp I7 => ?_⟩
          obtain ⟨G7, φ7, I8, l7⟩ := I7.froze g4
          have ry : Sh X.K G7 w6 y := I8.head.2
          have I9 := I8.drop
          obtain ⟨av, hav, rav⟩ := I9.list rfl
          have I10 := I9.more ry hav
          obtain ⟨φ8, I11⟩ := Fm.wipeN (vs := vs) zero (fun u hv t ht => by
            rcases List.mem_cons.mp ht with z | z
            · rw [z]; exact nofun
            · exact fun e => nob t z u hv e) I10
          rw [wsame] at I11
          refine ⟨av, hav, ?_, hlt, G7, _, φ8, acc ++ [y], us, I11, fun u hu s e => (wipeE_some e).2 hu, by rw [List.append_assoc]; exact hacc, g5⟩
          have e1 : acc.length + (us.length + 1) = ys.length := by rw [← hacc, List.length_append, List.length_cons]
          have e2 := rav.length
          omega
        | false =>
          rw [if_neg Bool.false_ne_true] at hgo
          obtain ⟨φ8, I7⟩ := Fm.wipeN (vs := vs) zero nobD' I6
          rw [wsame] at I7
          exact iteF ⟨hlt, G5, _, φ8, acc, rest, I7, fun u hu s e => (wipeE_some e).2 hu, hacc, hgo⟩
      · have ei : i = ds.length := by omega
        subst ei
        rw [List.drop_length] at hgo
        cases hgo
        rw [List.append_nil] at hacc
        subst hacc
        rw [← wipe_set (σ := σ) hm] at I3
        have I3b := I3.outBlock hcs hd3
        have I5 := I3b.drop2.swap.set (i := v) (by rw [I3b.len.symm, List.length_set]; exact (List.getElem?_eq_some_iff.mp hs0).1) (by simp [hv0]) (fun _ => nofun) (fun t ht => by
          rcases List.mem_cons.mp ht with z | z
          · rw [z]; exact nofun
          · exact nobo t z)
        have esig : (σ.set v none).set v (some v0) = σ := by
          rw [List.set_set]
          refine List.ext_getElem? fun j => ?_
          by_cases hj : v = j
          · subst hj
            rw [List.getElem?_set_self (List.getElem?_eq_some_iff.mp hs0).1, hs0]
          · rw [List.getElem?_set_ne hj]
        rw [esig] at I5
        exact .inl ⟨W.stop _ H2 hle (Nat.le_refl _), k _ _ _ _ _ I5⟩
    · cases hf
  · refine lc_run hvs σ H Q ⟨G, ρ, φ, ts, r, ρ', I, ?_, k⟩
    unfold lcE
    rw [h1, hv]
    exact hf
theorem c_lcV {v : Nat} {vs : List Nat} (hv : own.map (·.2) = vs) (hm : v ∈ vs) (C : CtxOk X) (hvs : ∀ p ∈ own, p.2 ∈ F.cs) (hi : DI X F tg iter it) (ok : BlkOk X.N X.env.scope scope own)
    (hg : ∀ (s : Shared) (H : Hp) (D : Addr) (cl : List (Str × Addr)) (fp : List Addr), DG (Blk X scope s H D cl fp) F tg (own.map (·.2)) g)
    (ht : ∀ (s : Shared) (H : Hp) (D : Addr) (cl : List (Str × Addr)) (fp : List Addr), DTs (Blk X scope s H D cl fp) F ifs tt)
    (he : ∀ (s : Shared) (H : Hp) (D : Addr) (cl : List (Str × Addr)) (fp : List Addr), DE (Blk X scope s H D cl fp) F elt el) (hs : ∀ x, foldedSetIterable iter X.env x = pure x := by intro _; rfl) :
    DE X F (.ListComp elt [⟨tg, iter, ifs, 0⟩] scope pos) (lcV v vs it g tt el) := pe_imp (pe_lc C.calm C.nd hi ok hg ht he hs) (lc_runV hv hm hvs)
theorem s_setLcV {v : Nat} {vs : List Nat} (hv : own.map (·.2) = vs) (hm : v ∈ vs) {i : Nat} {y : Str} {py : Pos} (C : CtxOk X) (hy : X.N[i]? = some y) (hyl : X.env.scope.names.lookup y = some .local) (hsw : swapsWith (.ListComp elt [⟨tg, iter, ifs, 0⟩] scope pos) (some (.Name y py)) spos.line X.env = pure true)
    (hvs : ∀ p ∈ own, p.2 ∈ F.cs) (hi : DI X F tg iter it) (ok : BlkOk X.N X.env.scope scope own)
    (hg : ∀ (s : Shared) (H : Hp) (D : Addr) (cl : List (Str × Addr)) (fp : List Addr), DG (Blk X scope s H D cl fp) F tg (own.map (·.2)) g)
    (ht : ∀ (s : Shared) (H : Hp) (D : Addr) (cl : List (Str × Addr)) (fp : List Addr), DTs (Blk X scope s H D cl fp) F ifs tt)
    (he : ∀ (s : Shared) (H : Hp) (D : Addr) (cl : List (Str × Addr)) (fp : List Addr), DE (Blk X scope s H D cl fp) F elt el) (hs : ∀ x, foldedSetIterable iter X.env x = pure x := by intro _; rfl) :
    DS X F (.Assign [.Name y py] (.ListComp elt [⟨tg, iter, ifs, 0⟩] scope pos) spos) (asgS i (lcV v vs it g tt el)) :=
  ps_imp (ps_setLc (i := i) C.calm C.nd hy hyl hsw hi ok hg ht he hs) fun D σ H h => by
    obtain ⟨G, ρ, φ, ts, r, ρ', I, hf, k⟩ := asg_run D σ H h
    exact lc_runV hv hm hvs σ H _ ⟨G, ρ, φ, ts, r, ρ', I, hf, k⟩
end
end Dn
namespace Dn
open PySem PyProof.Rows L2
/-! Part 27: names of the module that are tuples of ints, or texts -/
def isInts : List Value → List Int → Bool
  | [], [] => true
  | .int i _ :: us, j :: ns => decide (i = j) && isInts us ns
  | _, _ => false
theorem isInts_vals : ∀ {us : List Value} {ns : List Int}, isInts us ns = true → Vals (ns.map V.int) us
  | [], [], _ => .nil
  | [], _ :: _, h => by cases h
  | .int i t :: us, j :: ns, h => by
    simp only [isInts, Bool.and_eq_true, decide_eq_true_eq] at h
    obtain ⟨rfl, h⟩ := h
    exact .cons ⟨t, rfl⟩ (isInts_vals h)
  | .int i t :: us, [], h => by cases h
  | .none :: _, _, h => by simp [isInts] at h
  | .ellipsis :: _, _, h => by simp [isInts] at h
  | .notImplemented :: _, _, h => by simp [isInts] at h
  | .bool _ :: _, _, h => by simp [isInts] at h
  | .float _ _ :: _, _, h => by simp [isInts] at h
  | .str _ _ :: _, _, h => by simp [isInts] at h
  | .bytes _ _ :: _, _, h => by simp [isInts] at h
  | .ref _ :: _, _, h => by simp [isInts] at h
  | .type _ :: _, _, h => by simp [isInts] at h
  | .builtin _ :: _, _, h => by simp [isInts] at h
def isTupB (oc : Value) (its : Array Value) (ns : List Int) : Bool := (match oc with | .type "tuple" => true | _ => false) && decide (its.size ≤ 1000) && isInts its.toList ns
/-- the written part holds a tuple of these ints at a -/
def TupK (K : PySem.W.Frag) (a : Addr) (ns : List Int) : Prop := ∃ (o : Obj) (its : Array Value) (n : Nat), K.lookup a = some o ∧ o.cls = .type "tuple" ∧ o.data = .seq its n ∧ its.size ≤ sizeLine ∧ Vals (ns.map V.int) its.toList
inductive IsTup (K : PySem.W.Frag) (x : Str) (ns : List Int) : Prop
  | mk {f : Addr} {oc : Value} {od : Option Addr} {its : Array Value} {n : Nat} {sl : Array (Option Value)} (a : PySem.W.nsIn K mainGlobals x = some (some (.ref f))) (l : K.lookup f = some ⟨oc, od, .seq its n, sl⟩) (c : isTupB oc its ns = true) : IsTup K x ns
theorem IsTup.tup {K : PySem.W.Frag} {x : Str} {ns : List Int} (h : IsTup K x ns) : ∃ a, PySem.W.nsIn K mainGlobals x = some (some (.ref a)) ∧ TupK K a ns := by
  obtain ⟨a, l, c⟩ := h
  unfold isTupB at c
  rw [Bool.and_eq_true, Bool.and_eq_true] at c
  obtain ⟨⟨c1, c2⟩, c3⟩ := c
  refine ⟨_, a, _, _, _, l, ?_, rfl, Nat.le_trans (of_decide_eq_true c2) (by decide), isInts_vals c3⟩
  split at c1
  · rfl
  · cases c1
section
variable {X : Cx} {F : Entry} {x : Str} {pos : Pos}
theorem c_gtup {ns : List Int} (hg : Gl X x) (hm : ∃ a, X.mg x = some (.ref a) ∧ TupK X.K a ns) (hd : (x == ("__debug__" : Str)) = false := by decide) : DE X F (.Name x pos) (cst (.tuple (ns.map PyData.int))) := by
  obtain ⟨a, e, h⟩ := hm
  exact c_of (pe_glob (v := .ref a) hg e rfl hd) fun G => .tup (.inr h) (shl_ints ns)
theorem c_gstr {y : Str} (hg : Gl X x) (hm : ∃ t, X.mg x = some (.str y t)) (hd : (x == ("__debug__" : Str)) = false := by decide) : DE X F (.Name x pos) (cst (.str y)) := by
  obtain ⟨t, e⟩ := hm
  exact c_of (pe_glob (v := .str y) hg e ⟨t, rfl⟩ hd) fun _ => .str y
end
end Dn
namespace Dn
open PySem PyProof.Rows L2
/-! Part 28: a, b, c, d = w, x, y, z: what is private stays so -/
def stV {α : Type} : List Nat → List α → List (Option α) → List (Option α)
  | j :: js, v :: vs, σ => stV js vs (σ.set j (some v))
  | _, _, σ => σ
theorem stV_comm {α : Type} {i : Nat} {x : α} : ∀ {js : List Nat} {vs : List α} {σ : List (Option α)}, i ∉ js → stV js vs (σ.set i (some x)) = (stV js vs σ).set i (some x)
  | [], _, _, _ => rfl
  | _ :: _, [], _, _ => rfl
  | j :: js, v :: vs, σ, h => by
    rw [stV, stV, List.set_comm _ _ (fun z => h (by rw [z]; exact List.mem_cons_self)), stV_comm fun z => h (List.mem_cons_of_mem _ z)]
theorem stV_snoc {α : Type} {i : Nat} {x : α} : ∀ {js : List Nat} {vs : List α} {σ : List (Option α)}, js.length = vs.length → stV (js ++ [i]) (vs ++ [x]) σ = (stV js vs σ).set i (some x)
  | [], [], _, _ => rfl
  | [], _ :: _, _, h => by cases h
  | _ :: _, [], _, h => by cases h
  | j :: js, v :: vs, σ, h => by rw [List.cons_append, List.cons_append, stV, stV, stV_snoc (Nat.succ.inj h)]
theorem stV_rev {α : Type} : ∀ {js : List Nat} {vs : List α} {σ : List (Option α)}, js.length = vs.length → js.Nodup → stV js vs σ = stV js.reverse vs.reverse σ
  | [], [], _, _, _ => rfl
  | [], _ :: _, _, h, _ => by cases h
  | _ :: _, [], _, h, _ => by cases h
  | j :: js, v :: vs, σ, h, n => by
    have n := List.nodup_cons.mp n
    rw [stV, stV_comm n.1, stV_rev (Nat.succ.inj h) n.2, List.reverse_cons, List.reverse_cons, stV_snoc (by rw [List.length_reverse, List.length_reverse]; exact Nat.succ.inj h)]
theorem Fm.setN {K : PySem.W.Frag} {F : Entry} {G H : Hp} {ts : List Hd} (nb : NoBor ts) : ∀ {us : List Hd} {js : List Nat} {σ : L2.St} {ρ : Dn.Env} {φ : Nat → List Addr}, js.length = us.length → (∀ j ∈ js, j ≠ 0 ∧ j < ρ.length) → (∀ u ∈ us, ∀ k, u.s ≠ .bor k) →
    Fm K F G H σ ρ φ (us ++ ts) → ∃ φ', Fm K F G H (stV js (us.map Hd.v) σ) (stV js (us.map Hd.s) ρ) φ' ts
  | [], [], _, _, φ, _, _, _, I => ⟨φ, I⟩
  | [], _ :: _, _, _, _, h, _, _, _ => by cases h
  | _ :: _, [], _, _, _, h, _, _, _ => by cases h
  | ⟨v, s, fp⟩ :: us, j :: js, σ, ρ, φ, h, hj, hb, I => by
    have h0 := hj j List.mem_cons_self
    have I2 := Fm.set (i := j) I h0.2 (by simp [h0.1]) (fun k => hb _ List.mem_cons_self k) (fun t ht => by
      rcases List.mem_append.mp ht with z | z
      · exact hb t (List.mem_cons_of_mem _ z) j
      · exact nb t z j)
    exact Fm.setN (us := us) (js := js) nb (Nat.succ.inj h) (fun k hk => by rw [List.length_set]; exact hj k (List.mem_cons_of_mem _ hk)) (fun u hu => hb u (List.mem_cons_of_mem _ hu)) I2
def gsN : List Nat → TGs
  | [] => gNil
  | i :: is => gCons (gName i) (gsN is)
theorem gsN_run {Q : L2.St → Hp → Prop} {H : Hp} : ∀ {is : List Nat} {vs : List V} {σ : L2.St}, is.length = vs.length → Q (stV is vs σ) H → gsN is vs σ H Q
  | [], [], _, _, q => ⟨rfl, q⟩
  | [], _ :: _, _, h, _ => by cases h
  | _ :: _, [], _, h, _ => by cases h
  | i :: is, v :: vs, σ, h, q => ⟨v, vs, rfl, gsN_run (Nat.succ.inj h) q⟩
def ownS : S → Bool
  | .sh _ => true
  | .ls _ => true
  | .dk _ => true
  | .dt _ => true
  | _ => false
def parNS (is : List Nat) (ta : AE) : SE := fun ρ => (ta ρ).bind fun p => if p.1.all ownS = true ∧ p.1.length = is.length ∧ (is.all fun i => decide (i ≠ 0) && decide (i < p.2.length)) = true then some (.nx (stV is p.1 p.2)) else none
theorem s_parN {X : Cx} {F : Entry} {st : Stmt} {ta : AE} {is : List Nat} (hn : is.Nodup) (hl : is.length ≤ 100) (h : PS X st (tAsg (tTup (tAs X.K F ta)) (gTup X.K is.length (gsN is)))) : DS X F st (parNS is ta) := ps_imp h fun D σ H ⟨G, ρ, φ, ts, o, I, nb, hf, k⟩ => by
  unfold parNS at hf
  obtain ⟨⟨rs, ρ1⟩, h1, hf⟩ := Option.bind_eq_some_iff.mp hf
  simp only at hf
  split at hf
  · rename_i hc
    obtain ⟨c1, c2, c3⟩ := hc
    cases hf
    refine ⟨G, ρ, φ, ts, rs, ρ1, I, h1, fun G1 H1 φ1 hs e1 I1 => ?_⟩
    subst e1
    rw [List.length_map] at c2
    have own : ∀ u ∈ hs.reverse, ∀ k, u.s ≠ .bor k := fun u hu k z => by
      have := List.all_eq_true.mp c1 u.s (List.mem_map.mpr ⟨u, List.mem_reverse.mp hu, rfl⟩)
      rw [z] at this
      cases this
    have sl : ∀ j ∈ is.reverse, j ≠ 0 ∧ j < ρ1.length := fun j hj => by
      have := List.all_eq_true.mp c3 j (List.mem_reverse.mp hj)
      rw [Bool.and_eq_true] at this
      exact ⟨of_decide_eq_true this.1, of_decide_eq_true this.2⟩
    refine ⟨by rw [List.length_map, c2]; exact Nat.le_trans hl (by decide), fun p hp => ?_⟩
    have I2 := I1.newP hp (.tup (hs.map Hd.v))
    obtain ⟨φ', I3⟩ := Fm.setN nb (by rw [List.length_reverse, List.length_reverse, c2]) sl own I2
    rw [List.map_reverse, List.map_reverse, ← stV_rev (by rw [List.length_map, c2]) hn, ← stV_rev (by rw [List.length_map, c2]) hn] at I3
    refine ⟨p, hs.map Hd.v, rfl, SqT.of upd_same, by rw [List.length_map, c2], gsN_run (by rw [List.length_map, c2]) ?_⟩
    exact k _ _ _ _ I3
  · cases hf
/-! a list that is stored under a comprehension's name is shared at once -/
def shE (f : EE) : EE := fun ρ => (f ρ).bind fun p => (froze p.2 p.1).map fun q => (.sh q.1, q.2)
section
variable {X : Cx} {F : Entry} {tg e elt iter : Expr} {ifs : List Expr} {pos spos : Pos} {f el : EE} {scope : Scope} {own : List (Str × Nat)} {it : IE} {g : GE} {tt : BE}
theorem sh_run {K : PySem.W.Frag} : ∀ σ H Q, tE K F (shE f) σ H Q → tE K F f σ H Q := fun σ H Q ⟨G, ρ, φ, ts, r, ρ', I, hf, k⟩ => by
  unfold shE at hf
  obtain ⟨⟨s, ρ1⟩, h1, hf⟩ := Option.bind_eq_some_iff.mp hf
  obtain ⟨⟨d, ρ2⟩, h2, hf⟩ := Option.map_eq_some_iff.mp hf
  cases hf
  simp only at h2
  refine ⟨G, ρ, φ, ts, s, ρ1, I, h1, fun G1 H1 φ1 v fp I1 => ?_⟩
  obtain ⟨G2, φ2, I2, _⟩ := I1.froze h2
  exact k _ _ _ _ _ I2
theorem c_sh (h : DE X F e f) : DE X F e (shE f) := pe_imp h sh_run
theorem s_setLcS {i : Nat} {y : Str} {py : Pos} (C : CtxOk X) (hy : X.N[i]? = some y) (hyl : X.env.scope.names.lookup y = some .local) (hsw : swapsWith (.ListComp elt [⟨tg, iter, ifs, 0⟩] scope pos) (some (.Name y py)) spos.line X.env = pure true)
    (hvs : ∀ p ∈ own, p.2 ∈ F.cs) (hi : DI X F tg iter it) (ok : BlkOk X.N X.env.scope scope own)
    (hg : ∀ (s : Shared) (H : Hp) (D : Addr) (cl : List (Str × Addr)) (fp : List Addr), DG (Blk X scope s H D cl fp) F tg (own.map (·.2)) g)
    (ht : ∀ (s : Shared) (H : Hp) (D : Addr) (cl : List (Str × Addr)) (fp : List Addr), DTs (Blk X scope s H D cl fp) F ifs tt)
    (he : ∀ (s : Shared) (H : Hp) (D : Addr) (cl : List (Str × Addr)) (fp : List Addr), DE (Blk X scope s H D cl fp) F elt el) (hs : ∀ x, foldedSetIterable iter X.env x = pure x := by intro _; rfl) :
    DS X F (.Assign [.Name y py] (.ListComp elt [⟨tg, iter, ifs, 0⟩] scope pos) spos) (asgS i (shE (lcE (own.map (·.2)) it g tt el))) :=
  ps_imp (ps_setLc (i := i) C.calm C.nd hy hyl hsw hi ok hg ht he hs) fun D σ H h => by
    have h2 := asg_run D σ H h
    exact lc_run hvs σ H _ (sh_run σ H _ h2)
end
end Dn
namespace Dn
open PySem PyProof.Rows L2
/-! Part 29: runs that end in an exception, and try .. except X: -/
abbrev Exn := Str × List (Str × PyData)
/-- the exception's class and its own attributes -/
def ExnAt (K : PySem.W.Frag) (mg : Str → Option Value) (G H : Hp) (cls : Value) (d : Option Addr) (x : Exn) : Prop :=
  mg x.1 = some cls ∧ ((x.2 = [] ∧ d = none) ∨ ∃ a vs, d = some a ∧ H a = some (.xd ((x.2.map (·.1)).zip vs)) ∧ ShL K G vs (x.2.map (·.2)))
abbrev XS := Env → Option (Exn × Env)
def tX (K : PySem.W.Frag) (mg : Str → Option Value) (F : Entry) (f : XS) (W : WX) : TS := fun _ σ H => ∃ G ρ φ ts x ρ', Fm K F G H σ ρ φ ts ∧ NoBor ts ∧ f ρ = some (x, ρ') ∧ ∀ G' H' φ' σ' cls d, Fm K F G' H' σ' ρ' φ' ts → ExnAt K mg G' H' cls d x → W cls d σ' H'
def tXE (K : PySem.W.Frag) (mg : Str → Option Value) (F : Entry) (f : XS) (W : WX) : TE := fun σ H _ => ∃ G ρ φ ts x ρ', Fm K F G H σ ρ φ ts ∧ f ρ = some (x, ρ') ∧ ∀ G' H' φ' cls d, Fm K F G' H' σ ρ' φ' ts → ExnAt K mg G' H' cls d x → W cls d σ H'
abbrev DX (X : Cx) (F : Entry) (W : WX) (st : Stmt) (f : XS) : Prop := PS X st (tX X.K X.mg F f W)
abbrev DXs (X : Cx) (F : Entry) (W : WX) (st : List Stmt) (f : XS) : Prop := PSs X st (tX X.K X.mg F f W)
abbrev DXE (X : Cx) (F : Entry) (W : WX) (e : Expr) (f : XS) : Prop := PE X e (tXE X.K X.mg F f W)
theorem CtxOk.noX {X : Cx} (C : CtxOk X) : CtxOk X.nox := ⟨C.calm, C.nd, C.un, C.gd⟩
theorem CtxOk.trX {X : Cx} (C : CtxOk X) (pn : List (Addr × Obj)) (xe : Value → Shared → Prop) : CtxOk (X.tr pn xe) := ⟨C.calm, C.nd, C.un, C.gd⟩
def neverX : XS := fun _ => none
def seqX (s : SE) (x : XS) : XS := fun ρ => match s ρ with | some (.nx ρ') => x ρ' | _ => none
def orX (x y : XS) : XS := fun ρ => (x ρ).or (y ρ)
def ifX (t : BE) (x y : XS) : XS := fun ρ => (t ρ).bind fun p => if p.1 = true then x p.2 else y p.2
def raiseX (n : Str) : XS := fun ρ => some ((n, []), ρ)
section
variable {X : Cx} {F : Entry} {W : WX} {e c : Expr} {es : List Expr} {pos p : Pos} {st : Stmt} {rest body orelse : List Stmt} {t : BE} {ta : AE} {s : SE} {x y : XS} {n : Str}
theorem s_lift (h : DS X.nox F st s) : DS X F st s := ⟨fun pins s σ H D I hw =>
  wpAny_mono (h.run pins s σ H D (I.wish _) hw) (fun _ _ q => q.unwish) fun _ _ z => False.elim z⟩
theorem x_nil : DXs X F W rest neverX := ⟨fun _ _ _ _ _ _ ⟨_, _, _, _, _, _, _, _, hf, _⟩ => by cases hf⟩
theorem x_never : DX X F W st neverX := ⟨fun _ _ _ _ _ _ ⟨_, _, _, _, _, _, _, _, hf, _⟩ => by cases hf⟩
theorem x_first (h : DX X F W st x) : DXs X F W (st :: rest) x := pss_imp (pss_cons h (pss_never (X := X) (sts := rest))) fun D σ H h => h
theorem x_cons (h : DS X F st s) (hr : DXs X F W rest x) : DXs X F W (st :: rest) (seqX s x) := pss_imp (pss_cons h hr) fun D σ H ⟨G, ρ, φ, ts, z, ρ', I, nb, hf, k⟩ => by
  unfold seqX at hf
  cases q : s ρ with
  | none => rw [q] at hf; cases hf
  | some o =>
    rw [q] at hf
    cases o with
    | nx ρ1 => exact ⟨G, ρ, φ, ts, _, I, nb, q, fun G' H' φ' σ' I' => ⟨G', ρ1, φ', ts, z, ρ', I', nb, hf, k⟩⟩
    | rt s ρ1 => cases hf
    | bk ρ1 => cases hf
    | ct ρ1 => cases hf
theorem x_or (h : DXs X F W rest x) (g : DXs X F W rest y) : DXs X F W rest (orX x y) := ⟨fun pins s σ H D I ⟨G, ρ, φ, ts, z, ρ', J, nb, hf, k⟩ => by
  unfold orX at hf
  cases q : x ρ with
  | none =>
    rw [q, Option.none_or] at hf
    exact g.run pins s σ H D I ⟨G, ρ, φ, ts, z, ρ', J, nb, hf, k⟩
  | some u =>
    rw [q, Option.some_or] at hf
    exact h.run pins s σ H D I ⟨G, ρ, φ, ts, z, ρ', J, nb, q.trans hf, k⟩⟩
theorem x_if (hc : DB X F c t) (ha : DXs X F W body x) (hb : DXs X F W orelse y) : DX X F W (.If c body orelse pos) (ifX t x y) := ps_imp (ps_if hc ha hb) fun D σ H ⟨G, ρ, φ, ts, z, ρ', I, nb, hf, k⟩ => by
  unfold ifX at hf
  obtain ⟨⟨b, ρ1⟩, h1, hf⟩ := Option.bind_eq_some_iff.mp hf
  refine ⟨G, ρ, φ, ts, b, ρ1, I, h1, fun G1 H1 φ1 I1 => ?_⟩
  cases b with
  | true => exact ⟨G1, ρ1, φ1, ts, z, ρ', I1, nb, hf, k⟩
  | false => exact ⟨G1, ρ1, φ1, ts, z, ρ', I1, nb, hf, k⟩
theorem x_expr (h : DXE X F W e x) (hs : swapsWith e none pos.line X.env = pure false := by rfl) : DX X F W (.Expr e pos) x := ps_imp (ps_expr h hs) fun D σ H ⟨G, ρ, φ, ts, z, ρ', I, nb, hf, k⟩ =>
  ⟨G, ρ, φ, ts, z, ρ', I, hf, fun G' H' φ' cls d I' q => k G' H' φ' σ cls d I' q⟩
theorem x_ret (h : DXE X F W e x) : DX X F W (.Return (some e) pos) x := ps_imp (ps_ret h) fun D σ H ⟨G, ρ, φ, ts, z, ρ', I, nb, hf, k⟩ =>
  ⟨G, ρ, φ, ts, z, ρ', I, hf, fun G' H' φ' cls d I' q => k G' H' φ' σ cls d I' q⟩
end

/-! ### classes -/
abbrev exL : List Value := [.type "Exception", .type "BaseException", .type "object"]
structure IsExc (K : PySem.W.Frag) (mg : Str → Option Value) (n : Str) (C : Addr) : Prop where
  g : mg n = some (.ref C)
  x : PySem.W.excIn K C exL "Exception.__new__" = true
  k : PySem.W.keepIn K (.ref C) = true
  b : PySem.W.subIn K (.ref C) (.type "BaseException") = some true
  t : PySem.W.typeIn K (.ref C) = some (.type "type")
  i : PySem.W.isClsIn K C = true
  s : PySem.W.subIn K (.ref C) (.ref C) = some true
theorem exm_ofX {K : PySem.W.Frag} {S T : Addr} {r : Bool} (h1 : PySem.W.subIn K (.ref T) (.type "BaseException") = some true) (h2 : PySem.W.isClsIn K T = true) (h3 : PySem.W.typeIn K (.ref T) = some (.type "type")) (h4 : PySem.W.subIn K (.ref S) (.ref T) = some r) :
    PySem.W.exmOne K (.ref S) (.ref T) = some r := by
  have e1 : (PySem.W.subIn K (.ref T) (.type "BaseException") == some true) = true := by rw [h1] <;> rfl
  have e2 : ((PySem.W.clsIn K T).isSome && PySem.W.typeIn K (.ref T) == some (.type "type")) = true := by
    have h2' : (PySem.W.clsIn K T).isSome = true := h2
    rw [h2', h3] <;> rfl
  show (if (PySem.W.subIn K (.ref T) (.type "BaseException") == some true) = true then (if ((PySem.W.clsIn K T).isSome && PySem.W.typeIn K (.ref T) == some (.type "type")) = true then PySem.W.subIn K (.ref S) (.ref T) else none) else none) = some r
  rw [if_pos e1, if_pos e2]
  exact h4
theorem IsExc.self {K : PySem.W.Frag} {mg : Str → Option Value} {n : Str} {C : Addr} (E : IsExc K mg n C) : PySem.W.exmOne K (.ref C) (.ref C) = some true := exm_ofX E.b E.i E.t E.s
theorem exm1 {K : PySem.W.Frag} {mg : Str → Option Value} {n : Str} {C : Addr} (E : IsExc K mg n C) : ∀ m ∈ [n], ∀ cls, mg m = some cls → PySem.W.exmOne K cls (.ref C) = some true := fun m hm cls h => by
  cases List.mem_singleton.mp hm
  rw [E.g] at h
  cases h
  exact E.self
/-- a class of the top, as the head has left it -/
inductive IsCls (K : PySem.W.Frag) (n : Str) : Prop
  | mk {C : Addr} (a : PySem.W.nsIn K mainGlobals n = some (some (.ref C))) (x : PySem.W.excIn K C exL "Exception.__new__" = true) (k : PySem.W.keepIn K (.ref C) = true) (b : PySem.W.subIn K (.ref C) (.type "BaseException") = some true)
      (t : PySem.W.typeIn K (.ref C) = some (.type "type")) (i : PySem.W.isClsIn K C = true) (s : PySem.W.subIn K (.ref C) (.ref C) = some true) : IsCls K n
theorem IsCls.exc {K : PySem.W.Frag} {h : Heap} {mg : Str → Option Value} {n : Str} (X : K.In h) (G : h.Ns mainGlobals mg) (I : IsCls K n) : ∃ C, IsExc K mg n C := by
  obtain ⟨a, x, k, b, t, i, s⟩ := I
  exact ⟨_, PySem.W.mg_of X G a, x, k, b, t, i, s⟩
section
variable {X : Cx} {F : Entry} {W : WX} {n : Str} {C : Addr} {p pos rp : Pos}
/-- X() -/
theorem pmk_own0 (E : IsExc X.K X.mg n C) (hg : Gl X n) (hdb : (n == ("__debug__" : Str)) = false := by decide) : PMk X (.Call (.Name n p) [] [] pos) (fun _ H Q => Q (.ref C) none H) := by
  intro pins s σ H Q I h
  refine wpAny_Call_Name_kw (ld_glob I hg E.g ?_ hdb)
  refine PySem.W.callWith_K0 I.kIn E.k ?_
  show wpAny _ _ (call (.ref C) []) _ _ _
  obtain ⟨bm, N, nm, qn, bs, hdct, sn, sub, ab, col, dd, k0, k1, k2, k3, k5, mN, hC, hN, hni, T⟩ := exc_obj I.kIn E.x
  refine wpAny_call_exc_subT PySem.F.excBase_Exception T hC hN hni (fun h' e hm => ?_) (by show 0 ≤ sizeLine; omega)
  exact mk_of I hm (raises_own E.b E.t) h (I.hok.gone hm.new)
theorem x_raise0 (hc : X.calm = true) (tk : Takes X W) (E : IsExc X.K X.mg n C) (hg : Gl X n) (hdb : (n == ("__debug__" : Str)) = false := by decide) : DX X F W (.Raise (some (.Call (.Name n p) [] [] pos)) none rp) (raiseX n) := ps_imp (ps_raise hc tk (pmk_own0 E hg hdb)) fun D σ H ⟨G, ρ, φ, ts, z, ρ', I, nb, hf, k⟩ => by
  cases hf
  exact k G H φ σ _ _ I ⟨E.g, .inl ⟨rfl, rfl⟩⟩
end

/-! ### defs that end in an exception -/
structure FnGX (P : Program) (w : World) (K : PySem.W.Frag) (mg : Str → Option Value) (base : Heap) (k : Nat) (f : Addr) (fd : FuncData) (ps : List Str) (sp : Sp) : Prop where
  len : ∀ vs H Q E, sp vs H Q E → vs.length = ps.length
  go : ∀ (A : Around) (outer : List PySem.Env) (s : Shared) (H : Hp) (args : Args) (us : List Value) (vs : List V) (Q : VK) (E : XK), Room k A → A.guards = some [] → Env0 P w K mg base A outer s H →
    BindsTo s fd args (ps.zip us) → Vals vs us → sp vs H Q E → codeAny (model P w) A (.call (.ref f) args) (CR (L2.CX P w) outer P w H s Q E) s
theorem FnGX.mono {P : Program} {w : World} {K : PySem.W.Frag} {mg : Str → Option Value} {base : Heap} {j k : Nat} {f : Addr} {fd : FuncData} {ps : List Str} {sp : Sp} (F : FnGX P w K mg base j f fd ps sp) (h : j ≤ k) : FnGX P w K mg base k f fd ps sp :=
  ⟨F.len, fun A outer s H args us vs Q E hr => F.go A outer s H args us vs Q E (hr.mono h)⟩
section
variable {P : Program} {w : World} {K : PySem.W.Frag} {mg : Str → Option Value} {base : Heap}
theorem okGX {x qual : Str} {st : Stmt} {f : Addr} {fd : FuncData} {N ps : List Str} {k : Nat} {sp : Sp} (D : Fun K x qual st f fd) (S : FnScope N ps (defScope st)) (len : ∀ vs H Q E, sp vs H Q E → vs.length = ps.length)
    (walk : ∀ (cdv : Value) (A : Around) (outer : List PySem.Env) (s : Shared) (H : Hp) (vs : List V) (Q : VK) (E : XK), CtxOk (cxOf (L2.CX P w) P w K mg base N qual (defScope st) f cdv A outer s H E) → Room k (cxOf (L2.CX P w) P w K mg base N qual (defScope st) f cdv A outer s H E).A →
      Takes (cxOf (L2.CX P w) P w K mg base N qual (defScope st) f cdv A outer s H E) (fun cls d _ H => E cls d H) → sp vs H Q E →
      ∃ t, PSs (cxOf (L2.CX P w) P w K mg base N qual (defScope st) f cdv A outer s H E) (defBody st) t ∧ t { nx := fun _ H' => Q .non H', rt := Q } (L2.start N vs) H) : FnGX P w K mg base (k + 1) f fd ps sp := by
  obtain ⟨oc, od, kV, doc, pm, an, cdv, ct, osl, efd, lk, hcd⟩ := D.ex
  subst efd
  refine ⟨len, ?_⟩
  intro A outer s H args us vs Q E hr hgd env0 bnd vals hsp
  have hlen := len _ _ _ _ hsp
  have inK : K.In s.heap := env0.mod.kin.keeps fun b o q => (env0.bs b o q).1
  have free : s.heap.NoLimit := env0.mod.nolimit.keeps fun b o q => (env0.bs b o q).1
  have kinds : ∀ y ∈ ps.zip us, (defScope st).names.lookup y.1 = some .local ∨ ((defScope st).names.lookup y.1 = some .cell ∧ ((cellsFrom (s.heap.objs.size + 1) (defScope st).names []).lookup y.1).isSome = true) := by
    rintro ⟨n, v⟩ hy
    cases S.par n (List.of_mem_zip hy).1 with
    | inl q => exact Or.inl q
    | inr q => exact Or.inr ⟨q, PySem.W.cellsFrom_some _ _ _ (Or.inl q)⟩
  apply codeAny_call_function hr.depth (inK _ _ lk) rfl S.co S.gen rfl (PySem.W.codeRec_of inK hcd)
  apply bnd
  apply wpAny_newFunctionEnv_cells S.kind kinds
  intro env hEnv s1 hIn
  subst hEnv
  refine ⟨free.keeps hIn.toInCall.keep, codeAny_func ?_⟩
  have room : Room k (A.deeper (envOfC qual (defScope st) s.heap.objs.size f cdv)) := hr.deeper _
  have cx : CtxOk (cxOf (L2.CX P w) P w K mg base N qual (defScope st) f cdv A outer s H E) := by
    refine ⟨rfl, S.nd, ?_, hgd⟩
    show A.units + 3 + 72 < cLine
    have := hr.un
    omega
  obtain ⟨t, ht, hq⟩ := walk cdv A outer s H vs Q E cx room (takes_of rfl rfl rfl rfl) hsp
  have start_ok : Inv (cxOf (L2.CX P w) P w K mg base N qual (defScope st) f cdv A outer s H E) [] (L2.start N vs) H s1 := inv_start S hr.hd env0 hlen vals hIn
  have ends : ∀ {σ' : L2.St} {H' : Hp} {v : V} {u : Value} {s' : Shared}, Inv (cxOf (L2.CX P w) P w K mg base N qual (defScope st) f cdv A outer s H E) [] σ' H' s' → RelV v u → Q v H' → CE outer P w H s Q u s' :=
    fun {σ' H' v u s'} J rv q => ⟨v, H', J.os, J.bare, J.base, J.hok, rv, q⟩
  apply wpAny_mono (ht.run [] s1 (L2.start N vs) H _ start_ok hq)
  · intro fl s' hs
    cases fl with
    | ret u => obtain ⟨v, σ', H', J, rv, q⟩ := hs; exact ends J rv q
    | next => obtain ⟨σ', H', J, q⟩ := hs; exact ends (v := V.non) (u := Value.none) J rfl q
    | brk => obtain ⟨_, _, _, q⟩ := hs; exact q.elim
    | cont => obtain ⟨_, _, _, q⟩ := hs; exact q.elim
  · intro e s' hs
    exact hs
end
/-- the promise of a def over data that ends in an exception -/
def spX (K : PySem.W.Frag) (mg : Str → Option Value) (n : Nat) (g : List PyData → Option Exn) : Sp := fun vs H _ E => vs.length = n ∧ ∃ G ds x, Le G H ∧ ShL K G vs ds ∧ g ds = some x ∧
  ∀ G' H' cls d, Le G' H' → Le G G' → Le H H' → (∀ a, H a ≠ none → G a = none → G' a = none) → ExnAt K mg G' H' cls d x → E cls d H'
def bodyX (n m : Nat) (f : XS) (ds : List PyData) : Option Exn := if ds.length = m then (f (startE n ds)).map (·.1) else none
theorem bodyX_len {n m : Nat} {f : XS} : ∀ ds r, bodyX n m f ds = some r → ds.length = m := fun ds r h => by
  unfold bodyX at h
  split at h
  · assumption
  · cases h
theorem bodyX_run {K : PySem.W.Frag} {mg : Str → Option Value} {N : List Str} {m : Nat} {cs : List Nat} {f : XS} {vs : List V} {H : Hp} {Q : VK} {E : XK} {D : Ends} (hm : m ≤ N.length) (h : spX K mg m (bodyX N.length m f) vs H Q E) :
    ∃ F, F.cs = cs ∧ tX K mg F f (fun cls d _ H => E cls d H) D (L2.start N vs) H := by
  obtain ⟨hl, G, ds, r, l, sh, hg, k⟩ := h
  unfold bodyX at hg
  split at hg
  · obtain ⟨⟨x, ρ'⟩, h1, h2⟩ := Option.map_eq_some_iff.mp hg
    cases h2
    refine ⟨⟨H, G, [], cs⟩, rfl, G, _, _, [], x, ρ', Fm.entry l sh (by rw [hl]; exact hm), (fun t ht => by cases ht), h1, fun G' H' φ' σ' cls d I q => ?_⟩
    exact k G' H' cls d I.gh I.g0 (fun a o q => I.h0 a o q (by exact List.not_mem_nil)) I.nw q
  · cases hg

/-! ### a call that ends in an exception -/
def callX (g : List PyData → Option Exn) (ta : AE) : XS := fun ρ => (ta ρ).bind fun p => (frozeL p.1 p.2).bind fun q => (g q.1).map fun x => (x, q.2)
def callXk (g : List PyData → Option Exn) (n : Nat) (sel : List Nat) (ta : AE) : XS := fun ρ => (ta ρ).bind fun p => if p.1.length = n then (frozeL p.1 p.2).bind fun q => (sel.mapM fun i => q.1[i]?).bind fun ds => (g ds).map fun x => (x, q.2) else none
theorem ShL.selX {K : PySem.W.Frag} {G : Hp} {vs : List V} {ds : List PyData} (h : ShL K G vs ds) : ∀ {sel : List Nat} {ys : List PyData}, sel.mapM (fun i => ds[i]?) = some ys → ∃ xs, sel.mapM (fun i => vs[i]?) = some xs ∧ ShL K G xs ys
  | [], ys, e => by
    cases e
    exact ⟨[], rfl, .nil⟩
  | i :: sel, ys, e => by
    rw [List.mapM_cons] at e
    obtain ⟨d, h1, e⟩ := Option.bind_eq_some_iff.mp e
    obtain ⟨ds', h2, e⟩ := Option.bind_eq_some_iff.mp e
    cases e
    obtain ⟨v, h3, h4⟩ := h.get' h1
    obtain ⟨xs, h5, h6⟩ := h.selX h2
    exact ⟨v :: xs, by rw [List.mapM_cons, h3]; show (Option.bind (List.mapM _ sel) _) = _; rw [h5]; rfl, .cons h4 h6⟩
theorem callX_end {X : Cx} {F : Entry} {W : WX} {m : Nat} {g : List PyData → Option Exn} {σ : L2.St} {H1 G2 : Hp} {ρ' : Env} {φ2 : Nat → List Addr} {ts : List Hd} {vs : List V} {ds : List PyData} {x : Exn} {Q : VK}
    (I2 : Fm X.K F G2 H1 σ ρ' φ2 ts) (r2 : ShL X.K G2 vs ds) (h3 : g ds = some x) (hmn : ∀ ds r, g ds = some r → ds.length = m) (k : ∀ G' H' φ' cls d, Fm X.K F G' H' σ ρ' φ' ts → ExnAt X.K X.mg G' H' cls d x → W cls d σ H') :
    spX X.K X.mg m g vs H1 Q (WE W σ) := by
  refine ⟨by rw [r2.length, hmn _ _ h3], G2, ds, _, I2.gh, r2, h3, fun G3 H3 cls d l3 l4 l5 nw q => ?_⟩
  have I3 : Fm X.K F G3 H3 σ _ φ2 ts := I2.grow l4 l3
    (fun a q1 q2 => by
      cases z : H1 a with
      | none => exact absurd z q2
      | some o => exact l5 a o z)
    (fun i a ha => nw a (I2.ph i a ha).2.1 (I2.ph i a ha).1) (fun t ht a ha => nw a ((I2.tm t ht).there a ha) (I2.tp t ht a ha).1)
    (fun a q1 q2 => by
      have g1 := I2.nw a q1 q2
      by_cases z : a ∈ F.M0
      · exact nw a (I2.m0 a z) g1
      · cases q : F.H0 a with
        | none => exact absurd q q1
        | some o => exact nw a (by rw [I2.h0 a o q z]; simp) g1)
  exact k G3 H3 φ2 cls d I3 q
section
variable {X : Cx} {F : Entry} {W : WX} {k m : Nat} {f : Addr} {fd : FuncData} {ps ks : List Str} {x : Str} {p pos : Pos} {e : Expr} {es : List Expr} {ta : AE} {g : List PyData → Option Exn} {sel : List Nat} {kws : List Keyword} {sp : Sp}
theorem run_fnGX {pins : List (Addr × Obj)} {σ : L2.St} {H : Hp} {s : Shared} {Q : VK} {us : List Value} {vs : List V} (C : CtxOk X) (D : FnGX X.prog X.w X.K X.mg X.base k f fd ps sp) (hr : Room k X.A) (hb : Binds X.K fd ps []) (tk : Takes X W)
    (I : Inv X pins σ H s) (r : Vals vs us) (h : sp vs H Q (WE W σ)) : wpAny (model X.prog X.w) X.A (call (.ref f) us) (EP X pins σ Q) X.xe s := by
  have hl : us.length = ps.length := by rw [← r.length]; exact D.len _ _ _ _ h
  have b := hb s us I.kIn (by rw [List.append_nil]; exact hl)
  rw [List.append_nil] at b
  refine wpAny_call (codeAny_mono (D.go X.A X.stack s H ⟨us, []⟩ us vs Q (WE W σ) hr C.gd I.env0 b r h) fun r s' hq => ?_)
  cases r with
  | error e => exact passAt tk σ pins H s e s' I hq
  | ok fl =>
    cases fl with
    | ret u => exact I.after hq
    | next => exact False.elim hq
    | brk => exact False.elim hq
    | cont => exact False.elim hq
theorem x_call (C : CtxOk X) (D : FnGX X.prog X.w X.K X.mg X.base k f fd ps (spX X.K X.mg m g)) (hmn : ∀ ds r, g ds = some r → ds.length = m) (hr : Room k X.A) (tk : Takes X W) (hg : Gl X x) (hm : X.mg x = some (.ref f)) (hk : PySem.W.keepIn X.K (.ref f) = true) (hb : Binds X.K fd ps [])
    (ha : DAs X F (e :: es) ta) (hdb : (x == ("__debug__" : Str)) = false := by decide) (he : starEach (e :: es) X.env = (false, eval e X.env) :: starEach es X.env := by rfl) (hpl : (backTo pos (starEach es X.env)).any (·.1) = false := by rfl) :
    DXE X F W (.Call (.Name x p) (e :: es) [] pos) (callX g ta) := by
  refine ⟨fun pins s σ H Q I ⟨G, ρ, φ, ts, z, ρ', J, hf, kk⟩ => ?_⟩
  unfold callX at hf
  obtain ⟨⟨rs, ρ1⟩, h1, hf⟩ := Option.bind_eq_some_iff.mp hf
  obtain ⟨⟨ds, ρ2⟩, h2, hf⟩ := Option.bind_eq_some_iff.mp hf
  obtain ⟨z', h3, hf⟩ := Option.map_eq_some_iff.mp hf
  cases hf
  refine wpAny_Call_Name_kw (ld_glob I hg hm ?_ hdb)
  refine PySem.W.callWith_K (h₀ := X.base) I.ok.mod.kin hk (thn (ha.run pos pins s σ H (fun vs H1 => spX X.K X.mg m g vs H1 Q (WE W σ)) I ⟨G, ρ, φ, ts, rs, _, J, h1, fun G1 H1 φ1 hs e1 I1 => ?_⟩) fun us s1 ⟨vs, H1, I1, r, q⟩ => ⟨I1.kIn, ?_⟩) he hpl
  · subst e1
    obtain ⟨G2, φ2, I2, r2, l2⟩ := I1.frozeL h2
    exact callX_end I2 r2 h3 hmn kk
  · exact run_fnGX C D hr hb tk I1 r q
theorem x_callKw (C : CtxOk X) (D : FnGX X.prog X.w X.K X.mg X.base k f fd ps (spX X.K X.mg m g)) (hmn : ∀ ds r, g ds = some r → ds.length = m) (hr : Room k X.A) (tk : Takes X W) (hg : Gl X x) (hm : X.mg x = some (.ref f)) (hk : PySem.W.keepIn X.K (.ref f) = true) (hb : KwB X.K fd ps ks sel)
    (hkw : DKs X F kws ta) (hall : (backToKw pos (keywordEach kws X.env)).all (·.1.isSome) = true := by rfl) (hks : (backToKw pos (keywordEach kws X.env)).filterMap (·.1) = ks := by rfl)
    (hdb : (x == ("__debug__" : Str)) = false := by decide) (hpl : ((backTo pos (starEach [] X.env)).any (·.1) || (backToKw pos (keywordEach kws X.env)).any (·.1.isNone)) = false := by rfl) :
    DXE X F W (.Call (.Name x p) [] kws pos) (callXk g ks.length sel ta) := by
  refine ⟨fun pins s σ H Q I ⟨G, ρ, φ, ts, z, ρ', J, hf, kk⟩ => ?_⟩
  unfold callXk at hf
  obtain ⟨⟨rs, ρ1⟩, h1, hf⟩ := Option.bind_eq_some_iff.mp hf
  simp only at hf
  split at hf
  case isFalse => cases hf
  rename_i hl
  obtain ⟨⟨ds, ρ2⟩, h2, hf⟩ := Option.bind_eq_some_iff.mp hf
  obtain ⟨ds', h2', hf⟩ := Option.bind_eq_some_iff.mp hf
  obtain ⟨z', h3, hf⟩ := Option.map_eq_some_iff.mp hf
  cases hf
  apply wpAny_Call_Name_kw
  apply ld_glob I hg hm _ hdb
  apply PySem.W.callWith_KW0 (h₀ := X.base) I.ok.mod.kin hk hall _ hpl
  apply thn (hkw.run pos pins s σ H (fun zs H1 => zs.length = ks.length ∧ ∃ xs, sel.mapM (fun i => zs[i]?) = some xs ∧ spX X.K X.mg m g xs H1 Q (WE W σ)) I ⟨G, ρ, φ, ts, rs, _, J, h1, fun G1 H1 φ1 hs e1 I1 => ?_⟩)
  · rintro ws s1 ⟨zs, H1, I1, rz, hl, xs, hxs, q⟩
    refine ⟨I1.kIn, ?_⟩
    rw [hks]
    obtain ⟨us, e1, e2, bnd⟩ := hb.to s1 ws I1.kIn (by rw [← rz.length]; exact hl)
    obtain ⟨ys, e3, rv⟩ := vals_sel rz e1
    rw [hxs] at e3
    cases e3
    refine wpAny_call (codeAny_mono (D.go X.A X.stack s1 H1 ⟨[], ks.zip ws⟩ us xs Q (WE W σ) hr C.gd I1.env0 bnd rv q) fun r s' hq => ?_)
    cases r with
    | error e => exact passAt tk σ pins H1 s1 e s' I1 hq
    | ok fl =>
      cases fl with
      | ret u => exact I1.after hq
      | next => exact False.elim hq
      | brk => exact False.elim hq
      | cont => exact False.elim hq
  · subst e1
    obtain ⟨G2, φ2, I2, r2, l2⟩ := I1.frozeL h2
    obtain ⟨xs, e5, r5⟩ := r2.selX h2'
    exact ⟨by rw [List.length_map] at hl ⊢; exact hl, xs, e5, callX_end I2 r5 h3 hmn kk⟩
end

/-! ### try .. except X: -/
def tryS (f : SE) (fx : XS) (cs : List Str) (h : SE) : SE := fun ρ => match fx ρ with
  | some p => if cs.contains p.1.1 = true then h p.2 else none
  | none => f ρ
section
variable {X : Cx} {F : Entry} {n : Str} {c : Value} {body suite : List Stmt} {b₀ : Stmt} {np pos pos' : Pos} {f h : SE} {fx : XS} {cs : List Str}
def tryT (K : PySem.W.Frag) (mg : Str → Option Value) (F : Entry) (f : SE) (fx : XS) (W : WX) : TS := fun D σ H => tS K F f D σ H ∨ tX K mg F fx W D σ H
theorem x_try {W : WX} (h1 : DSs X F body f) (h2 : DXs X F W body fx) : PSs X body (tryT X.K X.mg F f fx W) := ⟨fun pins s σ H D I h => by
  rcases h with h | h
  · exact h1.run pins s σ H D I h
  · exact h2.run pins s σ H D I h⟩
theorem ss_lift {s : SE} (h : DSs X.nox F body s) : DSs X F body s := h.nox
theorem s_try (hs : X.stack = X.env :: X.outer) (hf : X.env.frame = some X.env.locals) (hc : Names X n c) (exm : ∀ m ∈ cs, ∀ cls, X.mg m = some cls → PySem.W.exmOne X.K cls c = some true)
    (hb : ∀ (W : WX) (pn : List (Addr × Obj)) (xe : Value → Shared → Prop), Takes (X.tr pn xe) W → PSs (X.tr pn xe) body (tryT X.K X.mg F f fx W))
    (hsu : ∀ (a : Addr) (pn : List (Addr × Obj)), DSs (X.suite a pn) F (b₀ :: suite) h) :
    DS X F (.Try body [.ExceptHandler (some (.Name n np)) none (b₀ :: suite) pos'] [] [] pos) (tryS f fx cs h) := by
  refine ps_imp (ps_try_only (tb := fun W => tryT X.K X.mg F f fx W) (ts := fun _ _ _ => tS X.K F h) (Wout := fun _ _ _ _ => False) hs hf hc (fun u s' ⟨_, _, _, _, _, _, _, _, _, _, _, _, _, _, _, _, z⟩ => z.elim) (fun W pn xe tk _ => hb W pn xe tk) (fun a oe cls d pn _ _ => hsu a _)) fun D σ H ⟨G, ρ, φ, ts, o, I, nb, he, k⟩ => ?_
  unfold tryS at he
  cases q : fx ρ with
  | none =>
    rw [q] at he
    exact .inl ⟨G, ρ, φ, ts, o, I, nb, he, k⟩
  | some u =>
    rw [q] at he
    obtain ⟨x, ρ'⟩ := u
    simp only at he
    split at he
    · rename_i hm
      refine .inr ⟨G, ρ, φ, ts, x, ρ', I, nb, q, fun G' H' φ' σ' cls d I' at' => ⟨true, exm _ (List.contains_iff_mem.mp hm) cls at'.1, fun _ a ha => ⟨G', ρ', φ', ts, o, I', nb, he, k⟩, nofun⟩⟩
    · cases he
end
end Dn
namespace L2
open PySem PySem.Spec PyProof.Rows
def CDivQ (i j : Int) : Prop := 0 < j ∧ Builtin.divisionGoesByPylong i j = false
section
variable {X : Cx}
theorem op_fdivQ : OpR X (binaryOp .FloorDiv) (rI CDivQ fun i j => .int (i / j)) := opI fun i j _ _ _ _ _ hc q => by
  have h1 : (0 : Int) < j := hc.1
  exact floordiv_int (by omega) (by rw [Int.fdiv_eq_ediv_of_nonneg i (by omega)]; exact q) (.inl hc.2)
end
end L2
namespace Dn
open PySem L2
/-! Part 30: // by divisors of any size, where C divides by itself -/
def fdP : PyData → PyData → Option S := gInt (fun i j => decide (0 < j) && !(Builtin.divisionGoesByPylong i j)) fun i j => i / j
section
variable {X : Cx} {F : Entry} {a b : Expr} {pos : Pos} {fa fb : EE}
theorem c_fdivP (ha : DE X F a fa) (hb : DE X F b fb) : DE X F (.BinOp a .FloorDiv b pos) (binE fdP fa fb) :=
  c_bin op_fdivQ (d_int fun _ _ h => ⟨of_decide_eq_true (Bool.and_eq_true_iff.mp h).1, by simpa using (Bool.and_eq_true_iff.mp h).2⟩) ha hb
end
theorem fdP_small {a b : Int} (h : 0 < b) (h2 : b.natAbs.log2 < 9000) : fdP (.int a) (.int b) = some (.sh (.int (a / b))) := by
  have e : Builtin.divisionGoesByPylong a b = false := by
    show (decide ((if b == 0 then 0 else b.natAbs.log2 / 30 + 1) > 300) && _) = false
    rw [if_neg (show ¬ (b == 0) = true by simpa using (show b ≠ 0 by omega)), decide_eq_false (by omega)]
    rfl
  show (if _ then _ else _) = _
  rw [if_pos (by simp [h, e])]
/-- a small quotient -/
theorem fdP_quot {a b : Int} (h : 0 < b) (hq : a.natAbs.log2 ≤ b.natAbs.log2 + 4000) : fdP (.int a) (.int b) = some (.sh (.int (a / b))) := by
  have e : Builtin.divisionGoesByPylong a b = false := by
    show (_ && decide ((if a == 0 then 0 else a.natAbs.log2 / 30 + 1) > (if b == 0 then 0 else b.natAbs.log2 / 30 + 1) + 150)) = false
    rw [if_neg (show ¬ (b == 0) = true by simpa using (show b ≠ 0 by omega))]
    have k : ¬ ((if a == 0 then 0 else a.natAbs.log2 / 30 + 1) > b.natAbs.log2 / 30 + 1 + 150) := by split <;> omega
    rw [decide_eq_false k, Bool.and_false]
  show (if _ then _ else _) = _
  rw [if_pos (by simp [h, e])]
/-- .. told by powers of two -/
theorem fdP_mul {c b : Int} {w : Nat} (h : 0 < b) (hc : c.natAbs < 2 ^ w) (hw : w ≤ 4000) : fdP (.int (c * b)) (.int b) = some (.sh (.int c)) := by
  have := fdP_quot (a := c * b) h (by
    rw [Int.natAbs_mul]
    by_cases z : c.natAbs = 0
    · rw [z, Nat.zero_mul]; simp
    · have b0 : b.natAbs ≠ 0 := by omega
      have h1 : b.natAbs < 2 ^ (b.natAbs.log2 + 1) := Nat.lt_log2_self
      have h2 : c.natAbs * b.natAbs < 2 ^ (w + (b.natAbs.log2 + 1)) := by rw [Nat.pow_add]; exact Nat.mul_lt_mul'' hc h1
      have := (Nat.log2_lt (Nat.mul_ne_zero z b0)).mpr h2
      omega)
  rwa [Int.mul_ediv_cancel _ (by omega)] at this
end Dn
namespace Dn
open PySem PyProof.Rows L2
/-! evaluation of denotations at written environments -/
section
variable {d1 d2 : Int} {ρ ρ' : Env} {f g h fa fb fc : EE} {t u : BE} {sf sg : SE} {ta : AE} {d e : PyData} {i j : Nat} {cs : List Nat}
@[simp] theorem ev_cst : cst d ρ = some (.sh d, ρ) := rfl
@[simp] theorem ev_bin {g : PyData → PyData → Option S} : binE g fa fb ρ = (fa ρ).bind fun p => (fb p.2).bind fun q => (view q.2 p.1).bind fun x => (view q.2 q.1).bind fun y => (g x y).map fun r => (r, q.2) := rfl
@[simp] theorem ev_un {g : PyData → Option S} : unE g fa ρ = (fa ρ).bind fun p => (view p.2 p.1).bind fun x => (g x).map fun r => (r, p.2) := rfl
@[simp] theorem ev_isi {p : PyData → Bool} : isiE p fa ρ = (fa ρ).bind fun q => (view q.2 q.1).bind fun x => some (.sh (.bool (p x)), q.2) := by
  unfold isiE unE; simp
@[simp] theorem ev_tru : truE fa ρ = (fa ρ).bind fun p => match view p.2 p.1 with | some (.bool b) => some (b, p.2) | _ => none := rfl
@[simp] theorem ev_notB : notB t ρ = (t ρ).map fun p => (!p.1, p.2) := rfl
@[simp] theorem ev_andB : andB t u ρ = (t ρ).bind fun p => if p.1 = true then u p.2 else some (false, p.2) := rfl
@[simp] theorem ev_orB : orB t u ρ = (t ρ).bind fun p => if p.1 = true then some (true, p.2) else u p.2 := rfl
@[simp] theorem ev_andE : andE f g ρ = (f ρ).bind fun p => match view p.2 p.1 with | some (.bool true) => g p.2 | some (.bool false) => some (.sh (.bool false), p.2) | _ => none := rfl
@[simp] theorem ev_orE : orE f g ρ = (f ρ).bind fun p => match view p.2 p.1 with | some (.bool false) => g p.2 | some (.bool true) => some (.sh (.bool true), p.2) | _ => none := rfl
@[simp] theorem ev_ifE : ifE t f g ρ = (t ρ).bind fun p => if p.1 = true then f p.2 else g p.2 := rfl
@[simp] theorem ev_chain {gg gg' : PyData → PyData → Option S} : chainE gg gg' fa fb fc ρ =
  (fa ρ).bind fun p => (fb p.2).bind fun q => (view q.2 p.1).bind fun x => (view q.2 q.1).bind fun y => match gg x y with
    | some (.sh (.bool true)) => (fc q.2).bind fun u => (view u.2 q.1).bind fun y' => (view u.2 u.1).bind fun z => (gg' y' z).map fun r => (r, u.2)
    | some (.sh (.bool false)) => some (.sh (.bool false), q.2)
    | _ => none := rfl
@[simp] theorem ev_nilA : nilA ρ = some ([], ρ) := rfl
@[simp] theorem ev_consA : consA f ta ρ = (f ρ).bind fun p => (ta p.2).map fun q => (p.1 :: q.1, q.2) := rfl
@[simp] theorem ev_tupE : tupE ta ρ = (ta ρ).bind fun p => (frozeL p.1 p.2).bind fun q => if q.1.length ≤ 1000000 then some (.sh (.tuple q.1), q.2) else none := rfl
@[simp] theorem ev_lstE : lstE ta ρ = (ta ρ).bind fun p => (frozeL p.1 p.2).bind fun q => if q.1.length ≤ 1000000 then some (.ls q.1, q.2) else none := rfl
@[simp] theorem ev_callE {g : List PyData → Option S} : callE g ta ρ = (ta ρ).bind fun p => (viewL p.2 p.1).bind fun ds => (g ds).map fun r => (r, p.2) := rfl
@[simp] theorem ev_callF {g : List PyData → Option S} : callF g ta ρ = (ta ρ).bind fun p => (viewL p.2 p.1).bind fun ds => (g ds).bind fun r => if flatS r = true then some (r, p.2) else none := rfl
@[simp] theorem ev_callFk {g : List PyData → Option S} {n : Nat} {sel : List Nat} : callFk g n sel ta ρ = (ta ρ).bind fun p => if p.1.length = n then (sel.mapM fun i => p.1[i]?).bind fun rs => (viewL p.2 rs).bind fun ds => (g ds).bind fun r => if flatS r = true then some (r, p.2) else none else none := rfl
@[simp] theorem ev_callK {g : Deck → List PyData → Option (S × Deck)} : callK g ta ρ = (ta ρ).bind fun p => match p.1 with
  | .bor i :: rs => (deckOf p.2 i).bind fun st => (viewL p.2 rs).bind fun ds => (g st ds).bind fun r => if flatS r.1 = true then some (r.1, p.2.set i (some (.deck r.2))) else none
  | _ => none := rfl
@[simp] theorem ev_callN {g : List Int → Option S} : callN g i ρ = (scrOf ρ i).bind fun ns => (g ns).bind fun r => if flatS r = true then some (r, ρ) else none := rfl
@[simp] theorem ev_yesB : yesB ρ = some (true, ρ) := rfl
def lcK (vs : List Nat) (tg : GE) (tt : BE) (el : EE) (ds : List PyData) (ρ : Env) : Option (S × Env) := if deadE ρ vs = true ∧ ds.length ≤ 1000000 then (lcGo vs tg tt el ds ρ).map fun q => (.ls q.1, q.2) else none
@[simp] theorem ev_lcE {vs : List Nat} {it : IE} {tg : GE} {tt : BE} {el : EE} : lcE vs it tg tt el ρ = (it ρ).bind fun p => lcK vs tg tt el p.1 p.2 := rfl
@[simp] theorem ev_seqI : seqI f ρ = (f ρ).bind fun p => (froze p.2 p.1).bind fun q => match q.1 with | .list ds => some (ds, q.2) | _ => none := rfl
@[simp] theorem ev_tupI : tupI f ρ = (f ρ).bind fun p => (froze p.2 p.1).bind fun q => match q.1 with | .tuple ds => some (ds, q.2) | _ => none := rfl
def rng1K (j : Int) (ρ : Env) : Option (List PyData × Env) := if okR j = true then some (rngD 0 j.toNat, ρ) else none
def rng2K (i j : Int) (ρ : Env) : Option (List PyData × Env) := if (okR j && okR i) = true then some (rngD i (j - i).toNat, ρ) else none
@[simp] theorem rng1K_ok (h1 : d1 ≤ 1000000) (h2 : -1000000 ≤ d1) : rng1K d1 ρ = some (rngD 0 d1.toNat, ρ) := if_pos (okR_iff.mpr ⟨h1, h2⟩)
@[simp] theorem rng2K_ok (h1 : d1 ≤ 1000000) (h2 : -1000000 ≤ d1) (h3 : d2 ≤ 1000000) (h4 : -1000000 ≤ d2) : rng2K d1 d2 ρ = some (rngD d1 (d2 - d1).toNat, ρ) := if_pos (by rw [Bool.and_eq_true, okR_iff, okR_iff]; exact ⟨⟨h3, h4⟩, h1, h2⟩)
@[simp] theorem ev_rng1 : rng1I ta ρ = (ta ρ).bind fun p => (viewL p.2 p.1).bind fun ds => match ds with | [.int j] => rng1K j p.2 | _ => none := rfl
@[simp] theorem ev_rng2 : rng2I ta ρ = (ta ρ).bind fun p => (viewL p.2 p.1).bind fun ds => match ds with | [.int i, .int j] => rng2K i j p.2 | _ => none := rfl
@[simp] theorem ev_zipI : zipI ta ρ = (ta ρ).bind fun p => (frozeL p.1 p.2).bind fun q => match q.1 with
  | [.list xs, .list ys] => some (zipD xs ys, q.2)
  | [.tuple xs, .tuple ys] => some (zipD xs ys, q.2)
  | _ => none := rfl
@[simp] theorem ev_nxS : nxS ρ = some (.nx ρ) := rfl
@[simp] theorem ev_seqS : seqS sf sg ρ = (sf ρ).bind fun o => match o with | .nx ρ' => sg ρ' | o => some o := rfl
@[simp] theorem ev_retS : retS f ρ = (f ρ).bind fun p => retE p.1 p.2 := rfl
@[simp] theorem ev_exprS : exprS f ρ = (f ρ).map fun p => .nx p.2 := rfl
@[simp] theorem ev_asgS : asgS i f ρ = (f ρ).bind fun p => (ownE p.1 p.2).bind fun q => (setE i q.1 q.2).map .nx := rfl
@[simp] theorem ev_asgG {tg : GE} : asgG tg f ρ = (f ρ).bind fun p => (froze p.2 p.1).bind fun q => (tg q.1 q.2).map .nx := rfl
@[simp] theorem ev_par2 : par2S i j ta ρ = (ta ρ).bind fun p => match p.1 with
  | [r1, r2] => (ownE r2 p.2).bind fun q2 => (ownE r1 q2.2).bind fun q1 => (setE j q2.1 q1.2).bind fun ρ1 => (setE i q1.1 ρ1).map .nx
  | _ => none := rfl
@[simp] theorem ev_par3 {l : Nat} : par3S i j l ta ρ = (ta ρ).bind fun p => match p.1 with
  | [r1, r2, r3] => (ownE r3 p.2).bind fun q3 => (ownE r2 q3.2).bind fun q2 => (ownE r1 q2.2).bind fun q1 => (setE l q3.1 q1.2).bind fun ρ0 => (setE j q2.1 ρ0).bind fun ρ1 => (setE i q1.1 ρ1).map .nx
  | _ => none := rfl
@[simp] theorem ev_aug {gg : PyData → PyData → Option S} : augS i gg f ρ = match ρ[i]? with
  | some (some (.sh d)) => (f ρ).bind fun p => (view p.2 p.1).bind fun y => (gg d y).bind fun r => match r with
    | .sh z => (setE i (.sh z) p.2).map .nx
    | _ => none
  | _ => none := rfl
@[simp] theorem ev_ifS : ifS t sf sg ρ = (t ρ).bind fun p => if p.1 = true then sf p.2 else sg p.2 := rfl
@[simp] theorem ev_forS {it : IE} {tg : GE} : forS it tg sf ρ = (it ρ).bind fun p => forGo tg sf p.1 p.2 := rfl
@[simp] theorem ev_nameG : nameG i d ρ = setE i (.sh d) ρ := rfl
@[simp] theorem ev_tupG {g : GsE} {ds : List PyData} : tupG g (.tuple ds) ρ = g ds ρ := rfl
@[simp] theorem ev_consG {g : GsE} {ds : List PyData} : consG i g (d :: ds) ρ = (setE i (.sh d) ρ).bind fun ρ' => g ds ρ' := rfl
@[simp] theorem ev_nilG : nilG [] ρ = some ρ := rfl
@[simp] theorem ev_mixed : mixedE i ρ = (deckOf ρ i).map fun st => (.sh (.int st.mixed), ρ) := rfl
@[simp] theorem ev_draws : drawsE i ρ = (deckOf ρ i).map fun st => (.sh (.int st.draws), ρ) := rfl
@[simp] theorem ev_putDraws : putDrawsS i f ρ = (f ρ).bind fun q => match view q.2 q.1 with
  | some (.int n) => (deckOf q.2 i).map fun st => .nx (q.2.set i (some (.deck { st with draws := n })))
  | _ => none := rfl
@[simp] theorem ev_cellsB : cellsB i ρ = (deckOf ρ i).map fun st => (!st.cells.isEmpty, ρ) := rfl
@[simp] theorem ev_popCell {b : Bool} : popCellE i b ρ = (deckOf ρ i).bind fun st => if st.ck = b then match st.cells.getLast? with
    | some n => some (.sh (.int n), ρ.set i (some (.deck { st with cells := st.cells.dropLast })))
    | none => none
  else none := rfl
@[simp] theorem ev_pushCell {b : Bool} : pushCellE b ta ρ = (deckOf ρ 0).bind fun st => if st.ck = b then (ta ρ).bind fun q => (viewL q.2 q.1).bind fun ds => match ds with
    | [.int n] => (deckOf q.2 0).bind fun st' => if st'.ck = b ∧ st'.cells.length < 1000000 then some (.sh .none, q.2.set 0 (some (.deck { st' with cells := st'.cells ++ [n] }))) else none
    | _ => none
  else none := rfl
@[simp] theorem ev_append : appendE i ta ρ = (lsOf ρ i).bind fun _ => (ta ρ).bind fun p => match p.1 with
  | [r] => (froze p.2 r).bind fun q => (lsOf q.2 i).bind fun ds => if ds.length < 1000000 then some (.sh .none, q.2.set i (some (.ls (ds ++ [q.1])))) else none
  | _ => none := rfl
@[simp] theorem ev_extend : extendE i ta ρ = (lsOf ρ i).bind fun _ => (ta ρ).bind fun p => (viewL p.2 p.1).bind fun vs => match vs with
  | [.list es] => (lsOf p.2 i).bind fun ds => if ds.length + es.length < 1000000 then some (.sh .none, p.2.set i (some (.ls (ds ++ es)))) else none
  | _ => none := rfl
@[simp] theorem ev_pop : popE i ρ = (lsOf ρ i).bind fun ds => match ds.getLast? with
  | some d => some (.sh d, ρ.set i (some (.ls ds.dropLast)))
  | none => none := rfl
end
@[simp] theorem ev_cutScr {ρ : Env} {i n : Nat} : cutScrE i n ρ = (scrOf ρ i).map fun ns => (.ls ((ns.take n).map PyData.int), ρ) := rfl
@[simp] theorem ev_deckE {b : Bool} {f g h : EE} {ρ : Env} : deckE b f g h ρ = (f ρ).bind fun q1 => match q1.1 with
  | .ls ds => (intsOf ds).bind fun ns => (g q1.2).bind fun q2 => match q2.1 with
    | .sh (.int m) => (h q2.2).bind fun q3 => match q3.1 with
      | .sh (.int n) => some (.deck ⟨b, ns, m, n⟩, q3.2)
      | _ => none
    | _ => none
  | _ => none := rfl
/-! slots by number -/
@[simp] theorem eg0 {α : Type} {a0 : α} {l : List α} : (a0 :: l)[0]? = some a0 := rfl
@[simp] theorem es0 {α : Type} {a0 b : α} {l : List α} : (a0 :: l).set 0 b = b :: l := rfl
@[simp] theorem eg1 {α : Type} {a0 a1 : α} {l : List α} : (a0 :: a1 :: l)[1]? = some a1 := rfl
@[simp] theorem es1 {α : Type} {a0 a1 b : α} {l : List α} : (a0 :: a1 :: l).set 1 b = a0 :: b :: l := rfl
@[simp] theorem eg2 {α : Type} {a0 a1 a2 : α} {l : List α} : (a0 :: a1 :: a2 :: l)[2]? = some a2 := rfl
@[simp] theorem es2 {α : Type} {a0 a1 a2 b : α} {l : List α} : (a0 :: a1 :: a2 :: l).set 2 b = a0 :: a1 :: b :: l := rfl
@[simp] theorem eg3 {α : Type} {a0 a1 a2 a3 : α} {l : List α} : (a0 :: a1 :: a2 :: a3 :: l)[3]? = some a3 := rfl
@[simp] theorem es3 {α : Type} {a0 a1 a2 a3 b : α} {l : List α} : (a0 :: a1 :: a2 :: a3 :: l).set 3 b = a0 :: a1 :: a2 :: b :: l := rfl
@[simp] theorem eg4 {α : Type} {a0 a1 a2 a3 a4 : α} {l : List α} : (a0 :: a1 :: a2 :: a3 :: a4 :: l)[4]? = some a4 := rfl
@[simp] theorem es4 {α : Type} {a0 a1 a2 a3 a4 b : α} {l : List α} : (a0 :: a1 :: a2 :: a3 :: a4 :: l).set 4 b = a0 :: a1 :: a2 :: a3 :: b :: l := rfl
@[simp] theorem eg5 {α : Type} {a0 a1 a2 a3 a4 a5 : α} {l : List α} : (a0 :: a1 :: a2 :: a3 :: a4 :: a5 :: l)[5]? = some a5 := rfl
@[simp] theorem es5 {α : Type} {a0 a1 a2 a3 a4 a5 b : α} {l : List α} : (a0 :: a1 :: a2 :: a3 :: a4 :: a5 :: l).set 5 b = a0 :: a1 :: a2 :: a3 :: a4 :: b :: l := rfl
@[simp] theorem eg6 {α : Type} {a0 a1 a2 a3 a4 a5 a6 : α} {l : List α} : (a0 :: a1 :: a2 :: a3 :: a4 :: a5 :: a6 :: l)[6]? = some a6 := rfl
@[simp] theorem es6 {α : Type} {a0 a1 a2 a3 a4 a5 a6 b : α} {l : List α} : (a0 :: a1 :: a2 :: a3 :: a4 :: a5 :: a6 :: l).set 6 b = a0 :: a1 :: a2 :: a3 :: a4 :: a5 :: b :: l := rfl
@[simp] theorem eg7 {α : Type} {a0 a1 a2 a3 a4 a5 a6 a7 : α} {l : List α} : (a0 :: a1 :: a2 :: a3 :: a4 :: a5 :: a6 :: a7 :: l)[7]? = some a7 := rfl
@[simp] theorem es7 {α : Type} {a0 a1 a2 a3 a4 a5 a6 a7 b : α} {l : List α} : (a0 :: a1 :: a2 :: a3 :: a4 :: a5 :: a6 :: a7 :: l).set 7 b = a0 :: a1 :: a2 :: a3 :: a4 :: a5 :: a6 :: b :: l := rfl
@[simp] theorem eg8 {α : Type} {a0 a1 a2 a3 a4 a5 a6 a7 a8 : α} {l : List α} : (a0 :: a1 :: a2 :: a3 :: a4 :: a5 :: a6 :: a7 :: a8 :: l)[8]? = some a8 := rfl
@[simp] theorem es8 {α : Type} {a0 a1 a2 a3 a4 a5 a6 a7 a8 b : α} {l : List α} : (a0 :: a1 :: a2 :: a3 :: a4 :: a5 :: a6 :: a7 :: a8 :: l).set 8 b = a0 :: a1 :: a2 :: a3 :: a4 :: a5 :: a6 :: a7 :: b :: l := rfl
@[simp] theorem eg9 {α : Type} {a0 a1 a2 a3 a4 a5 a6 a7 a8 a9 : α} {l : List α} : (a0 :: a1 :: a2 :: a3 :: a4 :: a5 :: a6 :: a7 :: a8 :: a9 :: l)[9]? = some a9 := rfl
@[simp] theorem es9 {α : Type} {a0 a1 a2 a3 a4 a5 a6 a7 a8 a9 b : α} {l : List α} : (a0 :: a1 :: a2 :: a3 :: a4 :: a5 :: a6 :: a7 :: a8 :: a9 :: l).set 9 b = a0 :: a1 :: a2 :: a3 :: a4 :: a5 :: a6 :: a7 :: a8 :: b :: l := rfl
@[simp] theorem eg10 {α : Type} {a0 a1 a2 a3 a4 a5 a6 a7 a8 a9 a10 : α} {l : List α} : (a0 :: a1 :: a2 :: a3 :: a4 :: a5 :: a6 :: a7 :: a8 :: a9 :: a10 :: l)[10]? = some a10 := rfl
@[simp] theorem es10 {α : Type} {a0 a1 a2 a3 a4 a5 a6 a7 a8 a9 a10 b : α} {l : List α} : (a0 :: a1 :: a2 :: a3 :: a4 :: a5 :: a6 :: a7 :: a8 :: a9 :: a10 :: l).set 10 b = a0 :: a1 :: a2 :: a3 :: a4 :: a5 :: a6 :: a7 :: a8 :: a9 :: b :: l := rfl
@[simp] theorem eg11 {α : Type} {a0 a1 a2 a3 a4 a5 a6 a7 a8 a9 a10 a11 : α} {l : List α} : (a0 :: a1 :: a2 :: a3 :: a4 :: a5 :: a6 :: a7 :: a8 :: a9 :: a10 :: a11 :: l)[11]? = some a11 := rfl
@[simp] theorem es11 {α : Type} {a0 a1 a2 a3 a4 a5 a6 a7 a8 a9 a10 a11 b : α} {l : List α} : (a0 :: a1 :: a2 :: a3 :: a4 :: a5 :: a6 :: a7 :: a8 :: a9 :: a10 :: a11 :: l).set 11 b = a0 :: a1 :: a2 :: a3 :: a4 :: a5 :: a6 :: a7 :: a8 :: a9 :: a10 :: b :: l := rfl
@[simp] theorem eg12 {α : Type} {a0 a1 a2 a3 a4 a5 a6 a7 a8 a9 a10 a11 a12 : α} {l : List α} : (a0 :: a1 :: a2 :: a3 :: a4 :: a5 :: a6 :: a7 :: a8 :: a9 :: a10 :: a11 :: a12 :: l)[12]? = some a12 := rfl
@[simp] theorem es12 {α : Type} {a0 a1 a2 a3 a4 a5 a6 a7 a8 a9 a10 a11 a12 b : α} {l : List α} : (a0 :: a1 :: a2 :: a3 :: a4 :: a5 :: a6 :: a7 :: a8 :: a9 :: a10 :: a11 :: a12 :: l).set 12 b = a0 :: a1 :: a2 :: a3 :: a4 :: a5 :: a6 :: a7 :: a8 :: a9 :: a10 :: a11 :: b :: l := rfl
@[simp] theorem eg13 {α : Type} {a0 a1 a2 a3 a4 a5 a6 a7 a8 a9 a10 a11 a12 a13 : α} {l : List α} : (a0 :: a1 :: a2 :: a3 :: a4 :: a5 :: a6 :: a7 :: a8 :: a9 :: a10 :: a11 :: a12 :: a13 :: l)[13]? = some a13 := rfl
@[simp] theorem es13 {α : Type} {a0 a1 a2 a3 a4 a5 a6 a7 a8 a9 a10 a11 a12 a13 b : α} {l : List α} : (a0 :: a1 :: a2 :: a3 :: a4 :: a5 :: a6 :: a7 :: a8 :: a9 :: a10 :: a11 :: a12 :: a13 :: l).set 13 b = a0 :: a1 :: a2 :: a3 :: a4 :: a5 :: a6 :: a7 :: a8 :: a9 :: a10 :: a11 :: a12 :: b :: l := rfl
@[simp] theorem eg14 {α : Type} {a0 a1 a2 a3 a4 a5 a6 a7 a8 a9 a10 a11 a12 a13 a14 : α} {l : List α} : (a0 :: a1 :: a2 :: a3 :: a4 :: a5 :: a6 :: a7 :: a8 :: a9 :: a10 :: a11 :: a12 :: a13 :: a14 :: l)[14]? = some a14 := rfl
@[simp] theorem es14 {α : Type} {a0 a1 a2 a3 a4 a5 a6 a7 a8 a9 a10 a11 a12 a13 a14 b : α} {l : List α} : (a0 :: a1 :: a2 :: a3 :: a4 :: a5 :: a6 :: a7 :: a8 :: a9 :: a10 :: a11 :: a12 :: a13 :: a14 :: l).set 14 b = a0 :: a1 :: a2 :: a3 :: a4 :: a5 :: a6 :: a7 :: a8 :: a9 :: a10 :: a11 :: a12 :: a13 :: b :: l := rfl
@[simp] theorem eg15 {α : Type} {a0 a1 a2 a3 a4 a5 a6 a7 a8 a9 a10 a11 a12 a13 a14 a15 : α} {l : List α} : (a0 :: a1 :: a2 :: a3 :: a4 :: a5 :: a6 :: a7 :: a8 :: a9 :: a10 :: a11 :: a12 :: a13 :: a14 :: a15 :: l)[15]? = some a15 := rfl
@[simp] theorem es15 {α : Type} {a0 a1 a2 a3 a4 a5 a6 a7 a8 a9 a10 a11 a12 a13 a14 a15 b : α} {l : List α} : (a0 :: a1 :: a2 :: a3 :: a4 :: a5 :: a6 :: a7 :: a8 :: a9 :: a10 :: a11 :: a12 :: a13 :: a14 :: a15 :: l).set 15 b = a0 :: a1 :: a2 :: a3 :: a4 :: a5 :: a6 :: a7 :: a8 :: a9 :: a10 :: a11 :: a12 :: a13 :: a14 :: b :: l := rfl
@[simp] theorem eg16 {α : Type} {a0 a1 a2 a3 a4 a5 a6 a7 a8 a9 a10 a11 a12 a13 a14 a15 a16 : α} {l : List α} : (a0 :: a1 :: a2 :: a3 :: a4 :: a5 :: a6 :: a7 :: a8 :: a9 :: a10 :: a11 :: a12 :: a13 :: a14 :: a15 :: a16 :: l)[16]? = some a16 := rfl
@[simp] theorem es16 {α : Type} {a0 a1 a2 a3 a4 a5 a6 a7 a8 a9 a10 a11 a12 a13 a14 a15 a16 b : α} {l : List α} : (a0 :: a1 :: a2 :: a3 :: a4 :: a5 :: a6 :: a7 :: a8 :: a9 :: a10 :: a11 :: a12 :: a13 :: a14 :: a15 :: a16 :: l).set 16 b = a0 :: a1 :: a2 :: a3 :: a4 :: a5 :: a6 :: a7 :: a8 :: a9 :: a10 :: a11 :: a12 :: a13 :: a14 :: a15 :: b :: l := rfl
@[simp] theorem eg17 {α : Type} {a0 a1 a2 a3 a4 a5 a6 a7 a8 a9 a10 a11 a12 a13 a14 a15 a16 a17 : α} {l : List α} : (a0 :: a1 :: a2 :: a3 :: a4 :: a5 :: a6 :: a7 :: a8 :: a9 :: a10 :: a11 :: a12 :: a13 :: a14 :: a15 :: a16 :: a17 :: l)[17]? = some a17 := rfl
@[simp] theorem es17 {α : Type} {a0 a1 a2 a3 a4 a5 a6 a7 a8 a9 a10 a11 a12 a13 a14 a15 a16 a17 b : α} {l : List α} : (a0 :: a1 :: a2 :: a3 :: a4 :: a5 :: a6 :: a7 :: a8 :: a9 :: a10 :: a11 :: a12 :: a13 :: a14 :: a15 :: a16 :: a17 :: l).set 17 b = a0 :: a1 :: a2 :: a3 :: a4 :: a5 :: a6 :: a7 :: a8 :: a9 :: a10 :: a11 :: a12 :: a13 :: a14 :: a15 :: a16 :: b :: l := rfl
@[simp] theorem eg18 {α : Type} {a0 a1 a2 a3 a4 a5 a6 a7 a8 a9 a10 a11 a12 a13 a14 a15 a16 a17 a18 : α} {l : List α} : (a0 :: a1 :: a2 :: a3 :: a4 :: a5 :: a6 :: a7 :: a8 :: a9 :: a10 :: a11 :: a12 :: a13 :: a14 :: a15 :: a16 :: a17 :: a18 :: l)[18]? = some a18 := rfl
@[simp] theorem es18 {α : Type} {a0 a1 a2 a3 a4 a5 a6 a7 a8 a9 a10 a11 a12 a13 a14 a15 a16 a17 a18 b : α} {l : List α} : (a0 :: a1 :: a2 :: a3 :: a4 :: a5 :: a6 :: a7 :: a8 :: a9 :: a10 :: a11 :: a12 :: a13 :: a14 :: a15 :: a16 :: a17 :: a18 :: l).set 18 b = a0 :: a1 :: a2 :: a3 :: a4 :: a5 :: a6 :: a7 :: a8 :: a9 :: a10 :: a11 :: a12 :: a13 :: a14 :: a15 :: a16 :: a17 :: b :: l := rfl
@[simp] theorem eg19 {α : Type} {a0 a1 a2 a3 a4 a5 a6 a7 a8 a9 a10 a11 a12 a13 a14 a15 a16 a17 a18 a19 : α} {l : List α} : (a0 :: a1 :: a2 :: a3 :: a4 :: a5 :: a6 :: a7 :: a8 :: a9 :: a10 :: a11 :: a12 :: a13 :: a14 :: a15 :: a16 :: a17 :: a18 :: a19 :: l)[19]? = some a19 := rfl
@[simp] theorem es19 {α : Type} {a0 a1 a2 a3 a4 a5 a6 a7 a8 a9 a10 a11 a12 a13 a14 a15 a16 a17 a18 a19 b : α} {l : List α} : (a0 :: a1 :: a2 :: a3 :: a4 :: a5 :: a6 :: a7 :: a8 :: a9 :: a10 :: a11 :: a12 :: a13 :: a14 :: a15 :: a16 :: a17 :: a18 :: a19 :: l).set 19 b = a0 :: a1 :: a2 :: a3 :: a4 :: a5 :: a6 :: a7 :: a8 :: a9 :: a10 :: a11 :: a12 :: a13 :: a14 :: a15 :: a16 :: a17 :: a18 :: b :: l := rfl
@[simp] theorem eg20 {α : Type} {a0 a1 a2 a3 a4 a5 a6 a7 a8 a9 a10 a11 a12 a13 a14 a15 a16 a17 a18 a19 a20 : α} {l : List α} : (a0 :: a1 :: a2 :: a3 :: a4 :: a5 :: a6 :: a7 :: a8 :: a9 :: a10 :: a11 :: a12 :: a13 :: a14 :: a15 :: a16 :: a17 :: a18 :: a19 :: a20 :: l)[20]? = some a20 := rfl
@[simp] theorem es20 {α : Type} {a0 a1 a2 a3 a4 a5 a6 a7 a8 a9 a10 a11 a12 a13 a14 a15 a16 a17 a18 a19 a20 b : α} {l : List α} : (a0 :: a1 :: a2 :: a3 :: a4 :: a5 :: a6 :: a7 :: a8 :: a9 :: a10 :: a11 :: a12 :: a13 :: a14 :: a15 :: a16 :: a17 :: a18 :: a19 :: a20 :: l).set 20 b = a0 :: a1 :: a2 :: a3 :: a4 :: a5 :: a6 :: a7 :: a8 :: a9 :: a10 :: a11 :: a12 :: a13 :: a14 :: a15 :: a16 :: a17 :: a18 :: a19 :: b :: l := rfl
@[simp] theorem eg21 {α : Type} {a0 a1 a2 a3 a4 a5 a6 a7 a8 a9 a10 a11 a12 a13 a14 a15 a16 a17 a18 a19 a20 a21 : α} {l : List α} : (a0 :: a1 :: a2 :: a3 :: a4 :: a5 :: a6 :: a7 :: a8 :: a9 :: a10 :: a11 :: a12 :: a13 :: a14 :: a15 :: a16 :: a17 :: a18 :: a19 :: a20 :: a21 :: l)[21]? = some a21 := rfl
@[simp] theorem es21 {α : Type} {a0 a1 a2 a3 a4 a5 a6 a7 a8 a9 a10 a11 a12 a13 a14 a15 a16 a17 a18 a19 a20 a21 b : α} {l : List α} : (a0 :: a1 :: a2 :: a3 :: a4 :: a5 :: a6 :: a7 :: a8 :: a9 :: a10 :: a11 :: a12 :: a13 :: a14 :: a15 :: a16 :: a17 :: a18 :: a19 :: a20 :: a21 :: l).set 21 b = a0 :: a1 :: a2 :: a3 :: a4 :: a5 :: a6 :: a7 :: a8 :: a9 :: a10 :: a11 :: a12 :: a13 :: a14 :: a15 :: a16 :: a17 :: a18 :: a19 :: a20 :: b :: l := rfl
@[simp] theorem eg22 {α : Type} {a0 a1 a2 a3 a4 a5 a6 a7 a8 a9 a10 a11 a12 a13 a14 a15 a16 a17 a18 a19 a20 a21 a22 : α} {l : List α} : (a0 :: a1 :: a2 :: a3 :: a4 :: a5 :: a6 :: a7 :: a8 :: a9 :: a10 :: a11 :: a12 :: a13 :: a14 :: a15 :: a16 :: a17 :: a18 :: a19 :: a20 :: a21 :: a22 :: l)[22]? = some a22 := rfl
@[simp] theorem es22 {α : Type} {a0 a1 a2 a3 a4 a5 a6 a7 a8 a9 a10 a11 a12 a13 a14 a15 a16 a17 a18 a19 a20 a21 a22 b : α} {l : List α} : (a0 :: a1 :: a2 :: a3 :: a4 :: a5 :: a6 :: a7 :: a8 :: a9 :: a10 :: a11 :: a12 :: a13 :: a14 :: a15 :: a16 :: a17 :: a18 :: a19 :: a20 :: a21 :: a22 :: l).set 22 b = a0 :: a1 :: a2 :: a3 :: a4 :: a5 :: a6 :: a7 :: a8 :: a9 :: a10 :: a11 :: a12 :: a13 :: a14 :: a15 :: a16 :: a17 :: a18 :: a19 :: a20 :: a21 :: b :: l := rfl
@[simp] theorem eg23 {α : Type} {a0 a1 a2 a3 a4 a5 a6 a7 a8 a9 a10 a11 a12 a13 a14 a15 a16 a17 a18 a19 a20 a21 a22 a23 : α} {l : List α} : (a0 :: a1 :: a2 :: a3 :: a4 :: a5 :: a6 :: a7 :: a8 :: a9 :: a10 :: a11 :: a12 :: a13 :: a14 :: a15 :: a16 :: a17 :: a18 :: a19 :: a20 :: a21 :: a22 :: a23 :: l)[23]? = some a23 := rfl
@[simp] theorem es23 {α : Type} {a0 a1 a2 a3 a4 a5 a6 a7 a8 a9 a10 a11 a12 a13 a14 a15 a16 a17 a18 a19 a20 a21 a22 a23 b : α} {l : List α} : (a0 :: a1 :: a2 :: a3 :: a4 :: a5 :: a6 :: a7 :: a8 :: a9 :: a10 :: a11 :: a12 :: a13 :: a14 :: a15 :: a16 :: a17 :: a18 :: a19 :: a20 :: a21 :: a22 :: a23 :: l).set 23 b = a0 :: a1 :: a2 :: a3 :: a4 :: a5 :: a6 :: a7 :: a8 :: a9 :: a10 :: a11 :: a12 :: a13 :: a14 :: a15 :: a16 :: a17 :: a18 :: a19 :: a20 :: a21 :: a22 :: b :: l := rfl
/-! parts that compute at constructors -/
section
variable {ρ : Env} {cs : List Nat} {i j : Nat} {d e : PyData} {ds es : List PyData} {s : S} {rs : List S}
@[simp] theorem ev_nameE : nameE cs i ρ = match ρ[i]? with
  | some (some (.sh d)) => some (.sh d, ρ)
  | some (some _) => if cs.contains i then none else some (.bor i, ρ)
  | _ => none := rfl
@[simp] theorem view_sh : view ρ (.sh d) = some d := rfl
@[simp] theorem view_ls : view ρ (.ls ds) = some (.list ds) := rfl
@[simp] theorem view_bor : view ρ (.bor i) = match ρ[i]? with
    | some (some (.sh d)) => some d
    | some (some (.ls xs)) => some (.list xs)
    | _ => none := rfl
@[simp] theorem viewL_nil : viewL ρ [] = some [] := rfl
@[simp] theorem viewL_cons : viewL ρ (s :: rs) = (view ρ s).bind fun d => (viewL ρ rs).map fun ds => d :: ds := rfl
@[simp] theorem froze_sh : froze ρ (.sh d) = some (d, ρ) := rfl
@[simp] theorem froze_ls : froze ρ (.ls ds) = some (.list ds, ρ) := rfl
@[simp] theorem froze_bor : froze ρ (.bor i) = match ρ[i]? with
    | some (some (.sh d)) => some (d, ρ)
    | some (some (.ls xs)) => some (.list xs, ρ.set i (some (.sh (.list xs))))
    | some (some (.dk kvs)) => some (.dict (kvs.map fun p => (keyD p.1, p.2)), ρ.set i (some (.sh (.dict (kvs.map fun p => (keyD p.1, p.2))))))
    | some (some (.dt kvs)) => some (.dict (kvs.map fun p => (.tuple (p.1.map keyD), p.2)), ρ.set i (some (.sh (.dict (kvs.map fun p => (.tuple (p.1.map keyD), p.2))))))
    | _ => none := rfl
@[simp] theorem frozeL_ev : frozeL rs ρ = (frozeR rs.reverse ρ).map fun p => (p.1.reverse, p.2) := rfl
@[simp] theorem frozeR_nil : frozeR [] ρ = some ([], ρ) := rfl
@[simp] theorem frozeR_cons : frozeR (s :: rs) ρ = (froze ρ s).bind fun p => (frozeR rs p.2).map fun q => (p.1 :: q.1, q.2) := rfl
@[simp] theorem ownE_sh : ownE (.sh d) ρ = some (.sh d, ρ) := rfl
@[simp] theorem ownE_ls : ownE (.ls ds) ρ = some (.ls ds, ρ) := rfl
@[simp] theorem ownE_deck {st : Deck} : ownE (.deck st) ρ = some (.deck st, ρ) := rfl
@[simp] theorem ownE_bor : ownE (.bor i) ρ = (froze ρ (.bor i)).map fun p => (.sh p.1, p.2) := rfl
@[simp] theorem setE_ev : setE i s ρ = if (i == 0 && deckAt ρ 0) = true then none else if i < ρ.length then some (ρ.set i (some s)) else none := rfl
@[simp] theorem deckAt_ev : deckAt ρ i = match ρ[i]? with
  | some (some s) => isDeck s
  | _ => false := rfl
@[simp] theorem isDeck_sh : isDeck (.sh d) = false := rfl
@[simp] theorem isDeck_ls : isDeck (.ls ds) = false := rfl
@[simp] theorem isDeck_deck {st : Deck} : isDeck (.deck st) = true := rfl
@[simp] theorem isDeck_scr {ns : List Int} : isDeck (.scr ns) = false := rfl
@[simp] theorem lsOf_ev : lsOf ρ i = match ρ[i]? with
  | some (some (.ls ds)) => some ds
  | _ => none := rfl
@[simp] theorem scrOf_ev : scrOf ρ i = match ρ[i]? with
  | some (some (.scr ns)) => some ns
  | _ => none := rfl
@[simp] theorem deckOf_ev : deckOf ρ i = match ρ[i]? with
  | some (some (.deck st)) => some st
  | _ => none := rfl
@[simp] theorem retE_sh : retE (.sh d) ρ = some (.rt (.sh d) ρ) := rfl
@[simp] theorem retE_ls : retE (.ls ds) ρ = some (.rt (.ls ds) ρ) := rfl
@[simp] theorem retE_deck {st : Deck} : retE (.deck st) ρ = some (.rt (.deck st) ρ) := rfl
@[simp] theorem retE_bor : retE (.bor i) ρ = match ρ[i]? with
    | some (some (.sh d)) => some (.rt (.sh d) ρ)
    | some (some (.ls xs)) => some (.rt (.ls xs) (ρ.set i none))
    | some (some (.dk xs)) => some (.rt (.dk xs) (ρ.set i none))
    | some (some (.dt xs)) => some (.rt (.dt xs) (ρ.set i none))
    | _ => none := rfl
@[simp] theorem outG_rt : outG (.rt s ρ) = if resS s = true then some s else none := rfl
@[simp] theorem outG_nx : outG (.nx ρ) = some (.sh .none) := rfl
@[simp] theorem outK_rt : outK (.rt s ρ) = if resS s = true then (deckOf ρ 0).map fun st => (s, st) else none := rfl
@[simp] theorem outK_nx : outK (.nx ρ) = (deckOf ρ 0).map fun st => (.sh .none, st) := rfl
@[simp] theorem resS_sh : resS (.sh d) = true := rfl
@[simp] theorem resS_ls : resS (.ls ds) = true := rfl
@[simp] theorem resS_deck {st : Deck} : resS (.deck st) = true := rfl
@[simp] theorem flatS_sh : flatS (.sh d) = flatD d := rfl
@[simp] theorem flatS_ls : flatS (.ls ds) = flatD.flatAll ds := rfl
@[simp] theorem flatS_deck {st : Deck} : flatS (.deck st) = true := rfl
@[simp] theorem flatD_int {i : Int} : flatD (.int i) = true := rfl
@[simp] theorem flatD_bool {i : Bool} : flatD (.bool i) = true := rfl
@[simp] theorem flatD_none : flatD .none = true := rfl
@[simp] theorem flatD_str {x : Str} : flatD (.str x) = true := rfl
@[simp] theorem flatD_tup : flatD (.tuple ds) = flatD.flatAll ds := rfl
@[simp] theorem flatAll_nil : flatD.flatAll [] = true := rfl
@[simp] theorem flatAll_cons : flatD.flatAll (d :: ds) = (flatD d && flatD.flatAll ds) := rfl
@[simp low] theorem gInt_int {c : Int → Int → Bool} {g : Int → Int → Int} {a b : Int} : gInt c g (.int a) (.int b) = if c a b = true then some (.sh (.int (g a b))) else none := rfl
@[simp] theorem gMod_ok {a b : Int} (h : 0 < b) : gInt (fun _ j => decide (0 < j)) (fun i j => i % j) (.int a) (.int b) = some (.sh (.int (a % b))) := by
  rw [gInt_int, if_pos (by simpa using h)]
@[simp] theorem gFdiv_ok {a b : Int} (h : 0 < b) (h2 : b < 1606938044258990275541962092341162602522202993782792835301376) : gInt (fun _ j => decide (0 < j) && decide (j.natAbs.log2 < 9000)) (fun i j => i / j) (.int a) (.int b) = some (.sh (.int (a / b))) := by
  have e2 : b.natAbs.log2 < 9000 := by
    by_cases z : b.natAbs = 0
    · omega
    · have e : b.natAbs.log2 < 200 := (Nat.log2_lt z).mpr (by show _ < 1606938044258990275541962092341162602522202993782792835301376; omega)
      omega
  rw [gInt_int, if_pos (by simp [h, e2])]
@[simp] theorem gPow_ok {a b : Int} (h0 : 0 ≤ b) (h1 : b ≤ 1000000) (h2 : -18446744073709551616 < a) (h3 : a < 18446744073709551616) : gPow (.int a) (.int b) = some (.sh (.int (a ^ b.toNat))) := by
  unfold gPow
  rw [gInt_int, if_pos]
  have : a.natAbs < 2 ^ 64 := by show _ < 18446744073709551616; omega
  simp [h0, h1, this]
@[simp] theorem gInt0_int {g : Int → Int → Int} {a b : Int} : gInt0 g (.int a) (.int b) = some (.sh (.int (g a b))) := rfl
@[simp] theorem gIntB_int {g : Int → Int → Bool} {a b : Int} : gIntB g (.int a) (.int b) = some (.sh (.bool (g a b))) := rfl
@[simp] theorem addS_int {a b : Int} : addS (.int a) (.int b) = some (.sh (.int (a + b))) := rfl
@[simp] theorem addS_list : addS (.list ds) (.list es) = if ds.length + es.length ≤ 1000000 then some (.ls (ds ++ es)) else none := rfl
theorem log2_of {i : Int} {n : Nat} (h : i.natAbs < 2 ^ n) (hn : 0 < n) : i.natAbs.log2 < n := by
  by_cases z : i.natAbs = 0
  · rw [z]; exact hn
  · exact (Nat.log2_lt z).mpr h
@[simp] theorem mulS_ok {a b : Int} (h1 : -1606938044258990275541962092341162602522202993782792835301376 < a) (h2 : a < 1606938044258990275541962092341162602522202993782792835301376) (h3 : -1606938044258990275541962092341162602522202993782792835301376 < b) (h4 : b < 1606938044258990275541962092341162602522202993782792835301376) :
    mulS (.int a) (.int b) = some (.sh (.int (a * b))) := by
  have e1 : a.natAbs.log2 < 200 := log2_of (by show _ < 1606938044258990275541962092341162602522202993782792835301376; omega) (by decide)
  have e2 : b.natAbs.log2 < 200 := log2_of (by show _ < 1606938044258990275541962092341162602522202993782792835301376; omega) (by decide)
  show (if _ then _ else _) = _
  rw [if_pos (by omega)]
@[simp] theorem eqS_int {n : Bool} {a b : Int} : eqS n (.int a) (.int b) = some (.sh (.bool (n != decide (a = b)))) := rfl
@[simp] theorem eqS_str {n : Bool} {a b : Str} : eqS n (.str a) (.str b) = some (.sh (.bool (n != decide (a = b)))) := rfl
@[simp] theorem gNeg_int {a : Int} : gNeg (.int a) = some (.sh (.int (-a))) := rfl
@[simp] theorem gNot_bool {b : Bool} : gNot (.bool b) = some (.sh (.bool (!b))) := rfl
@[simp] theorem gLen_list : gLen [.list ds] = some (.sh (.int ds.length)) := rfl
@[simp] theorem gLen_tup : gLen [.tuple ds] = some (.sh (.int ds.length)) := rfl
@[simp] theorem gInt1_int {a : Int} : gInt1 [.int a] = some (.sh (.int a)) := rfl
@[simp] theorem gInt1_bool {b : Bool} : gInt1 [.bool b] = some (.sh (.int (if b then 1 else 0))) := rfl
@[simp] theorem gAbs_int {a : Int} : gAbs [.int a] = some (.sh (.int (if a < 0 then -a else a))) := rfl
@[simp] theorem gMax2_int {a b : Int} : gMax2 [.int a, .int b] = some (.sh (.int (if b > a then b else a))) := rfl
@[simp] theorem gMin2_int {a b : Int} : gMin2 [.int a, .int b] = some (.sh (.int (if b < a then b else a))) := rfl
@[simp] theorem gGcd_int {a b : Int} : gGcd [.int a, .int b] = some (.sh (.int ((Nat.gcd a.natAbs b.natAbs : Nat) : Int))) := rfl
@[simp] theorem gSum_list : gSum [.list ds] = (intsOf ds).map fun ns => .sh (.int ns.sum) := rfl
@[simp] theorem gTuple_list : gTuple [.list ds] = some (.sh (.tuple ds)) := rfl
@[simp] theorem gTuple_tup : gTuple [.tuple ds] = some (.sh (.tuple ds)) := rfl
@[simp] theorem gList_list : gList [.list ds] = some (.ls ds) := rfl
@[simp] theorem gList_tup : gList [.tuple ds] = some (.ls ds) := rfl
@[simp] theorem gRev_list : gRev (.list ds) = some (.ls ds.reverse) := rfl
@[simp] theorem gIx_list {a : Int} : gIx (.list ds) (.int a) = (atI ds a).map .sh := rfl
@[simp] theorem gIx_tup {a : Int} : gIx (.tuple ds) (.int a) = (atI ds a).map .sh := rfl
@[simp] theorem isInt_int {a : Int} : isInt (.int a) = true := rfl
@[simp] theorem isInt_bool {a : Bool} : isInt (.bool a) = true := rfl
@[simp] theorem isBool_int {a : Int} : isBool (.int a) = false := rfl
@[simp] theorem isBool_bool {a : Bool} : isBool (.bool a) = true := rfl
@[simp] theorem isTup_tup : isTup (.tuple ds) = true := rfl
theorem atI_nat {α : Type} {xs : List α} {i : Nat} (h : i < xs.length) : atI xs (i : Int) = xs[i]? := by
  unfold atI ixN
  rw [if_pos (by omega), if_pos (by omega)]
  simp
theorem atI_of {α : Type} {xs : List α} {i : Int} (h0 : 0 ≤ i) (h : i < xs.length) : ∃ x, xs[i.toNat]? = some x ∧ atI xs i = some x := by
  have h' : i.toNat < xs.length := by omega
  refine ⟨xs[i.toNat], List.getElem?_eq_getElem h', ?_⟩
  have := atI_nat h'
  rw [Int.toNat_of_nonneg h0] at this
  rw [this, List.getElem?_eq_getElem h']
end
@[simp] theorem intsOf_nil : intsOf [] = some [] := rfl
@[simp] theorem intsOf_cons {i : Int} {ds : List PyData} : intsOf (.int i :: ds) = (intsOf ds).map fun is => i :: is := rfl
@[simp] theorem intsOf_map (ns : List Int) : intsOf (ns.map PyData.int) = some ns := by
  induction ns with
  | nil => rfl
  | cons n ns ih => simp [ih]
@[simp] theorem intsOf_comp {α : Type} (f : α → Int) (xs : List α) : intsOf (xs.map (PyData.int ∘ f)) = some (xs.map f) := by
  rw [← List.map_map, intsOf_map]
@[simp] theorem intsOf_fun {α : Type} (f : α → Int) (xs : List α) : intsOf (xs.map fun x => PyData.int (f x)) = some (xs.map f) := intsOf_comp f xs

/-! loops -/
section
variable {tg : GE} {f : SE} {ds : List PyData} {ρ : Env}
@[simp] theorem forGo_nil : forGo tg f [] ρ = some (.nx ρ) := rfl
theorem forGo_cons {d : PyData} : forGo tg f (d :: ds) ρ = (tg d ρ).bind fun ρ1 => (f ρ1).bind fun o => match o with
    | .nx ρ' => forGo tg f ds ρ'
    | .ct ρ' => forGo tg f ds ρ'
    | .bk ρ' => some (.nx ρ')
    | .rt s ρ' => some (.rt s ρ') := rfl
/-- a loop that runs to its end, what it carries a fold -/
theorem for_fold {α β : Type} {inj : α → PyData} {E : β → Env → Prop} {step : β → α → β} : ∀ {xs : List α} {b : β} {ρ : Env}, E b ρ →
    (∀ b a ρ, a ∈ xs → E b ρ → ∃ ρ1 ρ', tg (inj a) ρ = some ρ1 ∧ (f ρ1 = some (.nx ρ') ∨ f ρ1 = some (.ct ρ')) ∧ E (step b a) ρ') →
    ∃ ρ', forGo tg f (xs.map inj) ρ = some (.nx ρ') ∧ E (xs.foldl step b) ρ'
  | [], b, ρ, h, _ => ⟨ρ, rfl, h⟩
  | x :: xs, b, ρ, h, hs => by
    obtain ⟨ρ1, ρ2, h1, h2, h3⟩ := hs b x ρ List.mem_cons_self h
    obtain ⟨ρ3, h4, h5⟩ := for_fold (xs := xs) h3 (fun b a ρ ha hb => hs b a ρ (List.mem_cons_of_mem _ ha) hb)
    refine ⟨ρ3, ?_, h5⟩
    rw [List.map_cons, forGo_cons, h1, Option.bind_some]
    rcases h2 with h2 | h2 <;> rw [h2, Option.bind_some] <;> exact h4
/-- a loop that runs to its end, what it carries told by the part that is taken -/
theorem for_pre {α : Type} {inj : α → PyData} {E : List α → Env → Prop} {xs : List α} {ρ : Env} (h : E [] ρ)
    (hs : ∀ pre x post ρ, xs = pre ++ x :: post → E pre ρ → ∃ ρ1 ρ', tg (inj x) ρ = some ρ1 ∧ (f ρ1 = some (.nx ρ') ∨ f ρ1 = some (.ct ρ')) ∧ E (pre ++ [x]) ρ') :
    ∃ ρ', forGo tg f (xs.map inj) ρ = some (.nx ρ') ∧ E xs ρ' := by
  have go : ∀ (post pre : List α) (ρ : Env), xs = pre ++ post → E pre ρ → ∃ ρ', forGo tg f (post.map inj) ρ = some (.nx ρ') ∧ E xs ρ' := by
    intro post
    induction post with
    | nil => intro pre ρ e q; rw [List.append_nil] at e; subst e; exact ⟨ρ, rfl, q⟩
    | cons x post ih =>
      intro pre ρ e q
      obtain ⟨ρ1, ρ2, h1, h2, h3⟩ := hs pre x post ρ e q
      obtain ⟨ρ3, h4, h5⟩ := ih (pre ++ [x]) ρ2 (by rw [e]; simp) h3
      refine ⟨ρ3, ?_, h5⟩
      rw [List.map_cons, forGo_cons, h1, Option.bind_some]
      rcases h2 with h2 | h2 <;> rw [h2, Option.bind_some] <;> exact h4
  exact go xs [] ρ rfl h
/-- a loop with an invariant: it may be left -/
theorem for_wp {P : Out → Prop} (Inv : Nat → Env → Prop) : ∀ {ds : List PyData} {k : Nat} {ρ : Env}, Inv k ρ →
    (∀ i d ρ, ds[i]? = some d → Inv (k + i) ρ → ∃ ρ1 o, tg d ρ = some ρ1 ∧ f ρ1 = some o ∧ (match o with | .nx ρ' => Inv (k + i + 1) ρ' | .ct ρ' => Inv (k + i + 1) ρ' | .bk ρ' => P (.nx ρ') | .rt s ρ' => P (.rt s ρ'))) →
    (∀ ρ, Inv (k + ds.length) ρ → P (.nx ρ)) → ∃ o, forGo tg f ds ρ = some o ∧ P o
  | [], k, ρ, h, _, he => ⟨_, rfl, he ρ h⟩
  | d :: ds, k, ρ, h, hs, he => by
    obtain ⟨ρ1, o, h1, h2, h3⟩ := hs 0 d ρ rfl h
    have go : ∀ ρ', Inv (k + 1) ρ' → ∃ o, forGo tg f ds ρ' = some o ∧ P o := fun ρ' q =>
      for_wp Inv (k := k + 1) q (fun i d ρ e q => by
        have := hs (i + 1) d ρ (by simpa using e) (by rw [show k + (i + 1) = k + 1 + i by omega]; exact q)
        rw [show k + (i + 1) + 1 = k + 1 + i + 1 by omega] at this
        exact this) (fun ρ q => he ρ (by rw [List.length_cons, show k + (ds.length + 1) = k + 1 + ds.length by omega]; exact q))
    rw [forGo_cons, h1, Option.bind_some, h2, Option.bind_some]
    cases o with
    | nx ρ' => exact go ρ' h3
    | ct ρ' => exact go ρ' h3
    | bk ρ' => exact ⟨_, rfl, h3⟩
    | rt s ρ' => exact ⟨_, rfl, h3⟩
theorem rngD_map (lo : Int) (n : Nat) : rngD lo n = (List.range n).map fun i : Nat => PyData.int (lo + (i : Int)) := by
  refine List.ext_getElem? fun i => ?_
  by_cases h : i < n
  · rw [rngD_get n lo i h]; simp [h]
  · rw [List.getElem?_eq_none (by rw [rngD_length]; omega), List.getElem?_eq_none (by simp; omega)]
/-- a comprehension whose parts change nothing -/
theorem lc_pure {α : Type} {vs : List Nat} {tg : GE} {tt : BE} {el : EE} {ρ : Env} {inj e : α → PyData} {t : α → Bool} : ∀ {xs : List α},
    (∀ x ∈ xs, ∃ ρ1, tg (inj x) ρ = some ρ1 ∧ tt ρ1 = some (t x, ρ1) ∧ (t x = true → ∃ r, el ρ1 = some (r, ρ1) ∧ froze ρ1 r = some (e x, ρ1)) ∧ wipeE ρ1 vs = ρ) →
    lcGo vs tg tt el (xs.map inj) ρ = some ((xs.filter t).map e, ρ)
  | [], _ => rfl
  | x :: xs, h => by
    obtain ⟨ρ1, h1, h2, h3, h4⟩ := h x List.mem_cons_self
    have ih := lc_pure (xs := xs) fun y hy => h y (List.mem_cons_of_mem _ hy)
    rw [List.map_cons, lcGo, h1, Option.bind_some, h2, Option.bind_some]
    cases q : t x with
    | false =>
      rw [if_neg (by simp), List.filter_cons_of_neg (by simp [q]), h4]
      exact ih
    | true =>
      obtain ⟨r, h5, h6⟩ := h3 q
      rw [if_pos rfl, h5, Option.bind_some, h6, Option.bind_some, List.filter_cons_of_pos q]
      dsimp only
      rw [h4, ih]
      rfl
theorem lcK_of {vs : List Nat} {tg : GE} {tt : BE} {el : EE} {ds es : List PyData} {ρ ρ' : Env} (hd : deadE ρ vs = true) (hl : ds.length ≤ 1000000) (h : lcGo vs tg tt el ds ρ = some (es, ρ')) : lcK vs tg tt el ds ρ = some (.ls es, ρ') := by
  unfold lcK; rw [if_pos ⟨hd, hl⟩, h]; rfl
theorem lcK_pure {α : Type} {vs : List Nat} {tg : GE} {tt : BE} {el : EE} {ρ : Env} {inj e : α → PyData} {t : α → Bool} {xs : List α} (hd : deadE ρ vs = true) (hl : xs.length ≤ 1000000)
    (h : ∀ x ∈ xs, ∃ ρ1, tg (inj x) ρ = some ρ1 ∧ tt ρ1 = some (t x, ρ1) ∧ (t x = true → ∃ r, el ρ1 = some (r, ρ1) ∧ froze ρ1 r = some (e x, ρ1)) ∧ wipeE ρ1 vs = ρ) :
    lcK vs tg tt el (xs.map inj) ρ = some (.ls ((xs.filter t).map e), ρ) := lcK_of hd (by rw [List.length_map]; exact hl) (lc_pure h)
/-- the numbers from lo on, n of them -/
def nums (lo : Int) (n : Nat) : List Int := (List.range n).map fun i : Nat => lo + (i : Int)
theorem rngD_nums {lo : Int} {n : Nat} : rngD lo n = (nums lo n).map PyData.int := by rw [rngD_map, nums, List.map_map]; rfl
theorem nums_length {lo : Int} {n : Nat} : (nums lo n).length = n := by simp [nums]
theorem mem_nums {lo : Int} {n : Nat} {x : Int} : x ∈ nums lo n ↔ lo ≤ x ∧ x < lo + n := by
  unfold nums
  rw [List.mem_map]
  constructor
  · rintro ⟨i, hi, rfl⟩
    have := List.mem_range.mp hi
    omega
  · intro ⟨h1, h2⟩
    exact ⟨(x - lo).toNat, List.mem_range.mpr (by omega), by omega⟩
theorem for_rng {E : List Int → Env → Prop} {lo : Int} {n : Nat} {ρ : Env} (h : E [] ρ)
    (hs : ∀ pre x ρ, x = lo + pre.length → pre.length < n → E pre ρ → ∃ ρ1 ρ', tg (.int x) ρ = some ρ1 ∧ (f ρ1 = some (.nx ρ') ∨ f ρ1 = some (.ct ρ')) ∧ E (pre ++ [x]) ρ') :
    ∃ ρ', forGo tg f (rngD lo n) ρ = some (.nx ρ') ∧ E (nums lo n) ρ' := by
  rw [rngD_nums]
  refine for_pre h fun pre x post ρ e q => ?_
  have hl : pre.length < n := by
    have := congrArg List.length e
    rw [nums_length, List.length_append, List.length_cons] at this
    omega
  refine hs pre x ρ ?_ hl q
  have h1 : (nums lo n)[pre.length]? = some x := by rw [e]; simp
  unfold nums at h1
  rw [List.getElem?_map, List.getElem?_range hl] at h1
  exact (Option.some.inj h1).symm
/-- the same over the numbers of a range -/
theorem lcK_rng {vs : List Nat} {tg : GE} {tt : BE} {el : EE} {ρ : Env} {e : Int → PyData} {t : Int → Bool} {lo : Int} {n : Nat} (hd : deadE ρ vs = true) (hl : n ≤ 1000000)
    (h : ∀ x : Int, lo ≤ x → x < lo + n → ∃ ρ1, tg (.int x) ρ = some ρ1 ∧ tt ρ1 = some (t x, ρ1) ∧ (t x = true → ∃ r, el ρ1 = some (r, ρ1) ∧ froze ρ1 r = some (e x, ρ1)) ∧ wipeE ρ1 vs = ρ) :
    lcK vs tg tt el (rngD lo n) ρ = some (.ls (((nums lo n).filter t).map e), ρ) := by
  rw [rngD_nums]
  exact lcK_pure hd (by rw [nums_length]; exact hl) fun x hx => h x (mem_nums.mp hx).1 (mem_nums.mp hx).2
end
/-! one statement after another -/
/-- x is told to be some y; unlike an equation, no rule takes it apart -/
def Gv {α : Type} (x : Option α) (y : α) : Prop := x = some y
theorem Gv.eq {α : Type} {x : Option α} {y : α} (h : Gv x y) : x = some y := h
theorem Gv.of {α : Type} {y : α} : Gv (some y) y := rfl
def WS (f : SE) (ρ : Env) (P : Out → Prop) : Prop := ∃ o, f ρ = some o ∧ P o
section
variable {f g : SE} {t : BE} {ρ ρ' : Env} {P : Out → Prop} {o : Out} {b : Bool}
theorem WS.end (h : Gv (f ρ) o) (k : P o) : WS f ρ P := ⟨o, h, k⟩
theorem WS.seq (h : Gv (f ρ) (.nx ρ')) (k : WS g ρ' P) : WS (seqS f g) ρ P := by
  obtain ⟨o, h2, k⟩ := k
  exact ⟨o, by rw [ev_seqS, h.eq, Option.bind_some]; exact h2, k⟩
theorem WS.seqW (h : WS f ρ fun o => match o with | .nx ρ' => WS g ρ' P | o => P o) : WS (seqS f g) ρ P := by
  obtain ⟨o, h1, h2⟩ := h
  cases o with
  | nx ρ' =>
    obtain ⟨o, h3, k⟩ := h2
    exact ⟨o, by rw [ev_seqS, h1, Option.bind_some]; exact h3, k⟩
  | _ => exact ⟨_, by rw [ev_seqS, h1]; rfl, h2⟩
theorem WS.ifT (h : Gv (t ρ) (true, ρ')) (k : WS f ρ' P) : WS (ifS t f g) ρ P := by
  obtain ⟨o, h2, k⟩ := k
  exact ⟨o, by rw [ev_ifS, h.eq, Option.bind_some, if_pos rfl]; exact h2, k⟩
theorem WS.ifF (h : Gv (t ρ) (false, ρ')) (k : WS g ρ' P) : WS (ifS t f g) ρ P := by
  obtain ⟨o, h2, k⟩ := k
  exact ⟨o, by rw [ev_ifS, h.eq, Option.bind_some, if_neg (by simp)]; exact h2, k⟩
theorem WS.ifB (h : Gv (t ρ) (b, ρ')) (k : b = true → WS f ρ' P) (k' : b = false → WS g ρ' P) : WS (ifS t f g) ρ P := by
  cases b with
  | true => exact WS.ifT h (k rfl)
  | false => exact WS.ifF h (k' rfl)
theorem WS.nx (k : P (.nx ρ)) : WS nxS ρ P := ⟨_, rfl, k⟩
theorem WS.mono {P' : Out → Prop} (h : WS f ρ P) (k : ∀ o, P o → P' o) : WS f ρ P' := by
  obtain ⟨o, h1, h2⟩ := h
  exact ⟨o, h1, k o h2⟩
theorem WS.forI {it : IE} {tg : GE} {ds : List PyData} (hi : Gv (it ρ) (ds, ρ')) (Inv : Nat → Env → Prop) (h : Inv 0 ρ')
    (hs : ∀ i d ρ, ds[i]? = some d → Inv i ρ → ∃ ρ1, tg d ρ = some ρ1 ∧ WS f ρ1 fun o => match o with | .nx ρ' => Inv (i + 1) ρ' | .ct ρ' => Inv (i + 1) ρ' | .bk ρ' => P (.nx ρ') | .rt s ρ' => P (.rt s ρ'))
    (he : ∀ ρ, Inv ds.length ρ → P (.nx ρ)) : WS (forS it tg f) ρ P := by
  obtain ⟨o, h1, h2⟩ := for_wp (tg := tg) (f := f) (P := P) Inv (ds := ds) (k := 0) h (fun i d ρ e q => by
    rw [Nat.zero_add] at q ⊢
    obtain ⟨ρ1, e1, o, e2, e3⟩ := hs i d ρ e q
    exact ⟨ρ1, o, e1, e2, e3⟩) (fun ρ q => he ρ (by rw [Nat.zero_add] at q; exact q))
  exact ⟨o, by rw [ev_forS, hi.eq, Option.bind_some]; exact h1, h2⟩
/-- a while by a measure -/
theorem WS.whileM (Inv : Env → Prop) (m : Env → Nat) (h : Inv ρ) (hm : ∀ ρ, Inv ρ → m ρ < 1000000000000)
    (hs : ∀ ρ, Inv ρ → ∃ b ρ1, t ρ = some (b, ρ1) ∧ (b = true → WS f ρ1 fun o => match o with | .nx ρ' => Inv ρ' ∧ m ρ' < m ρ | .ct ρ' => Inv ρ' ∧ m ρ' < m ρ | .bk ρ' => P (.nx ρ') | .rt s ρ' => P (.rt s ρ')) ∧ (b = false → P (.nx ρ1))) : WS (whileS t f) ρ P := by
  have go : ∀ (n : Nat) (ρ : Env), Inv ρ → m ρ < n → ∃ o, whileGo t f n ρ = some o ∧ P o := by
    intro n
    induction n with
    | zero => intro ρ _ h; omega
    | succ n ih =>
      intro ρ hI hn
      obtain ⟨b, ρ1, h1, h2, h3⟩ := hs ρ hI
      rw [whileGo, h1, Option.bind_some]
      cases b with
      | false => exact ⟨_, by rw [if_neg (by simp)], h3 rfl⟩
      | true =>
        obtain ⟨o, e1, e2⟩ := h2 rfl
        rw [if_pos rfl, e1, Option.bind_some]
        cases o with
        | nx ρ' => exact ih ρ' e2.1 (by omega)
        | ct ρ' => exact ih ρ' e2.1 (by omega)
        | bk ρ' => exact ⟨_, rfl, e2⟩
        | rt s ρ' => exact ⟨_, rfl, e2⟩
  exact go fuelN ρ h (hm ρ h)
end
/-- what a body hands back -/
theorem bodyG_of {n m : Nat} {f : SE} {ds : List PyData} {P : S → Prop} (hl : ds.length = m) (h : WS f (startE n ds) fun o => ∃ s, Gv (outG o) s ∧ P s) : ∃ s, bodyG n m f ds = some s ∧ P s := by
  obtain ⟨o, h1, s, h2, h3⟩ := h
  exact ⟨s, by unfold bodyG; rw [if_pos hl, h1, Option.bind_some]; exact h2, h3⟩
theorem bodyG_eq {n m : Nat} {f : SE} {ds : List PyData} {s : S} (hl : ds.length = m) (h : WS f (startE n ds) fun o => Gv (outG o) s) : bodyG n m f ds = some s := by
  obtain ⟨o, h1, h2⟩ := h
  unfold bodyG; rw [if_pos hl, h1, Option.bind_some]; exact h2
theorem bodyK_of {n m : Nat} {f : SE} {st : Deck} {ds : List PyData} {P : S → Deck → Prop} (hl : ds.length = m) (h : WS f (startK n st ds) fun o => ∃ s st', Gv (outK o) (s, st') ∧ P s st') : ∃ s st', bodyK n m f st ds = some (s, st') ∧ P s st' := by
  obtain ⟨o, h1, s, st', h2, h3⟩ := h
  exact ⟨s, st', by unfold bodyK; rw [if_pos hl, h1, Option.bind_some]; exact h2, h3⟩
theorem bodyN_of {n : Nat} {f : SE} {ns : List Int} {P : S → Prop} (h : WS f (startN n ns) fun o => ∃ s, Gv (outG o) s ∧ P s) : ∃ s, bodyN n f ns = some s ∧ P s := by
  obtain ⟨o, h1, s, h2, h3⟩ := h
  exact ⟨s, by unfold bodyN; rw [h1, Option.bind_some]; exact h2, h3⟩
/-! what repr can show -/
structure RP (d : PyData) (n w : Nat) : Prop where
  s : smallD d = true
  l : d.canLay0 = true
  dp : d.depth ≤ n
  wt : d.bulk ≤ w
structure RPL (d : List PyData) (n w : Nat) : Prop where
  s : smallAll d = true
  l : PyData.canLayAll0 d = true
  dp : PyData.depthAll d ≤ n
  wt : PyData.bulkAll d ≤ w
theorem RP.ok {d : PyData} {n w : Nat} (h : RP d n w) (hn : n ≤ 50) (hw : w ≤ 20000) : reprOk d = true := by
  have h1 := h.dp
  have h2 := h.wt
  unfold reprOk
  rw [h.s, h.l]
  simp
  omega
theorem RP.mono {d : PyData} {n w n' w' : Nat} (h : RP d n w) (hn : n ≤ n') (hw : w ≤ w') : RP d n' w' := ⟨h.s, h.l, Nat.le_trans h.dp hn, Nat.le_trans h.wt hw⟩
theorem RPL.mono {d : List PyData} {n w n' w' : Nat} (h : RPL d n w) (hn : n ≤ n') (hw : w ≤ w') : RPL d n' w' := ⟨h.s, h.l, Nat.le_trans h.dp hn, Nat.le_trans h.wt hw⟩
theorem RP.int {i : Int} (k : Nat) (h : i.natAbs < 2 ^ k) (hk : 0 < k) (hk2 : k ≤ 600) : RP (.int i) 0 k := by
  have q := log2_of h hk
  refine ⟨?_, rfl, Nat.le_refl _, ?_⟩
  · show decide _ = true
    simp; omega
  · exact Nat.zero_le _
theorem RP.int0 {i : Int} (h : i.natAbs < 2 ^ 600) : RP (.int i) 0 0 := by
  have q := log2_of h (by decide)
  refine ⟨?_, rfl, Nat.le_refl _, Nat.le_refl _⟩
  show decide _ = true
  simpa using q
theorem RP.bool {b : Bool} : RP (.bool b) 0 0 := ⟨rfl, rfl, Nat.le_refl _, Nat.le_refl _⟩
theorem RP.none : RP .none 0 0 := ⟨rfl, rfl, Nat.le_refl _, Nat.le_refl _⟩
theorem RPL.nil {n : Nat} : RPL [] n 0 := ⟨rfl, rfl, Nat.zero_le _, Nat.le_refl _⟩
theorem RPL.cons {x : PyData} {xs : List PyData} {n w w' : Nat} (h : RP x n w) (r : RPL xs n w') : RPL (x :: xs) n (w + 1 + w') := by
  refine ⟨?_, ?_, ?_, ?_⟩
  · show (smallD x && smallAll xs) = true
    rw [h.s, r.s]; rfl
  · show (PyData.canLay0 x && PyData.canLayAll0 xs) = true
    rw [h.l, r.l]; rfl
  · show max (PyData.depth x) (PyData.depthAll xs) ≤ n
    exact Nat.max_le.mpr ⟨h.dp, r.dp⟩
  · show PyData.bulk x + 1 + PyData.bulkAll xs ≤ _
    have := h.wt
    have := r.wt
    omega
theorem RPL.all {n w : Nat} : ∀ {xs : List PyData}, (∀ x ∈ xs, RP x n w) → RPL xs n (xs.length * (w + 1))
  | [], _ => by rw [List.length_nil, Nat.zero_mul]; exact RPL.nil
  | x :: xs, h => by
    have := RPL.cons (h x List.mem_cons_self) (RPL.all (xs := xs) fun y hy => h y (List.mem_cons_of_mem _ hy))
    rw [List.length_cons, Nat.succ_mul, Nat.add_comm (xs.length * (w + 1))]
    exact this
theorem RP.tup {xs : List PyData} {n w : Nat} (h : RPL xs n w) : RP (.tuple xs) (n + 1) w := ⟨h.s, h.l, Nat.succ_le_succ h.dp, h.wt⟩
theorem RP.lst {xs : List PyData} {n w : Nat} (h : RPL xs n w) : RP (.list xs) (n + 1) w := ⟨h.s, h.l, Nat.succ_le_succ h.dp, h.wt⟩
@[simp] theorem gRepr_ok {d : PyData} (h : reprOk d = true) : gRepr [d] = some (.sh (.str d.shown)) := if_pos h
/-! a law's deck: what its draws are told to keep -/
structure DeckOk (b : Bool) (n : Int) (st : Deck) : Prop where
  ck : st.ck = b
  m0 : 0 ≤ st.mixed
  m1 : st.mixed < 2147483648
  d0 : 0 ≤ st.draws
  d1 : st.draws ≤ n
  cl : st.cells.length ≤ 63
theorem DeckOk.mono {b : Bool} {n m : Int} {st : Deck} (h : DeckOk b n st) (l : n ≤ m) : DeckOk b m st := ⟨h.ck, h.m0, h.m1, h.d0, Int.le_trans h.d1 l, h.cl⟩
end Dn
namespace Dn
open PySem PyProof.Rows L2
section
variable {ρ ρ' : Dn.Env} {f g h fa fb fc fi fj : EE} {t u : BE} {sf sg : SE} {ta : AE} {d e : PyData} {i j : Nat} {cs : List Nat} {ds : List PyData} {a b : Int}
@[simp] theorem ev_anyI : anyI f ρ = (f ρ).bind fun p => (froze p.2 p.1).bind fun q => match q.1 with
  | .list ds => some (ds, q.2)
  | .tuple ds => some (ds, q.2)
  | _ => none := rfl
@[simp] theorem ev_enumI : enumI ta ρ = (ta ρ).bind fun p => (frozeL p.1 p.2).bind fun q => match q.1 with
  | [.list xs] => some (enumD 0 xs, q.2)
  | _ => none := rfl
@[simp] theorem ev_noO : noO ρ = some (none, ρ) := rfl
@[simp] theorem ev_atO : atO f ρ = (f ρ).bind fun p => match view p.2 p.1 with | some (.int i) => some (some i, p.2) | _ => none := rfl
@[simp] theorem ev_cutE {fl fh : OE} : cutE f fl fh ρ = (f ρ).bind fun p => (fl p.2).bind fun l => (fh l.2).bind fun u => (view u.2 p.1).bind fun d => (gCut l.1 u.1 d).map fun r => (r, u.2) := rfl
@[simp] theorem gCut_list {lo hi : Option Int} : gCut lo hi (.list ds) = some (.ls (cutD ds lo hi)) := rfl
@[simp] theorem gCut_tup {lo hi : Option Int} : gCut lo hi (.tuple ds) = some (.sh (.tuple (cutD ds lo hi))) := rfl
@[simp] theorem setAt_ev {k : Int} : setAt i k d ρ = (lsOf ρ i).bind fun ds => (ixN ds.length k).map fun j => ρ.set i (some (.ls (ds.set j d))) := rfl
@[simp] theorem ev_setIx : setIxS i f fi ρ = (f ρ).bind fun p => (froze p.2 p.1).bind fun q => (lsOf q.2 i).bind fun _ => (fi q.2).bind fun u => match view u.2 u.1 with
  | some (.int k) => (setAt i k q.1 u.2).map .nx
  | _ => none := rfl
@[simp] theorem ev_augIx {gg : Int → Int → Int} : augIxS i gg fi f ρ = (lsOf ρ i).bind fun _ => (fi ρ).bind fun u => match view u.2 u.1 with
  | some (.int k) => (lsOf u.2 i).bind fun ds => match atI ds k with
    | some (.int a) => (f u.2).bind fun p => match view p.2 p.1 with
      | some (.int b) => (setAt i k (.int (gg a b)) p.2).map .nx
      | _ => none
    | _ => none
  | _ => none := rfl
@[simp] theorem ev_pairIx : pairIxS i j f fi fj ρ = (f ρ).bind fun p => (froze p.2 p.1).bind fun q => match q.1 with
  | .tuple [d, e] => (lsOf q.2 i).bind fun _ => (fi q.2).bind fun u => match view u.2 u.1 with
    | some (.int k) => (setAt i k d u.2).bind fun ρ1 => (lsOf ρ1 j).bind fun _ => (fj ρ1).bind fun w => match view w.2 w.1 with
      | some (.int l) => (setAt j l e w.2).map .nx
      | _ => none
    | _ => none
  | _ => none := rfl
@[simp] theorem boolsOf_nil : boolsOf [] = some [] := rfl
@[simp] theorem boolsOf_cons {c : Bool} : boolsOf (.bool c :: ds) = (boolsOf ds).map fun bs => c :: bs := rfl
@[simp] theorem boolsOf_fun {α : Type} (f : α → Bool) (xs : List α) : boolsOf (xs.map fun x => PyData.bool (f x)) = some (xs.map f) := by
  induction xs with
  | nil => rfl
  | cons x xs ih => simp [ih]
@[simp] theorem gAll_list : gAll [.list ds] = (boolsOf ds).map fun bs => .sh (.bool (bs.all id)) := rfl
@[simp] theorem gAny_list : gAny [.list ds] = (boolsOf ds).map fun bs => .sh (.bool (bs.any id)) := rfl
theorem flat0_ints (ns : List Int) : (ns.map PyData.int).all flat0 = true := by
  induction ns with
  | nil => rfl
  | cons n ns ih => simp [flat0]
theorem any_ints (a : Int) (ns : List Int) : ((ns.map PyData.int).any fun y => eq0 y (.int a)) = decide (a ∈ ns) := by
  induction ns with
  | nil => rfl
  | cons n ns ih =>
    rw [List.map_cons, List.any_cons, ih]
    have e : eq0 (.int n) (.int a) = decide (a = n) := by
      show (n == a) = _
      rw [Bool.eq_iff_iff]
      simp
      exact eq_comm
    rw [e]
    simp [List.mem_cons]
theorem inS_ints {neg : Bool} {a : Int} {ns : List Int} : inS neg (.int a) (.list (ns.map PyData.int)) = some (.sh (.bool (neg != decide (a ∈ ns)))) := by
  show (if _ then _ else _) = _
  rw [if_pos (by rw [flat0_ints]; rfl), any_ints]
theorem inS_tint {neg : Bool} {a : Int} {ns : List Int} : inS neg (.int a) (.tuple (ns.map PyData.int)) = some (.sh (.bool (neg != decide (a ∈ ns)))) := by
  show (if _ then _ else _) = _
  rw [if_pos (by rw [flat0_ints]; rfl), any_ints]
@[simp] theorem inS_t2 {neg : Bool} {a b c : Int} : inS neg (.int a) (.tuple [.int b, .int c]) = some (.sh (.bool (neg != decide (a = b ∨ a = c)))) := by
  have := inS_tint (neg := neg) (a := a) (ns := [b, c])
  simpa using this
end
/-! ### operations that look at the size of their numbers, over plain ints -/
def mulO (a b : Int) : Option Int := if a.natAbs.log2 + b.natAbs.log2 < 1000000 then some (a * b) else none
def modO (a b : Int) : Option Int := if 0 < b then some (a % b) else none
def fdivO (a b : Int) : Option Int := if 0 < b ∧ b.natAbs.log2 < 9000 then some (a / b) else none
def combO (a b : Int) : Option Int := if combOk a b = true then some (combI a b) else none
theorem mulS_O {a b : Int} : mulS (.int a) (.int b) = (mulO a b).map fun x => .sh (.int x) := by
  show (if _ then _ else _) = _
  unfold mulO
  split <;> rfl
theorem gMod_O {a b : Int} : gInt (fun _ j => decide (0 < j)) (fun i j => i % j) (.int a) (.int b) = (modO a b).map fun x => .sh (.int x) := by
  rw [gInt_int]
  unfold modO
  by_cases h : 0 < b
  · rw [if_pos (by simpa using h), if_pos h]; rfl
  · rw [if_neg (by simpa using h), if_neg h]; rfl
theorem gFdiv_O {a b : Int} : gInt (fun _ j => decide (0 < j) && decide (j.natAbs.log2 < 9000)) (fun i j => i / j) (.int a) (.int b) = (fdivO a b).map fun x => .sh (.int x) := by
  rw [gInt_int]
  unfold fdivO
  by_cases h : 0 < b ∧ b.natAbs.log2 < 9000
  · rw [if_pos (by simpa using h), if_pos h]; rfl
  · rw [if_neg (by simpa using h), if_neg h]; rfl
theorem gComb_O {a b : Int} : gComb [.int a, .int b] = (combO a b).map fun x => .sh (.int x) := by
  show (if _ then _ else _) = _
  unfold combO
  split <;> rfl
/-- a loop that tells nothing where its mirror tells nothing -/
theorem for_foldM {tg : GE} {f : SE} {α β : Type} {inj : α → PyData} {E : β → Dn.Env → Prop} {step : β → α → Option β} : ∀ {xs : List α} {b : β} {ρ : Dn.Env}, E b ρ →
    (∀ b a ρ, a ∈ xs → E b ρ → ∃ ρ1, tg (inj a) ρ = some ρ1 ∧ match step b a with | none => True | some b' => ∃ ρ', f ρ1 = some (.nx ρ') ∧ E b' ρ') →
    ∀ {c : β}, xs.foldlM step b = some c → ∃ ρ', forGo tg f (xs.map inj) ρ = some (.nx ρ') ∧ E c ρ'
  | [], b, ρ, h, _, c, e => by
    have e : some b = some c := e
    cases e
    exact ⟨ρ, rfl, h⟩
  | x :: xs, b, ρ, h, hs, c, e => by
    rw [List.foldlM_cons] at e
    obtain ⟨b', e1, e2⟩ := Option.bind_eq_some_iff.mp e
    obtain ⟨ρ1, h1, h2⟩ := hs b x ρ List.mem_cons_self h
    rw [e1] at h2
    obtain ⟨ρ2, h3, h4⟩ := h2
    obtain ⟨ρ3, h5, h6⟩ := for_foldM (xs := xs) h4 (fun b a ρ ha hb => hs b a ρ (List.mem_cons_of_mem _ ha) hb) e2
    exact ⟨ρ3, by rw [List.map_cons, forGo_cons, h1, Option.bind_some, h3, Option.bind_some]; exact h5, h6⟩
theorem enumD_map {α : Type} (inj : α → PyData) : ∀ (xs : List α) (n : Nat), enumD n (xs.map inj) = (xs.zipIdx n).map fun p => .tuple [.int ((p.2 : Nat) : Int), inj p.1]
  | [], _ => rfl
  | x :: xs, n => by rw [List.map_cons, enumD, List.zipIdx_cons, List.map_cons, enumD_map inj xs]
theorem live_foldM {i : Nat} {tg : GE} {f : SE} {α β : Type} {inj : α → PyData} {E : β → Dn.Env → Prop} {step : β → α × Nat → Option β} {xs : List α} (hE : ∀ b ρ, E b ρ → lsOf ρ i = some (xs.map inj))
    (hs : ∀ b x k ρ, xs[k]? = some x → E b ρ → ∃ ρ1, tg (.tuple [.int (k : Nat), inj x]) ρ = some ρ1 ∧ match step b (x, k) with | none => True | some b' => ∃ ρ', f ρ1 = some (.nx ρ') ∧ E b' ρ')
    {b c : β} {ρ : Dn.Env} (h0 : E b ρ) (hc : xs.zipIdx.foldlM step b = some c) : ∃ ρ', liveS true i tg f ρ = some (.nx ρ') ∧ E c ρ' := by
  have go : ∀ (n k : Nat) (b : β) (ρ : Dn.Env), k + n = xs.length → E b ρ → ((xs.drop k).zipIdx k).foldlM step b = some c → ∃ ρ', liveGo true i tg f (n + 1) k ρ = some ρ' ∧ E c ρ' := by
    intro n
    induction n with
    | zero =>
      intro k b ρ hk hb hf
      rw [show k = xs.length by omega, List.drop_length] at hf
      have hf : some b = some c := hf
      cases hf
      refine ⟨ρ, ?_, hb⟩
      rw [liveGo, hE _ ρ hb, Option.bind_some, List.getElem?_eq_none (by rw [List.length_map]; omega)]
    | succ n ih =>
      intro k b ρ hk hb hf
      have hl : k < xs.length := by omega
      rw [List.drop_eq_getElem_cons hl, List.zipIdx_cons, List.foldlM_cons] at hf
      obtain ⟨b', e1, e2⟩ := Option.bind_eq_some_iff.mp hf
      obtain ⟨ρ1, h1, h2⟩ := hs b xs[k] k ρ (List.getElem?_eq_getElem hl) hb
      rw [e1] at h2
      obtain ⟨ρ2, h3, h4⟩ := h2
      obtain ⟨ρ3, h5, h6⟩ := ih (k + 1) b' ρ2 (by omega) h4 e2
      refine ⟨ρ3, ?_, h6⟩
      rw [liveGo, hE b ρ hb, Option.bind_some, List.getElem?_map, List.getElem?_eq_getElem hl]
      show ((tg (.tuple [.int (k : Nat), inj xs[k]]) ρ).bind fun ρ1 => _) = _
      rw [h1, Option.bind_some, h3, Option.bind_some]
      exact h5
  obtain ⟨ρ', h1, h2⟩ := go xs.length 0 b ρ (by omega) h0 (by rw [List.drop_zero]; exact hc)
  refine ⟨ρ', ?_, h2⟩
  unfold liveS
  rw [hE b ρ h0, Option.bind_some, List.length_map, h1]
  rfl
theorem rng1_at {n : Int} (h1 : 1 ≤ n) (h2 : n ≤ 999999) {ρ : Dn.Env} : rng2K 1 (n + 1) ρ = some (rngD 1 n.toNat, ρ) := by
  rw [rng2K_ok (by omega) (by omega) (by omega) (by omega), show n + 1 - 1 = n by omega]
end Dn
namespace Dn
open PySem PyProof.Rows L2
section
variable {ρ ρ' : Dn.Env} {f g h fa fb fc fi fj : EE} {t u : BE} {sf sg : SE} {ta : AE} {d e : PyData} {i j : Nat} {cs : List Nat} {ds es : List PyData} {a b : Int}
@[simp] theorem seqOf_list : seqOf (.list ds) = some ds := rfl
@[simp] theorem seqOf_tup : seqOf (.tuple ds) = some ds := rfl
@[simp] theorem ev_zipBI : zipBI ta ρ = (ta ρ).bind fun p => (frozeL p.1 p.2).bind fun q => match q.1 with
  | [d, d'] => (seqOf d).bind fun xs => (seqOf d').map fun ys => (zipD xs ys, q.2)
  | _ => none := rfl
@[simp] theorem ev_enumZI : enumZI ta ρ = (ta ρ).bind fun p => (frozeL p.1 p.2).bind fun q => match q.1 with
  | [d, d'] => (seqOf d).bind fun xs => (seqOf d').map fun ys => (enumD 0 (zipD xs ys), q.2)
  | _ => none := rfl
@[simp] theorem ev_enumTI : enumTI ta ρ = (ta ρ).bind fun p => (frozeL p.1 p.2).bind fun q => match q.1 with
  | [d] => (seqOf d).map fun xs => (enumD 0 xs, q.2)
  | _ => none := rfl
@[simp] theorem ev_consGT {tg : GE} {g : GsE} : consGT tg g (d :: ds) ρ = (tg d ρ).bind fun ρ' => g ds ρ' := rfl
@[simp] theorem isS_bool {n c c' : Bool} : isS n (.bool c) (.bool c') = some (.sh (.bool (n != decide (c = c')))) := rfl
@[simp] theorem isS_int {n : Bool} : isS n (.int a) .none = some (.sh (.bool (n != false))) := rfl
@[simp] theorem isS_non {n : Bool} : isS n .none .none = some (.sh (.bool (n != true))) := rfl
def lcLK (v : Nat) (tg : GE) (tt : BE) (el : EE) (ds : List PyData) (ρ : Dn.Env) : Option (S × Dn.Env) := match ρ[v]? with
  | some (some (.sh d)) => if v ≠ 0 ∧ ds.length ≤ 1000000 then (lcGo [v] tg tt el ds (ρ.set v none)).map fun q => (.ls q.1, q.2.set v (some (.sh d))) else none
  | _ => if deadE ρ [v] = true ∧ ds.length ≤ 1000000 then (lcGo [v] tg tt el ds ρ).map fun q => (.ls q.1, q.2) else none
@[simp] theorem ev_lcL {v : Nat} {it : IE} {tg : GE} {tt : BE} {el : EE} : lcL v it tg tt el ρ = (it ρ).bind fun p => lcLK v tg tt el p.1 p.2 := rfl
theorem lcLK_live {v : Nat} {tg : GE} {tt : BE} {el : EE} (hv : ρ[v]? = some (some (.sh d))) (h0 : v ≠ 0) (hl : ds.length ≤ 1000000) (h : lcGo [v] tg tt el ds (ρ.set v none) = some (es, ρ')) : lcLK v tg tt el ds ρ = some (.ls es, ρ'.set v (some (.sh d))) := by
  unfold lcLK
  rw [hv]
  simp only
  rw [if_pos ⟨h0, hl⟩, h]; rfl
theorem lcLK_dead {v : Nat} {tg : GE} {tt : BE} {el : EE} (hd : deadE ρ [v] = true) (hl : ds.length ≤ 1000000) (h : lcGo [v] tg tt el ds ρ = some (es, ρ')) : lcLK v tg tt el ds ρ = some (.ls es, ρ') := by
  unfold lcLK
  split
  · rename_i q
    exfalso
    simp only [deadE, List.all_cons, q] at hd
    simp at hd
  · rw [if_pos ⟨hd, hl⟩, h]; rfl
@[simp] theorem modS_ok (h : 0 < b) : modS (.int a) (.int b) = some (.sh (.int (a % b))) := by
  unfold modS modP
  rw [gInt_int, if_pos (by simpa using (by omega : b ≠ 0)), if_pos h]
theorem modS_neg (h : b < 0) : modS (.int a) (.int b) = some (.sh (.int (-((-a) % (-b))))) := by
  unfold modS modP
  rw [gInt_int, if_pos (by simpa using (by omega : b ≠ 0)), if_neg (by omega)]
  have e := Int.neg_fmod_neg a b
  rw [Int.fmod_eq_emod_of_nonneg (-a) (by omega)] at e
  rw [e, Int.neg_neg]
theorem zipD_ints (xs ys : List Int) : zipD (xs.map PyData.int) (ys.map PyData.int) = (xs.zip ys).map fun p => .tuple [.int p.1, .int p.2] := by
  unfold zipD
  rw [List.zip_map, List.map_map]; rfl
theorem enumZ_ints (xs ys : List Int) : enumD 0 (zipD (xs.map PyData.int) (ys.map PyData.int)) = ((xs.zip ys).zipIdx 0).map fun p => .tuple [.int ((p.2 : Nat) : Int), .tuple [.int p.1.1, .int p.1.2]] := by
  rw [zipD_ints, enumD_map fun p : Int × Int => PyData.tuple [.int p.1, .int p.2]]
/-- a loop that looks for a first item -/
theorem for_find {tg : GE} {f : SE} {α : Type} {inj : α → PyData} {t : α → Bool} {E : Dn.Env → Prop} {P : Out → Prop} : ∀ {xs : List α} {ρ : Dn.Env}, E ρ →
    (∀ x ρ, x ∈ xs → E ρ → ∃ ρ1, tg (inj x) ρ = some ρ1 ∧ if t x = true then ∃ s ρ', f ρ1 = some (.rt s ρ') ∧ (xs.find? t = some x → P (.rt s ρ')) else ∃ ρ', f ρ1 = some (.nx ρ') ∧ E ρ') →
    (∀ ρ, E ρ → xs.find? t = none → P (.nx ρ)) → ∃ o, forGo tg f (xs.map inj) ρ = some o ∧ P o
  | [], ρ, h, _, k => ⟨_, rfl, k ρ h rfl⟩
  | x :: xs, ρ, h, hs, k => by
    obtain ⟨ρ1, h1, h2⟩ := hs x ρ List.mem_cons_self h
    rw [List.map_cons, forGo_cons, h1, Option.bind_some]
    cases q : t x with
    | true =>
      rw [if_pos q] at h2
      obtain ⟨s, ρ', h3, h4⟩ := h2
      rw [h3]
      exact ⟨_, rfl, h4 (by simp [q])⟩
    | false =>
      rw [if_neg (by simp [q])] at h2
      obtain ⟨ρ', h3, h4⟩ := h2
      rw [h3]
      refine for_find (xs := xs) (t := t) (E := E) h4 (fun y ρ hy he => ?_) fun ρ he hn => k ρ he (by rw [List.find?_cons, q]; exact hn)
      obtain ⟨ρ1, e1, e2⟩ := hs y ρ (List.mem_cons_of_mem _ hy) he
      refine ⟨ρ1, e1, ?_⟩
      split
      · rename_i ht
        rw [if_pos ht] at e2
        obtain ⟨s, ρ', e3, e4⟩ := e2
        exact ⟨s, ρ', e3, fun z => e4 (by rw [List.find?_cons, q]; exact z)⟩
      · rename_i ht
        rw [if_neg ht] at e2
        exact e2
theorem lcGo_map {α : Type} {vs : List Nat} {tg : GE} {el : EE} {inj e : α → PyData} {xs : List α} (h : ∀ x ∈ xs, ∃ ρ1, tg (inj x) ρ = some ρ1 ∧ (∃ r, el ρ1 = some (r, ρ1) ∧ froze ρ1 r = some (e x, ρ1)) ∧ wipeE ρ1 vs = ρ) :
    lcGo vs tg yesB el (xs.map inj) ρ = some (xs.map e, ρ) := by
  have k := lc_pure (vs := vs) (tg := tg) (tt := yesB) (el := el) (inj := inj) (e := e) (t := fun _ => true) (ρ := ρ) (xs := xs) fun x hx => by
    obtain ⟨ρ1, h1, h2, h3⟩ := h x hx
    exact ⟨ρ1, h1, rfl, fun _ => h2, h3⟩
  rw [k, List.filter_eq_self.mpr (fun _ _ => rfl)]
theorem lcK_map {α : Type} {vs : List Nat} {tg : GE} {el : EE} {inj e : α → PyData} {xs : List α} (hd : deadE ρ vs = true) (hl : xs.length ≤ 1000000) (h : ∀ x ∈ xs, ∃ ρ1, tg (inj x) ρ = some ρ1 ∧ (∃ r, el ρ1 = some (r, ρ1) ∧ froze ρ1 r = some (e x, ρ1)) ∧ wipeE ρ1 vs = ρ) :
    lcK vs tg yesB el (xs.map inj) ρ = some (.ls (xs.map e), ρ) := lcK_of hd (by rw [List.length_map]; exact hl) (lcGo_map h)
end
end Dn
namespace Dn
open PySem PyProof.Rows L2
section
variable {ρ : Env} {ta : AE} {i j c : Int} {x : PyData}
def rng3K (i j c : Int) (ρ : Env) : Option (List PyData × Env) := if 0 < c ∧ c.natAbs.log2 < 9000 then some (stepD i c (stepN i j c), ρ) else none
@[simp] theorem ev_rng3 : rng3I ta ρ = (ta ρ).bind fun p => (viewL p.2 p.1).bind fun ds => match ds with | [.int i, .int j, .int c] => rng3K i j c p.2 | _ => none := rfl
theorem rng3K_ok (h : 0 < c) (h2 : c < 1606938044258990275541962092341162602522202993782792835301376) : rng3K i j c ρ = some (stepD i c (stepN i j c), ρ) := by
  unfold rng3K
  rw [if_pos]
  refine ⟨h, ?_⟩
  have e2 : c.natAbs.log2 < 200 := log2_of (by show _ < 1606938044258990275541962092341162602522202993782792835301376; omega) (by decide)
  omega
@[simp] theorem mulT_ok (h1 : -1000000 ≤ j) (h2 : j ≤ 1000) : mulT (.tuple [x]) (.int j) = some (.sh (.tuple (List.replicate j.toNat x))) := if_pos ⟨h1, h2⟩
theorem rng0N (n : Nat) : rngD 0 n = (List.range n).map fun i : Nat => PyData.int (i : Int) := by
  rw [rngD_map]
  refine List.map_congr_left fun i _ => ?_
  rw [Int.zero_add]
theorem modS_nat {i m : Nat} (h : 0 < m) : modS (.int (i : Int)) (.int (m : Int)) = some (.sh (.int ((i % m : Nat) : Int))) := by
  rw [modS_ok (by omega)]; rfl
theorem fdiv_nat {i m : Nat} (h : 0 < m) (h2 : (m : Int) < 1606938044258990275541962092341162602522202993782792835301376) : gInt (fun _ j => decide (0 < j) && decide (j.natAbs.log2 < 9000)) (fun i j => i / j) (.int (i : Int)) (.int (m : Int)) = some (.sh (.int ((i / m : Nat) : Int))) := by
  rw [gFdiv_ok (by omega) h2]; rfl
end
end Dn
/-! Rows of fractions over a common bottom: lowest terms, sums, products. Plain Lean, no program in sight. -/
namespace Bg
/-! ### the common divisor -/
def G (b : Nat) (ts : List Int) : Nat := ts.foldl (fun g t => Nat.gcd g t.natAbs) b
theorem G_nil {b : Nat} : G b [] = b := rfl
theorem G_cons {b : Nat} {t : Int} {ts : List Int} : G b (t :: ts) = G (Nat.gcd b t.natAbs) ts := rfl
theorem G_one : ∀ ts : List Int, G 1 ts = 1
  | [] => rfl
  | t :: ts => by rw [G_cons, Nat.gcd_one_left]; exact G_one ts
theorem G_dvd : ∀ (ts : List Int) (b : Nat), G b ts ∣ b ∧ ∀ t ∈ ts, G b ts ∣ t.natAbs
  | [], b => ⟨Nat.dvd_refl _, fun t h => by cases h⟩
  | t :: ts, b => by
    obtain ⟨h1, h2⟩ := G_dvd ts (Nat.gcd b t.natAbs)
    rw [G_cons]
    refine ⟨Nat.dvd_trans h1 (Nat.gcd_dvd_left _ _), fun u hu => ?_⟩
    rcases List.mem_cons.mp hu with e | e
    · rw [e]; exact Nat.dvd_trans h1 (Nat.gcd_dvd_right _ _)
    · exact h2 u e
theorem G_pos {b : Nat} (h : 0 < b) (ts : List Int) : 0 < G b ts := by
  obtain ⟨h1, _⟩ := G_dvd ts b
  exact Nat.pos_of_dvd_of_pos h1 h
theorem G_le {b : Nat} (h : 0 < b) (ts : List Int) : G b ts ≤ b := Nat.le_of_dvd h (G_dvd ts b).1
theorem G_mul (c : Nat) : ∀ (ts : List Int) (b : Nat), G (b * c) (ts.map fun t => t * (c : Int)) = G b ts * c
  | [], b => rfl
  | t :: ts, b => by
    rw [List.map_cons, G_cons, G_cons, Int.natAbs_mul, Int.natAbs_natCast, Nat.gcd_mul_right]
    exact G_mul c ts _
/-! ### lowest terms -/
abbrev P := Int × List Int
def R (p : P) : P := (p.1 / (G p.1.natAbs p.2 : Int), p.2.map fun t => t / (G p.1.natAbs p.2 : Int))
theorem R_length (p : P) : (R p).2.length = p.2.length := by unfold R; simp
theorem R_mul {p : P} (h : 0 < p.1) {c : Int} (hc : 0 < c) : R (p.1 * c, p.2.map fun t => t * c) = R p := by
  obtain ⟨c, rfl⟩ := Int.eq_ofNat_of_zero_le (Int.le_of_lt hc)
  have hc' : 0 < c := by omega
  have hg := G_pos (b := p.1.natAbs) (by omega) p.2
  unfold R
  have e : G (p.1 * (c : Int)).natAbs (p.2.map fun t => t * (c : Int)) = G p.1.natAbs p.2 * c := by
    rw [Int.natAbs_mul, Int.natAbs_natCast, G_mul]
  simp only
  rw [e, Int.natCast_mul]
  have d : ∀ t : Int, t * (c : Int) / ((G p.1.natAbs p.2 : Int) * (c : Int)) = t / (G p.1.natAbs p.2 : Int) := fun t => Int.mul_ediv_mul_of_pos_left t _ hc
  rw [d, List.map_map]
  congr 1
  exact List.map_congr_left fun t _ => d t
/-- the same fractions -/
def Q (p q : P) : Prop := (p.2.map fun t => t * q.1) = q.2.map fun t => t * p.1
theorem R_of {p q : P} (hp : 0 < p.1) (hq : 0 < q.1) (h : Q p q) : R p = R q := by
  rw [← R_mul hp hq, ← R_mul hq hp, h, Int.mul_comm]
theorem R_pos {p : P} (h : 0 < p.1) : 0 < (R p).1 := by
  have hg := G_pos (b := p.1.natAbs) (by omega) p.2
  have hl := G_le (b := p.1.natAbs) (by omega) p.2
  exact Int.ediv_pos_of_pos_of_dvd h (by omega) (by have := (G_dvd p.2 p.1.natAbs).1; exact Int.ofNat_dvd_left.mpr this)
theorem R_le {p : P} (h : 0 < p.1) : (R p).1 ≤ p.1 := by
  have hg := G_pos (b := p.1.natAbs) (by omega) p.2
  exact Int.ediv_le_self _ (by omega)
theorem R_back {p : P} : p.1 = (R p).1 * (G p.1.natAbs p.2 : Int) ∧ ∀ t ∈ p.2, t = t / (G p.1.natAbs p.2 : Int) * (G p.1.natAbs p.2 : Int) := by
  obtain ⟨h1, h2⟩ := G_dvd p.2 p.1.natAbs
  exact ⟨(Int.ediv_mul_cancel (Int.ofNat_dvd_left.mpr h1)).symm, fun t ht => (Int.ediv_mul_cancel (Int.ofNat_dvd_left.mpr (h2 t ht))).symm⟩
theorem R_Q (p : P) : Q (R p) p := by
  obtain ⟨h1, h2⟩ := R_back (p := p)
  unfold Q
  show (p.2.map fun t => t / (G p.1.natAbs p.2 : Int)).map (fun t => t * p.1) = _
  rw [List.map_map]
  refine List.map_congr_left fun t ht => ?_
  show t / (G p.1.natAbs p.2 : Int) * p.1 = t * (R p).1
  generalize (G p.1.natAbs p.2 : Int) = g at *
  have := h2 t ht
  generalize t / g = u at *
  rw [this]
  generalize (R p).1 = r at *
  rw [h1]
  grind
theorem R_le_all {p : P} {n : Int} (hp : 0 < p.1) (h : ∀ t ∈ p.2, -n < t ∧ t < n) : ∀ t ∈ (R p).2, -n < t ∧ t < n := by
  intro t ht
  have ht : t ∈ p.2.map fun t => t / (G p.1.natAbs p.2 : Int) := ht
  obtain ⟨u, hu, rfl⟩ := List.mem_map.mp ht
  obtain ⟨h1, h2⟩ := h u hu
  have hg := G_pos (b := p.1.natAbs) (by omega) p.2
  have e := (R_back (p := p)).2 u hu
  have hg0 : (0 : Int) < (G p.1.natAbs p.2 : Int) := by omega
  clear hg
  generalize (G p.1.natAbs p.2 : Int) = g at *
  generalize u / g = v at *
  rw [e] at h1 h2
  refine ⟨?_, ?_⟩
  · by_cases z : 0 ≤ v
    · have : 0 ≤ v * g := Int.mul_nonneg z (by omega)
      omega
    · have : v * g ≤ v * 1 := Int.mul_le_mul_of_nonpos_left (by omega) (by omega)
      omega
  · by_cases z : 0 ≤ v
    · have : v * 1 ≤ v * g := Int.mul_le_mul_of_nonneg_left (by omega) z
      omega
    · have : v * g ≤ v * 1 := Int.mul_le_mul_of_nonpos_left (by omega) (by omega)
      omega
end Bg
/-! sums, multiples, products of such rows -/
namespace Bg
theorem Q_ext {p q : P} (hl : p.2.length = q.2.length) (h : ∀ (i : Nat) (x y : Int), p.2[i]? = some x → q.2[i]? = some y → x * q.1 = y * p.1) : Q p q := by
  unfold Q
  refine List.ext_getElem? fun i => ?_
  rw [List.getElem?_map, List.getElem?_map]
  by_cases hi : i < p.2.length
  · have h1 := List.getElem?_eq_getElem hi
    have h2 := List.getElem?_eq_getElem (show i < q.2.length by omega)
    rw [h1, h2]
    exact congrArg some (h i _ _ h1 h2)
  · rw [List.getElem?_eq_none (by omega), List.getElem?_eq_none (by omega)]; rfl
theorem Q_len {p q : P} (h : Q p q) : p.2.length = q.2.length := by
  have := congrArg List.length h
  simpa using this
theorem Q_at {p q : P} (h : Q p q) {i : Nat} {x y : Int} (hx : p.2[i]? = some x) (hy : q.2[i]? = some y) : x * q.1 = y * p.1 := by
  have := congrArg (fun l => l[i]?) h
  simp only [List.getElem?_map, hx, hy, Option.map_some, Option.some.injEq] at this
  exact this
theorem Q.rfl' (p : P) : Q p p := rfl
theorem Q.symm {p q : P} (h : Q p q) : Q q p := Eq.symm h
/-! ### sums -/
def add (p q : P) : P := (p.1 * q.1, List.zipWith (fun x y => x * q.1 + y * p.1) p.2 q.2)
theorem add_get {p q : P} {i : Nat} {z : Int} (h : (add p q).2[i]? = some z) : ∃ x y, p.2[i]? = some x ∧ q.2[i]? = some y ∧ z = x * q.1 + y * p.1 := by
  unfold add at h
  simp only [List.getElem?_zipWith] at h
  split at h
  · cases h; exact ⟨_, _, ‹_›, ‹_›, rfl⟩
  · cases h
theorem add_len (p q : P) : (add p q).2.length = min p.2.length q.2.length := by unfold add; simp
theorem add_Q {p p' q q' : P} (hp : Q p p') (hq : Q q q') : Q (add p q) (add p' q') := by
  refine Q_ext (by rw [add_len, add_len, Q_len hp, Q_len hq]) fun i z z' h h' => ?_
  obtain ⟨x, y, h1, h2, rfl⟩ := add_get h
  obtain ⟨x', y', h3, h4, rfl⟩ := add_get h'
  have e1 := Q_at hp h1 h3
  have e2 := Q_at hq h2 h4
  show (x * q.1 + y * p.1) * (p'.1 * q'.1) = (x' * q'.1 + y' * p'.1) * (p.1 * q.1)
  grind
theorem add_comm (p q : P) : add p q = add q p := by
  unfold add
  rw [Int.mul_comm p.1, List.zipWith_comm]
  simp only [Int.add_comm]
theorem add_assoc (p q r : P) : add (add p q) r = add p (add q r) := by
  unfold add
  refine Prod.ext (Int.mul_assoc _ _ _) (List.ext_getElem? fun i => ?_)
  simp only [List.getElem?_zipWith]
  cases p.2[i]? <;> cases q.2[i]? <;> cases r.2[i]? <;> simp
  grind
theorem add_pos {p q : P} (hp : 0 < p.1) (hq : 0 < q.1) : 0 < (add p q).1 := Int.mul_pos hp hq
/-! ### multiples -/
def tim (p : P) (u : Int × Int) : P := (p.1 * u.2, p.2.map fun x => x * u.1)
theorem tim_Q {p p' : P} {u u' : Int × Int} (h : Q p p') (hu : u.1 * u'.2 = u'.1 * u.2) : Q (tim p u) (tim p' u') := by
  refine Q_ext (by unfold tim; simp [Q_len h]) fun i z z' h1 h2 => ?_
  unfold tim at h1 h2
  simp only [List.getElem?_map] at h1 h2
  obtain ⟨x, h3, rfl⟩ := Option.map_eq_some_iff.mp h1
  obtain ⟨x', h4, rfl⟩ := Option.map_eq_some_iff.mp h2
  have e := Q_at h h3 h4
  show x * u.1 * (p'.1 * u'.2) = x' * u'.1 * (p.1 * u.2)
  grind
/-- the same, both times f -/
def scl (p : P) (f : Int) : P := (p.1 * f, p.2.map fun x => x * f)
theorem scl_Q (p : P) (f : Int) : Q (scl p f) p := by
  refine Q_ext (by unfold scl; simp) fun i z z' h1 h2 => ?_
  unfold scl at h1
  simp only [List.getElem?_map] at h1
  obtain ⟨x, h3, rfl⟩ := Option.map_eq_some_iff.mp h1
  have e : x = z' := Option.some.inj (h3.symm.trans h2)
  show x * f * p.1 = z' * (p.1 * f)
  rw [← e]
  grind
/-! ### products -/
def conv : (Nat → Int) → (Nat → Int) → Nat → Int
  | f, g, 0 => f 0 * g 0
  | f, g, n + 1 => f 0 * g (n + 1) + conv (fun j => f (j + 1)) g n
theorem conv_congr : ∀ (n : Nat) {f f' g g' : Nat → Int}, (∀ i, i ≤ n → f i = f' i) → (∀ i, i ≤ n → g i = g' i) → conv f g n = conv f' g' n
  | 0, f, f', g, g', h1, h2 => by rw [conv, conv, h1 0 (by omega), h2 0 (by omega)]
  | n + 1, f, f', g, g', h1, h2 => by
    rw [conv, conv, h1 0 (by omega), h2 (n + 1) (by omega), conv_congr n (fun i hi => h1 (i + 1) (by omega)) fun i hi => h2 i (by omega)]
theorem conv_addL : ∀ (n : Nat) (f f' g : Nat → Int), conv (fun i => f i + f' i) g n = conv f g n + conv f' g n
  | 0, f, f', g => by simp only [conv]; grind
  | n + 1, f, f', g => by
    simp only [conv]
    rw [conv_addL n (fun j => f (j + 1)) (fun j => f' (j + 1)) g]; grind
theorem conv_mulL (c : Int) : ∀ (n : Nat) (f g : Nat → Int), conv (fun i => c * f i) g n = c * conv f g n
  | 0, f, g => by simp only [conv]; grind
  | n + 1, f, g => by
    simp only [conv]
    rw [conv_mulL c n (fun j => f (j + 1)) g]; grind
theorem conv_addR : ∀ (n : Nat) (f g g' : Nat → Int), conv f (fun i => g i + g' i) n = conv f g n + conv f g' n
  | 0, f, g, g' => by simp only [conv]; grind
  | n + 1, f, g, g' => by
    simp only [conv]
    rw [conv_addR n (fun j => f (j + 1)) g g']; grind
theorem conv_mulR (c : Int) : ∀ (n : Nat) (f g : Nat → Int), conv f (fun i => c * g i) n = c * conv f g n
  | 0, f, g => by simp only [conv]; grind
  | n + 1, f, g => by
    simp only [conv]
    rw [conv_mulR c n (fun j => f (j + 1)) g]; grind
theorem conv_last : ∀ (n : Nat) (f g : Nat → Int), conv f g (n + 1) = conv f (fun j => g (j + 1)) n + f (n + 1) * g 0
  | 0, f, g => by simp only [conv]
  | n + 1, f, g => by
    rw [conv, conv_last n (fun j => f (j + 1)) g, conv]; grind
theorem conv_comm : ∀ (n : Nat) (f g : Nat → Int), conv f g n = conv g f n
  | 0, f, g => by simp only [conv]; grind
  | n + 1, f, g => by rw [conv, conv_last, conv_comm n (fun j => f (j + 1)) g]; grind
theorem conv_assoc : ∀ (n : Nat) (f g h : Nat → Int), conv (conv f g) h n = conv f (conv g h) n
  | 0, f, g, h => by simp only [conv]; grind
  | n + 1, f, g, h => by
    rw [conv, show (fun j => conv f g (j + 1)) = fun j => f 0 * g (j + 1) + conv (fun j => f (j + 1)) g j from rfl, conv_addL n (fun j => f 0 * g (j + 1)) (conv (fun j => f (j + 1)) g) h,
      conv_mulL (f 0) n (fun j => g (j + 1)) h, conv_assoc n (fun j => f (j + 1)) g h]
    rw [show conv f (conv g h) (n + 1) = f 0 * conv g h (n + 1) + conv (fun j => f (j + 1)) (conv g h) n from rfl, show conv g h (n + 1) = g 0 * h (n + 1) + conv (fun j => g (j + 1)) h n from rfl]
    rw [show conv f g 0 = f 0 * g 0 from rfl]
    grind
def gt (xs : List Int) (i : Nat) : Int := xs.getD i 0
theorem gt_of {xs : List Int} {i : Nat} {x : Int} (h : xs[i]? = some x) : gt xs i = x := by unfold gt; simp [h]
def cv (xs ys : List Int) : List Int := (List.range (min xs.length ys.length)).map fun i => conv (gt xs) (gt ys) i
theorem cv_len (xs ys : List Int) : (cv xs ys).length = min xs.length ys.length := by unfold cv; simp
theorem cv_get {xs ys : List Int} {i : Nat} (h : i < min xs.length ys.length) : (cv xs ys)[i]? = some (conv (gt xs) (gt ys) i) := by
  unfold cv
  rw [List.getElem?_map, List.getElem?_range h]; rfl
theorem cv_comm (xs ys : List Int) : cv xs ys = cv ys xs := by
  unfold cv
  rw [Nat.min_comm]
  exact List.map_congr_left fun i _ => conv_comm _ _ _
theorem cv_assoc (xs ys zs : List Int) : cv (cv xs ys) zs = cv xs (cv ys zs) := by
  refine List.ext_getElem? fun i => ?_
  by_cases h : i < min (min xs.length ys.length) zs.length
  · rw [cv_get (by rw [cv_len]; exact h), cv_get (by rw [cv_len]; omega)]
    congr 1
    rw [conv_congr i (f' := conv (gt xs) (gt ys)) (g' := gt zs) (fun j hj => gt_of (cv_get (by omega))) fun _ _ => rfl,
      conv_congr i (f := gt xs) (f' := gt xs) (g := gt (cv ys zs)) (g' := conv (gt ys) (gt zs)) (fun _ _ => rfl) fun j hj => gt_of (cv_get (by omega))]
    exact conv_assoc _ _ _ _
  · rw [List.getElem?_eq_none (by rw [cv_len, cv_len]; omega), List.getElem?_eq_none (by rw [cv_len, cv_len]; omega)]
def mul (p q : P) : P := (p.1 * q.1, cv p.2 q.2)
theorem mul_pos {p q : P} (hp : 0 < p.1) (hq : 0 < q.1) : 0 < (mul p q).1 := Int.mul_pos hp hq
theorem mul_comm (p q : P) : mul p q = mul q p := by unfold mul; rw [cv_comm, Int.mul_comm]
theorem mul_assoc (p q r : P) : mul (mul p q) r = mul p (mul q r) := by
  unfold mul
  exact Prod.ext (Int.mul_assoc _ _ _) (cv_assoc _ _ _)
theorem gt_lt {xs : List Int} {i : Nat} (h : i < xs.length) : xs[i]? = some (gt xs i) := by unfold gt; simp [h]
theorem mul_Q {p p' q q' : P} (hp : Q p p') (hq : Q q q') : Q (mul p q) (mul p' q') := by
  have l1 := Q_len hp
  have l2 := Q_len hq
  refine Q_ext (by show (cv _ _).length = (cv _ _).length; rw [cv_len, cv_len, l1, l2]) fun i z z' h h' => ?_
  have hi : i < min p.2.length q.2.length := by
    have := (List.getElem?_eq_some_iff.mp h).1
    rwa [show (mul p q).2 = cv p.2 q.2 from rfl, cv_len] at this
  have h : (cv p.2 q.2)[i]? = some z := h
  have h' : (cv p'.2 q'.2)[i]? = some z' := h'
  rw [cv_get hi] at h
  rw [cv_get (by omega)] at h'
  cases h
  cases h'
  show conv (gt p.2) (gt q.2) i * (p'.1 * q'.1) = conv (gt p'.2) (gt q'.2) i * (p.1 * q.1)
  have a1 : ∀ j, j ≤ i → p'.1 * gt p.2 j = p.1 * gt p'.2 j := fun j hj => by
    have := Q_at hp (gt_lt (show j < p.2.length by omega)) (gt_lt (show j < p'.2.length by omega))
    grind
  have a2 : ∀ j, j ≤ i → q'.1 * gt q.2 j = q.1 * gt q'.2 j := fun j hj => by
    have := Q_at hq (gt_lt (show j < q.2.length by omega)) (gt_lt (show j < q'.2.length by omega))
    grind
  have e := conv_congr i (f := fun j => p'.1 * gt p.2 j) (f' := fun j => p.1 * gt p'.2 j) (g := fun j => q'.1 * gt q.2 j) (g' := fun j => q.1 * gt q'.2 j) a1 a2
  rw [conv_mulL, conv_mulR, conv_mulL, conv_mulR] at e
  grind
theorem mul_add (p q r : P) : Q (mul p (add q r)) (add (mul p q) (mul p r)) := by
  have lq : (add q r).2.length = min q.2.length r.2.length := add_len q r
  refine Q_ext (by rw [add_len]; show (cv _ _).length = min (cv _ _).length (cv _ _).length; rw [cv_len, cv_len, cv_len, lq]; omega) fun i z z' h h' => ?_
  have h : (cv p.2 (add q r).2)[i]? = some z := h
  have hi : i < min p.2.length (add q r).2.length := by
    have := (List.getElem?_eq_some_iff.mp h).1
    rwa [cv_len] at this
  rw [cv_get hi] at h
  cases h
  obtain ⟨x, y, h1, h2, rfl⟩ := add_get h'
  have h1 : (cv p.2 q.2)[i]? = some x := h1
  have h2 : (cv p.2 r.2)[i]? = some y := h2
  rw [cv_get (by omega)] at h1 h2
  cases h1
  cases h2
  show conv (gt p.2) (gt (add q r).2) i * (p.1 * q.1 * (p.1 * r.1)) = (conv (gt p.2) (gt q.2) i * (p.1 * r.1) + conv (gt p.2) (gt r.2) i * (p.1 * q.1)) * (p.1 * (q.1 * r.1))
  have a : ∀ j, j ≤ i → gt (add q r).2 j = r.1 * gt q.2 j + q.1 * gt r.2 j := fun j hj => by
    obtain ⟨x, y, z1, z2, z3⟩ := add_get (gt_lt (show j < (add q r).2.length by omega))
    rw [z3, gt_of z1, gt_of z2]; grind
  rw [conv_congr i (f' := gt p.2) (g' := fun j => r.1 * gt q.2 j + q.1 * gt r.2 j) (fun _ _ => rfl) a, conv_addR i (gt p.2) (fun j => r.1 * gt q.2 j) (fun j => q.1 * gt r.2 j), conv_mulR, conv_mulR]
  grind
/-! ### where two part -/
def apart (p q : P) : Option Nat := (List.zip p.2 q.2).findIdx? fun u => decide (u.1 * q.1 ≠ u.2 * p.1)
theorem apart_none {p q : P} (h : ∀ (i : Nat) (x y : Int), p.2[i]? = some x → q.2[i]? = some y → x * q.1 = y * p.1) : apart p q = none := by
  unfold apart
  rw [List.findIdx?_eq_none_iff]
  rintro ⟨x, y⟩ hu
  obtain ⟨i, hi⟩ := List.mem_iff_getElem?.mp hu
  rw [List.getElem?_zip_eq_some] at hi
  simp [h i x y hi.1 hi.2]
theorem fi_congr {α β : Type} {p : α → Bool} {p' : β → Bool} : ∀ {l : List α} {l' : List β}, l.length = l'.length → (∀ (i : Nat) (a : α) (b : β), l[i]? = some a → l'[i]? = some b → p a = p' b) → l.findIdx? p = l'.findIdx? p'
  | [], [], _, _ => rfl
  | [], _ :: _, h, _ => by cases h
  | _ :: _, [], h, _ => by cases h
  | a :: l, b :: l', h, k => by
    rw [List.findIdx?_cons, List.findIdx?_cons, k 0 a b rfl rfl, fi_congr (l := l) (l' := l') (by simpa using h) fun i x y h1 h2 => k (i + 1) x y (by simpa using h1) (by simpa using h2)]
theorem apart_Q {p p' q q' : P} (hp : Q p p') (hq : Q q q') (p1 : 0 < p.1) (p1' : 0 < p'.1) (q1 : 0 < q.1) (q1' : 0 < q'.1) : apart p q = apart p' q' := by
  unfold apart
  have l1 := Q_len hp
  have l2 := Q_len hq
  refine fi_congr (by simp [l1, l2]) fun i u u' h h' => ?_
  obtain ⟨a, b⟩ := u
  obtain ⟨a', b'⟩ := u'
  rw [List.getElem?_zip_eq_some] at h h'
  have e1 := Q_at hp h.1 h'.1
  have e2 := Q_at hq h.2 h'.2
  simp only at e1 e2
  have iff : a * q.1 = b * p.1 ↔ a' * q'.1 = b' * p'.1 := by
    constructor
    · intro h
      refine Int.eq_of_mul_eq_mul_right (a := p.1 * q.1) (by have := Int.mul_pos p1 q1; omega) ?_
      have : a' * q'.1 * (p.1 * q.1) = (a * q.1) * (p'.1 * q'.1) := by grind
      have : b' * p'.1 * (p.1 * q.1) = (b * p.1) * (p'.1 * q'.1) := by grind
      grind
    · intro h
      refine Int.eq_of_mul_eq_mul_right (a := p'.1 * q'.1) (by have := Int.mul_pos p1' q1'; omega) ?_
      have : a' * q'.1 * (p.1 * q.1) = (a * q.1) * (p'.1 * q'.1) := by grind
      have : b' * p'.1 * (p.1 * q.1) = (b * p.1) * (p'.1 * q'.1) := by grind
      grind
  simp [iff]
end Bg
/-! rows whose items are a number times an item of a row: spread, cut, twisted, shifted -/
namespace Bg
def lin (p : P) (c : Nat → Int) (f : Nat → Nat) (n : Nat) : P := (p.1, (List.range n).map fun i => c i * gt p.2 (f i))
theorem lin_len (p : P) (c : Nat → Int) (f : Nat → Nat) (n : Nat) : (lin p c f n).2.length = n := by unfold lin; simp
theorem lin_get {p : P} {c : Nat → Int} {f : Nat → Nat} {n i : Nat} (h : i < n) : (lin p c f n).2[i]? = some (c i * gt p.2 (f i)) := by unfold lin; simp [h]
theorem lin_gt {p : P} {c : Nat → Int} {f : Nat → Nat} {n i : Nat} (h : i < n) : gt (lin p c f n).2 i = c i * gt p.2 (f i) := gt_of (lin_get h)
theorem gt_out {xs : List Int} {i : Nat} (h : xs.length ≤ i) : gt xs i = 0 := by unfold gt; simp [List.getD_eq_getElem?_getD, List.getElem?_eq_none h]
theorem Q_gt {p q : P} (h : Q p q) (i : Nat) : gt p.2 i * q.1 = gt q.2 i * p.1 := by
  by_cases hi : i < p.2.length
  · exact Q_at h (gt_lt hi) (gt_lt (by rw [← Q_len h]; exact hi))
  · rw [gt_out (by omega), gt_out (by rw [← Q_len h]; omega), Int.zero_mul, Int.zero_mul]
theorem lin_Q {p q : P} (h : Q p q) (c : Nat → Int) (f : Nat → Nat) (n : Nat) : Q (lin p c f n) (lin q c f n) := by
  refine Q_ext (by rw [lin_len, lin_len]) fun i x y hx hy => ?_
  have hi : i < n := by
    have := (List.getElem?_eq_some_iff.mp hx).1
    rwa [lin_len] at this
  rw [lin_get hi] at hx hy
  cases hx
  cases hy
  have := Q_gt h (f i)
  show c i * gt p.2 (f i) * q.1 = c i * gt q.2 (f i) * p.1
  rw [Int.mul_assoc, this, Int.mul_assoc]
theorem lin_congr {p : P} {c c' : Nat → Int} {f f' : Nat → Nat} {n n' : Nat} (hn : n = n') (h : ∀ i, i < n → c i * gt p.2 (f i) = c' i * gt p.2 (f' i)) : lin p c f n = lin p c' f' n' := by
  subst hn
  unfold lin
  refine Prod.ext rfl (List.map_congr_left fun i hi => h i (List.mem_range.mp hi))
theorem lin_lin {p : P} {c c' : Nat → Int} {f f' : Nat → Nat} {n n' : Nat} (h : ∀ i, i < n' → f' i < n ∨ c' i = 0) : lin (lin p c f n) c' f' n' = lin p (fun i => c' i * c (f' i)) (fun i => f (f' i)) n' := by
  show ((p.1, _) : P) = (p.1, _)
  refine Prod.ext rfl (List.map_congr_left fun i hi => ?_)
  show c' i * gt (lin p c f n).2 (f' i) = _
  rcases h i (List.mem_range.mp hi) with q | q
  · rw [lin_gt q, Int.mul_assoc]
  · show c' i * _ = c' i * c (f' i) * _
    rw [q, Int.zero_mul, Int.zero_mul, Int.zero_mul]
/-- lowest terms between two deeds are as well left out -/
theorem R_lin {p : P} (hp : 0 < p.1) (c : Nat → Int) (f : Nat → Nat) (n : Nat) : R (lin (R p) c f n) = R (lin p c f n) := R_of (R_pos hp) hp (lin_Q (R_Q p) c f n)
theorem R_lin_lin {p : P} (hp : 0 < p.1) {c c' : Nat → Int} {f f' : Nat → Nat} {n n' : Nat} (h : ∀ i, i < n' → f' i < n ∨ c' i = 0) : R (lin (R (lin p c f n)) c' f' n') = R (lin p (fun i => c' i * c (f' i)) (fun i => f (f' i)) n') := by
  rw [R_lin (show 0 < (lin p c f n).1 from hp), lin_lin h]
theorem lin_bd {p : P} {c : Nat → Int} {f : Nat → Nat} {n : Nat} {b : Int} (hb : 0 < b) (h : ∀ t ∈ p.2, -b < t ∧ t < b) (hc : ∀ i, i < n → c i = 0 ∨ c i = 1 ∨ c i = -1) : ∀ t ∈ (lin p c f n).2, -b < t ∧ t < b := by
  intro t ht
  obtain ⟨i, hi, rfl⟩ := List.mem_map.mp ht
  have hg : -b < gt p.2 (f i) ∧ gt p.2 (f i) < b := by
    by_cases q : f i < p.2.length
    · exact h _ (List.mem_of_getElem? (gt_lt q))
    · rw [gt_out (by omega)]; omega
  generalize gt p.2 (f i) = g at *
  rcases hc i (List.mem_range.mp hi) with q | q | q <;> rw [q] <;> omega
/-! ### the four deeds -/
def dv (m i : Nat) : Int := if i % m = 0 then 1 else 0
def spr (p : P) (m : Nat) : P := lin p (dv m) (fun i => i / m) p.2.length
def cnt (n m : Nat) : Nat := (n - 1) / m + 1
def evy (p : P) (m : Nat) : P := lin p (fun _ => 1) (fun i => i * m) (cnt p.2.length m)
def twi (p : P) (k : Nat → Int) : P := lin p k id p.2.length
def shi (p : P) (s : Nat) : P := lin p (fun i => if i < s then 0 else 1) (fun i => i - s) (p.2.length + s)
theorem dv_dv (d e i : Nat) (he : 0 < e) : dv e i * dv d (i / e) = dv (d * e) i := by
  unfold dv
  by_cases h1 : i % e = 0
  · obtain ⟨j, rfl⟩ := Nat.dvd_of_mod_eq_zero h1
    rw [if_pos h1, Int.one_mul, Nat.mul_div_cancel_left j he, Nat.mul_comm d e, Nat.mul_mod_mul_left]
    have : e * (j % d) = 0 ↔ j % d = 0 := by rw [Nat.mul_eq_zero]; omega
    simp only [this]
  · rw [if_neg h1, Int.zero_mul, if_neg]
    intro z
    obtain ⟨j, rfl⟩ := Nat.dvd_of_mod_eq_zero z
    exact h1 (by rw [Nat.mul_comm d e, Nat.mul_assoc, Nat.mul_mod_right])
theorem spr_len (p : P) (m : Nat) : (spr p m).2.length = p.2.length := lin_len _ _ _ _
theorem spr_spr {p : P} (hp : 0 < p.1) {d e : Nat} (hd : 0 < d) (he : 0 < e) : R (spr (R (spr p d)) e) = R (spr p (d * e)) := by
  unfold spr
  rw [R_length, lin_len, R_lin_lin hp (fun i hi => .inl (Nat.lt_of_le_of_lt (Nat.div_le_self _ _) hi))]
  congr 1
  refine lin_congr rfl fun i hi => ?_
  rw [dv_dv d e i he, Nat.div_div_eq_div_mul, Nat.mul_comm e d]
theorem cnt_cnt {n d e : Nat} (hd : 0 < d) (he : 0 < e) : cnt (cnt n e) d = cnt n (d * e) := by
  unfold cnt
  rw [Nat.add_sub_cancel, Nat.div_div_eq_div_mul, Nat.mul_comm e d]
theorem cnt_lt {n m i : Nat} (hn : 0 < n) (h : i < cnt n m) : i * m < n := by
  unfold cnt at h
  have h1 : i * m ≤ (n - 1) / m * m := Nat.mul_le_mul_right _ (by omega)
  have h2 := Nat.div_mul_le_self (n - 1) m
  omega
theorem evy_evy {p : P} (hp : 0 < p.1) (hn : 0 < p.2.length) {d e : Nat} (hd : 0 < d) (he : 0 < e) : R (evy (R (evy p e)) d) = R (evy p (d * e)) := by
  unfold evy
  rw [R_length, lin_len, R_lin_lin hp (fun i hi => .inl (by
    have h1 : 0 < cnt p.2.length e := Nat.succ_pos _
    exact cnt_lt h1 hi)), cnt_cnt hd he]
  congr 1
  refine lin_congr rfl fun i hi => ?_
  rw [Nat.mul_assoc]; rfl
theorem evy_spr {p : P} (hp : 0 < p.1) (hn : 0 < p.2.length) {d : Nat} (hd : 0 < d) : R (evy (R (spr p d)) d) = R (p.1, p.2.take (cnt p.2.length d)) := by
  unfold evy spr
  rw [R_length, lin_len, R_lin_lin hp (fun i hi => .inl (cnt_lt hn hi))]
  congr 1
  refine Prod.ext rfl (List.ext_getElem? fun i => ?_)
  by_cases hi : i < cnt p.2.length d
  · have hl : i < p.2.length := by
      have := cnt_lt hn hi
      have : i * 1 ≤ i * d := Nat.mul_le_mul_left _ hd
      omega
    rw [lin_get hi, List.getElem?_take, if_pos hi, gt_lt hl]
    unfold dv
    rw [Nat.mul_mod_left, if_pos rfl, Nat.mul_div_cancel _ hd, Int.one_mul, Int.one_mul]
  · rw [List.getElem?_eq_none (by rw [lin_len]; omega), List.getElem?_take, if_neg hi]
theorem twi_twi {p : P} (hp : 0 < p.1) (j k : Nat → Int) : R (twi (R (twi p j)) k) = R (twi p fun i => k i * j i) := by
  unfold twi
  rw [R_length, lin_len]
  exact R_lin_lin (f := id) (f' := id) hp (fun i hi => .inl hi)
theorem twi_comm {p : P} (hp : 0 < p.1) (j k : Nat → Int) : R (twi (R (twi p j)) k) = R (twi (R (twi p k)) j) := by
  rw [twi_twi hp, twi_twi hp]
  congr 2
  exact funext fun i => Int.mul_comm _ _
/-- what a shifted row and zeros part at -/
theorem shi_get {p : P} {s i : Nat} : (shi p s).2[i]? = if i < s then some 0 else if i - s < p.2.length then some (gt p.2 (i - s)) else none := by
  unfold shi
  by_cases h : i < p.2.length + s
  · rw [lin_get h]
    by_cases q : i < s
    · rw [if_pos q, if_pos q, Int.zero_mul]
    · rw [if_neg q, if_neg q, if_pos (by omega), Int.one_mul]
  · rw [List.getElem?_eq_none (by rw [lin_len]; omega), if_neg (by omega), if_neg (by omega)]
theorem shi_eq (p : P) (s : Nat) : (shi p s).2 = List.replicate s 0 ++ p.2 := by
  refine List.ext_getElem? fun i => ?_
  rw [shi_get]
  by_cases q : i < s
  · rw [if_pos q, List.getElem?_append_left (by simpa using q)]
    simp [q]
  · rw [if_neg q, List.getElem?_append_right (by simpa using q), List.length_replicate]
    by_cases r : i - s < p.2.length
    · rw [if_pos r, gt_lt r]
    · rw [if_neg r, List.getElem?_eq_none (by omega)]
/-- the numbers from 0 on that m divides -/
theorem mult_range {m : Nat} (hm : 0 < m) : ∀ n : Nat, (List.range n).filter (fun i => decide (i % m = 0)) = (List.range ((n + m - 1) / m)).map fun k => k * m
  | 0 => by rw [show (0 + m - 1) / m = 0 from Nat.div_eq_of_lt (by omega)]; rfl
  | n + 1 => by
    rw [List.range_succ, List.filter_append, mult_range hm n]
    by_cases h : n % m = 0
    · obtain ⟨j, rfl⟩ := Nat.dvd_of_mod_eq_zero h
      have e1 : (m * j + m - 1) / m = j := by
        rw [show m * j + m - 1 = m * j + (m - 1) by omega, Nat.mul_add_div hm, Nat.div_eq_of_lt (by omega)]; rfl
      have e2 : (m * j + 1 + m - 1) / m = j + 1 := by
        rw [show m * j + 1 + m - 1 = m * (j + 1) by rw [Nat.mul_add]; omega, Nat.mul_div_cancel_left _ hm]
      rw [e1, e2, List.range_succ, List.map_append]
      simp [Nat.mul_comm]
    · have e : (n + 1 + m - 1) / m = (n + m - 1) / m := by
        have h1 := Nat.div_add_mod n m
        have h2 := Nat.mod_lt n hm
        generalize n / m = q at *
        generalize n % m = r at *
        rw [show n + 1 + m - 1 = m * (q + 1) + r by rw [Nat.mul_add]; omega, show n + m - 1 = m * (q + 1) + (r - 1) by rw [Nat.mul_add]; omega, Nat.mul_add_div hm, Nat.mul_add_div hm, Nat.div_eq_of_lt h2, Nat.div_eq_of_lt (by omega)]
      rw [e]
      simp [h]
theorem cnt_up {n m : Nat} (hn : 0 < n) (hm : 0 < m) : (n + m - 1) / m = cnt n m := by
  unfold cnt
  rw [show n + m - 1 = n - 1 + m by omega, Nat.add_div_right _ hm]
end Bg
/-! Powers of rows, and what undoes them. Plain Lean, no program in sight. -/
namespace Bg
theorem sumc' : ∀ (n : Nat) (f g : Nat → Int), ((List.range (n + 1)).map fun i => f i * g (n - i)).sum = conv f g n
  | 0, f, g => by simp [conv]
  | n + 1, f, g => by
    rw [List.range_succ_eq_map, List.map_cons, List.sum_cons, List.map_map, conv, ← sumc' n (fun j => f (j + 1)) g]
    congr 2
    refine List.map_congr_left fun i _ => ?_
    show f (i + 1) * g (n + 1 - (i + 1)) = f (i + 1) * g (n - i)
    rw [show n + 1 - (i + 1) = n - i by omega]
theorem list_gt {xs ys : List Int} (hl : xs.length = ys.length) (h : ∀ i, i < xs.length → gt xs i = gt ys i) : xs = ys := by
  refine List.ext_getElem? fun i => ?_
  by_cases hi : i < xs.length
  · rw [gt_lt hi, gt_lt (by omega), h i hi]
  · rw [List.getElem?_eq_none (by omega), List.getElem?_eq_none (by omega)]
def one (n : Nat) : List Int := (List.range n).map fun i => if i = 0 then 1 else 0
theorem one_len (n : Nat) : (one n).length = n := by simp [one]
theorem one_gt {n i : Nat} (h : i < n) : gt (one n) i = if i = 0 then 1 else 0 := gt_of (by unfold one; simp [h])
theorem conv_zeroL : ∀ (n : Nat) (g : Nat → Int), conv (fun _ => 0) g n = 0
  | 0, g => by simp [conv]
  | n + 1, g => by
    show (0 : Int) * g (n + 1) + conv (fun _ => 0) g n = 0
    rw [conv_zeroL n g]; simp
theorem conv_one : ∀ (n : Nat) (g : Nat → Int), conv (fun i => if i = 0 then 1 else 0) g n = g n
  | 0, g => by simp [conv]
  | n + 1, g => by
    show (if (0 : Nat) = 0 then (1 : Int) else 0) * g (n + 1) + conv (fun i => if i + 1 = 0 then 1 else 0) g n = _
    rw [conv_congr n (f' := fun _ => 0) (g' := g) (fun i _ => by simp) (fun _ _ => rfl), conv_zeroL]
    simp
theorem cv_gt {xs ys : List Int} {i : Nat} (h : i < min xs.length ys.length) : gt (cv xs ys) i = conv (gt xs) (gt ys) i := gt_of (cv_get h)
theorem one_cv {xs : List Int} {n : Nat} (h : xs.length = n) : cv (one n) xs = xs := by
  refine list_gt (by rw [cv_len, one_len]; omega) fun i hi => ?_
  rw [cv_len, one_len] at hi
  rw [cv_gt (by rw [one_len]; exact hi), conv_congr i (f' := fun i => if i = 0 then 1 else 0) (g' := gt xs) (fun j hj => one_gt (by omega)) (fun _ _ => rfl), conv_one]
def pw (xs : List Int) : Nat → List Int
  | 0 => one xs.length
  | k + 1 => cv (pw xs k) xs
theorem pw_len (xs : List Int) : ∀ k, (pw xs k).length = xs.length
  | 0 => one_len _
  | k + 1 => by rw [pw, cv_len, pw_len xs k]; omega
theorem pw_one (xs : List Int) : pw xs 1 = xs := one_cv rfl
theorem pw_add (xs : List Int) (a : Nat) : ∀ b, pw xs (a + b) = cv (pw xs a) (pw xs b)
  | 0 => by
    show pw xs a = cv (pw xs a) (one xs.length)
    rw [cv_comm, one_cv (pw_len xs a)]
  | b + 1 => by
    show cv (pw xs (a + b)) xs = cv (pw xs a) (cv (pw xs b) xs)
    rw [pw_add xs a b, cv_assoc]
theorem cv_swap (a b c d : List Int) : cv (cv a b) (cv c d) = cv (cv a c) (cv b d) := by
  rw [cv_assoc, cv_assoc, ← cv_assoc b c d, ← cv_assoc c b d, cv_comm b c]
theorem pw_cv {xs ys : List Int} (h : xs.length = ys.length) : ∀ k, pw (cv xs ys) k = cv (pw xs k) (pw ys k)
  | 0 => by
    show one (cv xs ys).length = cv (one xs.length) (one ys.length)
    rw [cv_len, one_cv (by rw [one_len]; exact h.symm)]
    congr 1
    omega
  | k + 1 => by
    show cv (pw (cv xs ys) k) (cv xs ys) = cv (cv (pw xs k) xs) (cv (pw ys k) ys)
    rw [pw_cv h k, cv_swap]
theorem pw_pw (xs : List Int) (a : Nat) : ∀ b, pw (pw xs a) b = pw xs (a * b)
  | 0 => by
    show one (pw xs a).length = one xs.length
    rw [pw_len]
  | b + 1 => by
    show cv (pw (pw xs a) b) (pw xs a) = _
    rw [pw_pw xs a b, Nat.mul_succ, pw_add]
theorem pw_two (xs : List Int) (k : Nat) : pw (cv xs xs) k = pw xs (2 * k) := by
  rw [pw_cv rfl, ← pw_add, Nat.two_mul]
theorem pw_ones (n : Nat) : ∀ k, pw (one n) k = one n
  | 0 => by show one (one n).length = _; rw [one_len]
  | k + 1 => by
    show cv (pw (one n) k) (one n) = _
    rw [pw_ones n k, one_cv (one_len n)]
theorem pw_inv {xs ys : List Int} (hl : xs.length = ys.length) (h : cv xs ys = one xs.length) (k : Nat) : cv (pw xs k) (pw ys k) = one xs.length := by
  rw [← pw_cv hl, h, pw_ones]
/-! sizes -/
def Bd (e : Nat) (xs : List Int) : Prop := ∀ t ∈ xs, t.natAbs < 2 ^ e
theorem Bd.mono {a b : Nat} {xs : List Int} (h : Bd a xs) (l : a ≤ b) : Bd b xs := fun t ht => Nat.lt_of_lt_of_le (h t ht) (Nat.pow_le_pow_right (by decide) l)
theorem Bd.gt {e : Nat} {xs : List Int} (h : Bd e xs) (i : Nat) : (gt xs i).natAbs < 2 ^ e := by
  by_cases hi : i < xs.length
  · exact h _ (List.mem_of_getElem? (gt_lt hi))
  · have : Bg.gt xs i = 0 := by unfold Bg.gt; simp [hi]
    rw [this]; exact Nat.two_pow_pos e
theorem conv_bits {a b : Nat} : ∀ (n : Nat) {f g : Nat → Int}, (∀ i, (f i).natAbs < 2 ^ a) → (∀ i, (g i).natAbs < 2 ^ b) → (conv f g n).natAbs ≤ (n + 1) * 2 ^ (a + b)
  | 0, f, g, hf, hg => by
    show (f 0 * g 0).natAbs ≤ _
    rw [Int.natAbs_mul, Nat.zero_add, Nat.one_mul, Nat.pow_add]
    exact Nat.mul_le_mul (Nat.le_of_lt (hf 0)) (Nat.le_of_lt (hg 0))
  | n + 1, f, g, hf, hg => by
    have r := conv_bits n (f := fun j => f (j + 1)) (g := g) (fun i => hf (i + 1)) hg
    show (f 0 * g (n + 1) + conv (fun j => f (j + 1)) g n).natAbs ≤ _
    have q : (f 0 * g (n + 1)).natAbs ≤ 2 ^ (a + b) := by
      rw [Int.natAbs_mul, Nat.pow_add]
      exact Nat.mul_le_mul (Nat.le_of_lt (hf 0)) (Nat.le_of_lt (hg _))
    have := Int.natAbs_add_le (f 0 * g (n + 1)) (conv (fun j => f (j + 1)) g n)
    rw [Nat.succ_mul (n + 1)]
    omega
theorem cv_Bd {a b : Nat} {xs ys : List Int} (hl : xs.length ≤ 512) (hx : Bd a xs) (hy : Bd b ys) : Bd (a + b + 10) (cv xs ys) := by
  intro t ht
  unfold cv at ht
  obtain ⟨i, hi, rfl⟩ := List.mem_map.mp ht
  have hi := List.mem_range.mp hi
  have h := conv_bits i hx.gt hy.gt
  have : (i + 1) * 2 ^ (a + b) ≤ 512 * 2 ^ (a + b) := Nat.mul_le_mul_right _ (by omega)
  have e : 2 ^ (a + b + 10) = 1024 * 2 ^ (a + b) := by rw [Nat.pow_add, Nat.mul_comm]
  have := Nat.two_pow_pos (a + b)
  omega
theorem one_Bd (n : Nat) : Bd 1 (one n) := by
  intro t ht
  unfold one at ht
  obtain ⟨i, _, rfl⟩ := List.mem_map.mp ht
  split <;> decide
theorem pw_Bd {e : Nat} {xs : List Int} (hl : xs.length ≤ 512) (h : Bd e xs) : ∀ k, Bd (k * (e + 10) + 1) (pw xs k)
  | 0 => (one_Bd _).mono (by omega)
  | k + 1 => (cv_Bd (by rw [pw_len]; exact hl) (pw_Bd hl h k) h).mono (by rw [Nat.succ_mul]; omega)
/-! what undoes a row -/
/-- the k-th sum of the undoing, from the terms before -/
def ivSum (c : Int) (t : Nat → Int) (l : List Int) (n : Nat) : Nat → Int
  | 0 => 0
  | k + 1 => ivSum c t l n k + t (k + 1) * gt l (n - (k + 1)) * c ^ k
def ivs (c : Int) (t : Nat → Int) : Nat → List Int
  | 0 => [1]
  | n + 1 => ivs c t n ++ [-(ivSum c t (ivs c t n) (n + 1) (n + 1))]
theorem ivs_len (c : Int) (t : Nat → Int) : ∀ n, (ivs c t n).length = n + 1
  | 0 => rfl
  | n + 1 => by rw [ivs, List.length_append, ivs_len c t n]; rfl
def iu (c : Int) (t : Nat → Int) (n : Nat) : Int := gt (ivs c t n) n
theorem gt_app {xs ys : List Int} {i : Nat} (h : i < xs.length) : gt (xs ++ ys) i = gt xs i := by
  unfold gt
  rw [List.getD_eq_getElem?_getD, List.getD_eq_getElem?_getD, List.getElem?_append_left h]
theorem ivs_gt (c : Int) (t : Nat → Int) : ∀ (n i : Nat), i ≤ n → gt (ivs c t n) i = iu c t i
  | 0, i, h => by rw [show i = 0 by omega]; rfl
  | n + 1, i, h => by
    by_cases z : i = n + 1
    · rw [z]; rfl
    · rw [ivs, gt_app (by rw [ivs_len]; omega), ivs_gt c t n i (by omega)]
theorem iu_zero (c : Int) (t : Nat → Int) : iu c t 0 = 1 := rfl
theorem iu_succ (c : Int) (t : Nat → Int) (n : Nat) : iu c t (n + 1) = -(ivSum c t (ivs c t n) (n + 1) (n + 1)) := by
  show gt (ivs c t (n + 1)) (n + 1) = _
  rw [ivs]
  unfold gt
  rw [List.getD_eq_getElem?_getD, List.getElem?_append_right (by rw [ivs_len]; exact Nat.le_refl _), ivs_len, Nat.sub_self]
  rfl
theorem ivSum_sum (c : Int) (t : Nat → Int) (n : Nat) : ∀ k, k ≤ n + 1 → ivSum c t (ivs c t n) (n + 1) k = ((List.range k).map fun i => t (i + 1) * iu c t (n - i) * c ^ i).sum
  | 0, _ => rfl
  | k + 1, h => by
    rw [ivSum, ivSum_sum c t n k (by omega), List.range_succ, List.map_append, List.sum_append, ivs_gt c t n _ (by omega), show n + 1 - (k + 1) = n - k by omega]
    simp
/-- the terms over a common bottom -/
def iw (c : Int) (t : Nat → Int) (N n : Nat) : Int := iu c t n * c ^ (N - 1 - n)
theorem lsum_zero {α : Type} (f g : α → Int) : ∀ l : List α, (l.map f).sum + (l.map g).sum = (l.map fun x => f x + g x).sum
  | [] => rfl
  | x :: l => by simp only [List.map_cons, List.sum_cons, ← lsum_zero f g l]; omega
theorem lsum_mul {α : Type} (c : Int) (f : α → Int) : ∀ l : List α, c * (l.map f).sum = (l.map fun x => c * f x).sum
  | [] => by simp
  | x :: l => by simp only [List.map_cons, List.sum_cons, ← lsum_mul c f l, Int.mul_add]
theorem iw_conv (c : Int) (t : Nat → Int) (ht : t 0 = c) {N n : Nat} (h : n < N) : conv t (iw c t N) n = if n = 0 then c ^ N else 0 := by
  cases n with
  | zero =>
    show t 0 * iw c t N 0 = _
    unfold iw
    rw [ht, iu_zero, Int.one_mul, if_pos rfl]
    obtain ⟨M, rfl⟩ : ∃ M, N = M + 1 := ⟨N - 1, by omega⟩
    show c * c ^ (M + 1 - 1 - 0) = c ^ (M + 1)
    rw [show M + 1 - 1 - 0 = M by omega, Int.pow_succ, Int.mul_comm]
  | succ n =>
    rw [if_neg (by omega)]
    show t 0 * iw c t N (n + 1) + conv (fun j => t (j + 1)) (iw c t N) n = 0
    rw [← sumc', ht]
    unfold iw
    rw [iu_succ, ivSum_sum c t n (n + 1) (Nat.le_refl _)]
    have e1 : c * (-((List.range (n + 1)).map fun i => t (i + 1) * iu c t (n - i) * c ^ i).sum * c ^ (N - 1 - (n + 1))) = (-(c * c ^ (N - 1 - (n + 1)))) * ((List.range (n + 1)).map fun i => t (i + 1) * iu c t (n - i) * c ^ i).sum := by grind
    rw [e1, lsum_mul, lsum_zero]
    have : (List.map (fun x => -(c * c ^ (N - 1 - (n + 1))) * (t (x + 1) * iu c t (n - x) * c ^ x) + t (x + 1) * (iu c t (n - x) * c ^ (N - 1 - (n - x)))) (List.range (n + 1))) = (List.range (n + 1)).map fun _ => (0 : Int) := by
      refine List.map_congr_left fun i hi => ?_
      have hi := List.mem_range.mp hi
      have p : c ^ (N - 1 - (n - i)) = c * c ^ (N - 1 - (n + 1)) * c ^ i := by
        rw [show N - 1 - (n - i) = (N - 1 - (n + 1)) + 1 + i by omega, Int.pow_add, Int.pow_succ, Int.mul_comm (c ^ (N - 1 - (n + 1))) c]
      rw [p]
      grind
    rw [this]
    clear this e1
    induction (List.range (n + 1)) with
    | nil => rfl
    | cons x l ih => rw [List.map_cons, List.sum_cons, ih]; rfl
theorem iu_bits {c : Int} {t : Nat → Int} {e : Nat} (hc : c.natAbs ≤ 2 ^ e) (ht : ∀ i, (t i).natAbs ≤ 2 ^ e) : ∀ n m : Nat, m ≤ n → (iu c t m).natAbs ≤ 2 ^ (m * (e + 1))
  | 0, m, h => by rw [show m = 0 by omega, iu_zero]; exact Nat.two_pow_pos _
  | n + 1, m, h => by
    by_cases z : m ≤ n
    · exact iu_bits hc ht n m z
    · have hm : m = n + 1 := by omega
      subst hm
      rw [iu_succ, ivSum_sum c t n (n + 1) (Nat.le_refl _), Int.natAbs_neg]
      have key : ∀ k, k ≤ n + 1 → (((List.range k).map fun i => t (i + 1) * iu c t (n - i) * c ^ i).sum).natAbs + 2 ^ ((n + 1) * e + (n + 1 - k)) ≤ 2 ^ ((n + 1) * e + (n + 1)) := by
        intro k
        induction k with
        | zero => intro _; simp
        | succ k ih =>
          intro hk
          have ih := ih (by omega)
          rw [List.range_succ, List.map_append, List.sum_append]
          simp only [List.map_cons, List.map_nil, List.sum_cons, List.sum_nil, Int.add_zero]
          have b1 := ht (k + 1)
          have b2 := iu_bits hc ht n (n - k) (by omega)
          have b3 : (c ^ k).natAbs ≤ 2 ^ (e * k) := by
            rw [Int.natAbs_pow, Nat.pow_mul]
            exact Nat.pow_le_pow_left hc k
          have b : (t (k + 1) * iu c t (n - k) * c ^ k).natAbs ≤ 2 ^ ((n + 1) * e + (n - k)) := by
            rw [Int.natAbs_mul, Int.natAbs_mul]
            refine Nat.le_trans (Nat.mul_le_mul (Nat.mul_le_mul b1 b2) b3) ?_
            rw [← Nat.pow_add, ← Nat.pow_add]
            refine Nat.pow_le_pow_right (by decide) ?_
            obtain ⟨d, hd⟩ : ∃ d, n = k + d := ⟨n - k, by omega⟩
            rw [hd, show k + d - k = d by omega]
            have : e + d * (e + 1) + e * k = (k + d + 1) * e + d := by
              rw [Nat.mul_succ, Nat.add_mul, Nat.add_mul, Nat.mul_comm e k]; omega
            omega
          have ab := Int.natAbs_add_le ((List.range k).map fun i => t (i + 1) * iu c t (n - i) * c ^ i).sum (t (k + 1) * iu c t (n - k) * c ^ k)
          have p2 : 2 ^ ((n + 1) * e + (n + 1 - k)) = 2 * 2 ^ ((n + 1) * e + (n - k)) := by
            rw [show (n + 1) * e + (n + 1 - k) = ((n + 1) * e + (n - k)) + 1 by omega, Nat.pow_succ, Nat.mul_comm]
          have p3 : n + 1 - (k + 1) = n - k := by omega
          rw [p3]
          omega
      have k2 := key (n + 1) (Nat.le_refl _)
      have : (n + 1) * (e + 1) = (n + 1) * e + (n + 1) := by rw [Nat.mul_succ]
      rw [this]
      exact Nat.le_trans (Nat.le_add_right _ _) k2
end Bg
namespace Bg
/-! whole powers of beginnings, up to a common factor -/
theorem Q.trans {p q r : P} (hq : 0 < q.1) (h : Q p q) (g : Q q r) : Q p r := Q_ext (by rw [Q_len h, Q_len g]) fun i x y hx hy => by
  have hi : i < q.2.length := by rw [← Q_len h]; exact (List.getElem?_eq_some_iff.mp hx).1
  have hz := gt_lt hi
  have e1 := Q_at h hx hz
  have e2 := Q_at g hz hy
  refine Int.eq_of_mul_eq_mul_right (Int.ne_of_gt hq) ?_
  calc x * r.1 * q.1 = x * q.1 * r.1 := Int.mul_right_comm _ _ _
    _ = gt q.2 i * p.1 * r.1 := by rw [e1]
    _ = gt q.2 i * r.1 * p.1 := Int.mul_right_comm _ _ _
    _ = y * q.1 * p.1 := by rw [e2]
    _ = y * p.1 * q.1 := Int.mul_right_comm _ _ _
def one1 (m : Nat) : P := (1, one m)
structure L (m : Nat) (p : P) : Prop where
  pos : 0 < p.1
  len : p.2.length = m
theorem L.mul {m : Nat} {p q : P} (h : L m p) (g : L m q) : L m (mul p q) := ⟨mul_pos h.pos g.pos, by show (cv p.2 q.2).length = m; rw [cv_len, h.len, g.len, Nat.min_self]⟩
theorem L.one (m : Nat) : L m (one1 m) := ⟨show (0 : Int) < 1 by decide, one_len m⟩
theorem L.R {m : Nat} {p : P} (h : L m p) : L m (R p) := ⟨R_pos h.pos, by rw [R_length]; exact h.len⟩
theorem mul_one1 {m : Nat} {p : P} (h : L m p) : Bg.mul p (one1 m) = p := by
  show (p.1 * 1, cv p.2 (Bg.one m)) = p
  rw [Int.mul_one, cv_comm, one_cv h.len]
def pwP (p : P) (k : Nat) : P := (p.1 ^ k, pw p.2 k)
theorem L.pwP {m : Nat} {p : P} (h : L m p) (k : Nat) : L m (pwP p k) := ⟨Int.pow_pos h.pos, by show (pw p.2 k).length = m; rw [pw_len]; exact h.len⟩
theorem pwP_zero {m : Nat} {p : P} (h : L m p) : Bg.pwP p 0 = one1 m := by
  show (p.1 ^ 0, pw p.2 0) = (1, Bg.one m)
  rw [Int.pow_zero, ← h.len]; rfl
theorem pwP_one (p : P) : Bg.pwP p 1 = p := by
  show (p.1 ^ 1, pw p.2 1) = p
  rw [Int.pow_succ, Int.pow_zero, Int.one_mul, pw_one]
theorem pwP_add (p : P) (a b : Nat) : Bg.pwP p (a + b) = Bg.mul (Bg.pwP p a) (Bg.pwP p b) := by
  show (p.1 ^ (a + b), pw p.2 (a + b)) = (p.1 ^ a * p.1 ^ b, cv (pw p.2 a) (pw p.2 b))
  rw [Int.pow_add, pw_add]
theorem pwP_mul {m : Nat} {p q : P} (h : L m p) (g : L m q) (k : Nat) : Bg.pwP (Bg.mul p q) k = Bg.mul (Bg.pwP p k) (Bg.pwP q k) := by
  show ((p.1 * q.1) ^ k, pw (cv p.2 q.2) k) = (p.1 ^ k * q.1 ^ k, cv (pw p.2 k) (pw q.2 k))
  rw [Int.mul_pow, pw_cv (by rw [h.len, g.len])]
theorem pwP_pwP (p : P) (a b : Nat) : Bg.pwP (Bg.pwP p a) b = Bg.pwP p (a * b) := by
  show ((p.1 ^ a) ^ b, pw (pw p.2 a) b) = (p.1 ^ (a * b), pw p.2 (a * b))
  rw [pw_pw, Int.pow_mul]
theorem pwP_one1 (m k : Nat) : Bg.pwP (one1 m) k = one1 m := by
  show ((1 : Int) ^ k, pw (Bg.one m) k) = (1, Bg.one m)
  rw [pw_ones, Int.one_pow]
theorem pwP_Q {m : Nat} {p q : P} (hp : L m p) (hq : L m q) (h : Q p q) : ∀ k, Q (Bg.pwP p k) (Bg.pwP q k)
  | 0 => by rw [pwP_zero hp, pwP_zero hq]; exact Q.rfl' _
  | k + 1 => by
    rw [pwP_add p k 1, pwP_add q k 1, pwP_one, pwP_one]
    exact mul_Q (pwP_Q hp hq h k) h
def I (m : Nat) (p v : P) : Prop := Q (Bg.mul p v) (one1 m)
theorem I.symm {m : Nat} {p v : P} (h : I m p v) : I m v p := by unfold I; rw [mul_comm]; exact h
theorem I.of {m : Nat} {p p' v v' : P} (hp : L m p) (hp' : L m p') (hv : L m v) (hv' : L m v') (h : I m p v) (a : Q p' p) (b : Q v' v) : I m p' v' := Q.trans (mul_pos hp.pos hv.pos) (mul_Q a b) h
theorem I.uniq {m : Nat} {p v w : P} (hp : L m p) (hv : L m v) (hw : L m w) (h : I m p v) (g : I m p w) : Q v w := by
  have e1 : Q (Bg.mul v (Bg.mul p w)) v := by
    have := mul_Q (Q.rfl' v) g
    rwa [mul_one1 hv] at this
  have e2 : Q (Bg.mul (Bg.mul p v) w) w := by
    have := mul_Q h (Q.rfl' w)
    rwa [mul_comm (one1 m), mul_one1 hw] at this
  rw [mul_comm p v, mul_assoc] at e2
  exact Q.trans (mul_pos hv.pos (mul_pos hp.pos hw.pos)) e1.symm e2
theorem I.pwP {m : Nat} {p v : P} (hp : L m p) (hv : L m v) (h : I m p v) (k : Nat) : I m (Bg.pwP p k) (Bg.pwP v k) := by
  unfold I
  rw [← pwP_mul hp hv]
  have := pwP_Q (hp.mul hv) (L.one m) h k
  rwa [pwP_one1] at this
def zp (p v : P) (z : Int) : P := if 0 ≤ z then Bg.pwP p z.toNat else Bg.pwP v (-z).toNat
theorem zp_nat (p v : P) (k : Nat) : zp p v (k : Int) = Bg.pwP p k := by
  unfold zp
  rw [if_pos (by omega)]; rfl
theorem zp_neg {m : Nat} {p v : P} (hp : L m p) (hv : L m v) (k : Nat) : zp p v (-(k : Int)) = Bg.pwP v k := by
  unfold zp
  split
  · have : k = 0 := by omega
    subst this
    show Bg.pwP p 0 = _
    rw [pwP_zero hp, pwP_zero hv]
  · rw [Int.neg_neg]; rfl
theorem zp_swap {m : Nat} {p v : P} (hp : L m p) (hv : L m v) (z : Int) : zp p v z = zp v p (-z) := by
  by_cases h : 0 ≤ z
  · obtain ⟨k, rfl⟩ := Int.eq_ofNat_of_zero_le h
    rw [zp_nat, zp_neg hv hp]
  · obtain ⟨k, hk⟩ := Int.eq_ofNat_of_zero_le (show 0 ≤ -z by omega)
    rw [show z = -(k : Int) by omega, zp_neg hp hv, Int.neg_neg, zp_nat]
theorem L.zp {m : Nat} {p v : P} (hp : L m p) (hv : L m v) (z : Int) : L m (zp p v z) := by
  unfold Bg.zp
  split
  · exact hp.pwP _
  · exact hv.pwP _
theorem zp_Q {m : Nat} {p v p' v' : P} (hp : L m p) (hv : L m v) (hp' : L m p') (hv' : L m v') (h : Q p p') (g : Q v v') (z : Int) : Q (zp p v z) (zp p' v' z) := by
  unfold zp
  split
  · exact pwP_Q hp hp' h _
  · exact pwP_Q hv hv' g _
theorem pv {m : Nat} {p v : P} (hp : L m p) (hv : L m v) (h : I m p v) {a b : Nat} (l : b ≤ a) : Q (Bg.mul (Bg.pwP p a) (Bg.pwP v b)) (Bg.pwP p (a - b)) := by
  obtain ⟨c, rfl⟩ := Nat.exists_eq_add_of_le l
  rw [show b + c - b = c by omega, Nat.add_comm b c, pwP_add, mul_assoc]
  have := mul_Q (Q.rfl' (Bg.pwP p c)) (I.pwP hp hv h b)
  rwa [mul_one1 (hp.pwP c)] at this
theorem zp_pv {m : Nat} {p v : P} (hp : L m p) (hv : L m v) (h : I m p v) (a b : Nat) : Q (Bg.mul (Bg.pwP p a) (Bg.pwP v b)) (zp p v ((a : Int) - (b : Int))) := by
  by_cases l : b ≤ a
  · rw [show (a : Int) - (b : Int) = ((a - b : Nat) : Int) by omega, zp_nat]
    exact pv hp hv h l
  · rw [show (a : Int) - (b : Int) = -((b - a : Nat) : Int) by omega, zp_neg hp hv, mul_comm]
    exact pv hv hp h.symm (by omega)
theorem zp_add {m : Nat} {p v : P} (hp : L m p) (hv : L m v) {i j : Int} (h : (0 ≤ i ∧ 0 ≤ j) ∨ I m p v) : Q (Bg.mul (zp p v i) (zp p v j)) (zp p v (i + j)) := by
  by_cases hi : 0 ≤ i <;> by_cases hj : 0 ≤ j
  · obtain ⟨a, rfl⟩ := Int.eq_ofNat_of_zero_le hi
    obtain ⟨b, rfl⟩ := Int.eq_ofNat_of_zero_le hj
    rw [show (a : Int) + (b : Int) = ((a + b : Nat) : Int) by omega, zp_nat, zp_nat, zp_nat, pwP_add]
    exact Q.rfl' _
  all_goals have g : I m p v := h.resolve_left fun z => by omega
  · obtain ⟨a, rfl⟩ := Int.eq_ofNat_of_zero_le hi
    obtain ⟨b, hb⟩ := Int.eq_ofNat_of_zero_le (show 0 ≤ -j by omega)
    rw [show j = -(b : Int) by omega, zp_nat, zp_neg hp hv]
    exact zp_pv hp hv g a b
  · obtain ⟨a, ha⟩ := Int.eq_ofNat_of_zero_le (show 0 ≤ -i by omega)
    obtain ⟨b, rfl⟩ := Int.eq_ofNat_of_zero_le hj
    rw [show i = -(a : Int) by omega, zp_nat, zp_neg hp hv, mul_comm, Int.add_comm]
    exact zp_pv hp hv g b a
  · obtain ⟨a, ha⟩ := Int.eq_ofNat_of_zero_le (show 0 ≤ -i by omega)
    obtain ⟨b, hb⟩ := Int.eq_ofNat_of_zero_le (show 0 ≤ -j by omega)
    rw [show i = -(a : Int) by omega, show j = -(b : Int) by omega, show -(a : Int) + -(b : Int) = -((a + b : Nat) : Int) by omega, zp_neg hp hv, zp_neg hp hv, zp_neg hp hv, pwP_add]
    exact Q.rfl' _
theorem zp_inv {m : Nat} {p v : P} (hp : L m p) (hv : L m v) (h : I m p v) (i : Int) : I m (zp p v i) (zp p v (-i)) := by
  have := zp_add hp hv (i := i) (j := -i) (.inr h)
  rw [show i + -i = ((0 : Nat) : Int) by omega, zp_nat, pwP_zero hp] at this
  exact this
theorem zp_zp {m : Nat} {p v : P} (hp : L m p) (hv : L m v) (i j : Int) : zp (zp p v i) (zp p v (-i)) j = zp p v (i * j) := by
  have nn : ∀ (p v : P) (hp : L m p) (hv : L m v) (i : Int) (b : Nat), Bg.pwP (zp p v i) b = zp p v (i * (b : Int)) := fun p v hp hv i b => by
    by_cases hi : 0 ≤ i
    · obtain ⟨a, rfl⟩ := Int.eq_ofNat_of_zero_le hi
      rw [zp_nat, pwP_pwP, ← Int.natCast_mul, zp_nat]
    · obtain ⟨a, ha⟩ := Int.eq_ofNat_of_zero_le (show 0 ≤ -i by omega)
      rw [show i = -(a : Int) by omega, zp_neg hp hv, pwP_pwP, Int.neg_mul, ← Int.natCast_mul, zp_neg hp hv]
  by_cases hj : 0 ≤ j
  · obtain ⟨b, rfl⟩ := Int.eq_ofNat_of_zero_le hj
    rw [zp_nat, nn p v hp hv]
  · obtain ⟨b, hb⟩ := Int.eq_ofNat_of_zero_le (show 0 ≤ -j by omega)
    rw [show j = -(b : Int) by omega, zp_neg (hp.zp hv i) (hp.zp hv (-i)), nn p v hp hv, Int.neg_mul, Int.mul_neg]
theorem zp_mul {m : Nat} {p v q w : P} (hp : L m p) (hv : L m v) (hq : L m q) (hw : L m w) (j : Int) : zp (Bg.mul p q) (Bg.mul v w) j = Bg.mul (zp p v j) (zp q w j) := by
  unfold zp
  split
  · exact pwP_mul hp hq _
  · exact pwP_mul hv hw _
theorem I.mul {m : Nat} {p v q w : P} (hp : L m p) (hv : L m v) (hq : L m q) (hw : L m w) (h : I m p v) (g : I m q w) : I m (Bg.mul p q) (Bg.mul v w) := by
  unfold I
  have e : Bg.mul (Bg.mul p q) (Bg.mul v w) = Bg.mul (Bg.mul p v) (Bg.mul q w) := by
    rw [mul_assoc, mul_assoc, ← mul_assoc q v w, mul_comm q v, mul_assoc v q w]
  rw [e]
  have := mul_Q h g
  rwa [mul_one1 (L.one m)] at this
end Bg
namespace K11
open PySem PyProof.Rows L2 Dn
def top (i : Nat) : Stmt := PySem.Challenge.pw_firstterms_k11_powers_and_what_undoes_th.main.body.getD i (.Pass ⟨0, 0, 0, 0⟩)
abbrev s_l_deck : Stmt := top 22
abbrev s_l_draw : Stmt := top 23
abbrev s_l_pick : Stmt := top 24
abbrev s_l_beginning : Stmt := top 25
abbrev s_is_integer : Stmt := top 8
abbrev s_is_beginning : Stmt := top 17
abbrev s_need_beginnings : Stmt := top 18
abbrev s_power_of : Stmt := top 10
abbrev s_common_divisor : Stmt := top 12
abbrev s_beginning_of : Stmt := top 13
abbrev s_series_product : Stmt := top 14
abbrev s_series_power : Stmt := top 15
abbrev s_series_inverse : Stmt := top 16
abbrev s_power : Stmt := top 20
abbrev s_multiplied : Stmt := top 19
abbrev s_l_is_short : Stmt := top 30
abbrev s_l_are_together : Stmt := top 33
abbrev s_l_reduced : Stmt := top 26
abbrev s_l_multiplied : Stmt := top 27
abbrev s_l_power : Stmt := top 28
abbrev s_l_is_refused : Stmt := top 32
abbrev s_l_is_lowest : Stmt := top 29
abbrev s_l_is_undone : Stmt := top 31
abbrev s_law : Stmt := top 34
/-! what each def computes -/
def w1_l_deck : SE := (asgS 1 (binE modS (callE gInt1 (consA (binE addS (binE addS (binE mulS (nameE [] 1) (cst (.int 48271))) (binE modS (callE gInt1 (consA (nameE [] 2) nilA)) (cst (.int 2147483629)))) (cst (.int 61))) nilA)) (cst (.int 2147483587))))
def d_l_deck : SE := (seqS (asgS 1 (cst (.int 10883211))) (seqS (forS (seqI (cutScrE 0 63)) (nameG 2) w1_l_deck) (retS (deckE true (unE gRev (callE gList (consA (cutScrE 0 63) nilA))) (nameE [] 1) (cst (.int 0))))))
def g_l_deck : List Int → Option S := bodyN 3 d_l_deck
def d_l_draw : SE := (seqS (putDrawsS 0 (binE addS (drawsE 0) (cst (.int 1)))) (seqS (asgS 2 (binE addS (mixedE 0) (binE mulS (cst (.int 61473)) (drawsE 0)))) (seqS (ifS (fun ρ => (cellsB 0 ρ).bind fun q => if (deckOf ρ 0).map Deck.ck = some true then some q else none) (seqS (asgS 3 (popCellE 0 true)) (seqS (ifS (truE (binE (gIntB fun i j => decide (j ≤ i)) (nameE [] 3) (binE gPow (cst (.int 10)) (cst (.int 18))))) (seqS (exprS (pushCellE true (consA (binE (gInt (fun _ j => decide (0 < j) && decide (j.natAbs.log2 < 9000)) fun i j => i / j) (nameE [] 3) (callE gMax2 (consA (cst (.int 2)) (consA (nameE [] 1) nilA)))) nilA))) (retS (binE modS (callE gInt1 (consA (nameE [] 3) nilA)) (nameE [] 1)))) nxS) (asgS 2 (binE addS (nameE [] 2) (binE modS (callE gInt1 (consA (nameE [] 3) nilA)) (cst (.int 2147483629))))))) nxS) (seqS (asgS 2 (binE modS (callE gInt1 (consA (binE addS (binE mulS (nameE [] 2) (cst (.int 39373))) (cst (.int 61))) nilA)) (cst (.int 2147483647)))) (seqS (asgS 2 (binE modS (callE gInt1 (consA (binE addS (binE addS (binE mulS (nameE [] 2) (nameE [] 2)) (binE mulS (cst (.int 52713)) (drawsE 0))) (cst (.int 45))) nilA)) (cst (.int 2147483587)))) (seqS (asgS 2 (binE modS (callE gInt1 (consA (binE mulS (nameE [] 2) (cst (.int 40692))) nilA)) (cst (.int 2147483563)))) (retS (binE modS (callE gInt1 (consA (binE (gInt (fun _ j => decide (0 < j) && decide (j.natAbs.log2 < 9000)) fun i j => i / j) (nameE [] 2) (cst (.int 64))) nilA)) (nameE [] 1)))))))))
def g_l_draw : Dn.Deck → List PyData → Option (S × Dn.Deck) := bodyK 4 1 d_l_draw
def d_l_pick : SE := (retS (binE gIx (nameE [] 1) (callK g_l_draw (consA (nameE [] 0) (consA (callE gLen (consA (nameE [] 1) nilA)) nilA)))))
def g_l_pick : Dn.Deck → List PyData → Option (S × Dn.Deck) := bodyK 2 1 d_l_pick
def e1_l_beginning : EE := (binE mulS (binE (gInt0 fun i j => i - j) (callK g_l_draw (consA (nameE [7, 8] 0) (consA (cst (.int 7)) nilA))) (cst (.int 3))) (ifE (truE (binE (gIntB fun i j => decide (i < j)) (callK g_l_draw (consA (nameE [7, 8] 0) (consA (cst (.int 3)) nilA))) (nameE [7, 8] 2))) (cst (.int 0)) (cst (.int 1))))
def e2_l_beginning : EE := (binE mulS (nameE [7, 8] 3) (nameE [7, 8] 8))
def d_l_beginning : SE := (seqS (asgG (tupG (consG 2 (consG 3 nilG))) (tupE (consA (callK g_l_draw (consA (nameE [7, 8] 0) (consA (cst (.int 3)) nilA))) (consA (binE addS (cst (.int 1)) (callK g_l_draw (consA (nameE [7, 8] 0) (consA (cst (.int 3)) nilA)))) nilA)))) (seqS (asgS 4 (callK g_l_pick (consA (nameE [7, 8] 0) (consA (lstE (consA (cst (.int 1)) (consA (cst (.int 1)) (consA (cst (.int 2)) (consA (cst (.int 3)) nilA))))) nilA)))) (seqS (asgS 5 (ifE (truE (binE (gIntB fun i j => decide (j < i)) (nameE [7, 8] 1) (cst (.int 60)))) (nameE [7, 8] 1) (binE addS (cst (.int 1)) (callK g_l_draw (consA (nameE [7, 8] 0) (consA (nameE [7, 8] 1) nilA)))))) (seqS (asgS 6 (lcE [7] (rng1I (consA (nameE [7, 8] 5) nilA)) (nameG 7) yesB e1_l_beginning)) (seqS (setIxS 6 (callK g_l_pick (consA (nameE [7, 8] 0) (consA (lstE (consA (nameE [7, 8] 4) (consA (unE gNeg (nameE [7, 8] 4)) (consA (nameE [7, 8] 4) (consA (cst (.int 0)) (consA (binE (gInt0 fun i j => i - j) (callK g_l_draw (consA (nameE [7, 8] 0) (consA (cst (.int 9)) nilA))) (cst (.int 4))) nilA)))))) nilA))) (cst (.int 0))) (retS (tupE (consA (binE mulS (nameE [7, 8] 3) (nameE [7, 8] 4)) (consA (callE gTuple (consA (lcE [8] (seqI (nameE [7, 8] 6)) (nameG 8) yesB e2_l_beginning) nilA)) nilA)))))))))
def g_l_beginning : Dn.Deck → List PyData → Option (S × Dn.Deck) := bodyK 9 1 d_l_beginning
def d_is_integer : SE := (retS (andE (isiE isInt (nameE [] 0)) (unE gNot (isiE isBool (nameE [] 0)))))
def g_is_integer : List PyData → Option S := bodyG 1 1 d_is_integer
def e1_is_beginning : EE := (callF g_is_integer (consA (nameE [1] 1) nilA))
def d_is_beginning : SE := (seqS (ifS (orB (notB (truE (isiE isTup (nameE [1] 0)))) (orB (truE (binE (eqS true) (callE gLen (consA (nameE [1] 0) nilA)) (cst (.int 2)))) (orB (notB (truE (callF g_is_integer (consA (binE gIx (nameE [1] 0) (cst (.int 0))) nilA)))) (truE (binE (gIntB fun i j => decide (i < j)) (binE gIx (nameE [1] 0) (cst (.int 0))) (cst (.int 1))))))) (retS (cst (.bool false))) nxS) (seqS (ifS (orB (notB (truE (isiE isTup (binE gIx (nameE [1] 0) (cst (.int 1)))))) (notB (truE (chainE (gIntB fun i j => decide (i ≤ j)) (gIntB fun i j => decide (i ≤ j)) (cst (.int 1)) (callE gLen (consA (binE gIx (nameE [1] 0) (cst (.int 1))) nilA)) (cst (.int 400)))))) (retS (cst (.bool false))) nxS) (retS (callE gAll (consA (lcE [1] (anyI (binE gIx (nameE [1] 0) (cst (.int 1)))) (nameG 1) yesB e1_is_beginning) nilA)))))
def g_is_beginning : List PyData → Option S := bodyG 2 1 d_is_beginning
def w1_need_beginnings : SE := (ifS (notB (truE (callF g_is_beginning (consA (nameE [] 1) nilA)))) neverS nxS)
def d_need_beginnings : SE := (forS (anyI (nameE [] 0)) (nameG 1) w1_need_beginnings)
def g_need_beginnings : List PyData → Option S := bodyG 2 1 d_need_beginnings
def t1_power_of : BE := (truE (binE (gIntB fun i j => decide (j < i)) (nameE [] 1) (cst (.int 0))))
def w2_power_of : SE := (seqS (ifS (truE (binE (eqS false) (binE modS (nameE [] 1) (cst (.int 2))) (cst (.int 1)))) (asgS 2 (binE mulS (nameE [] 2) (nameE [] 3))) nxS) (seqS (asgS 3 (binE mulS (nameE [] 3) (nameE [] 3))) (asgS 1 (binE (gInt (fun _ j => decide (0 < j) && decide (j.natAbs.log2 < 9000)) fun i j => i / j) (nameE [] 1) (cst (.int 2))))))
def d_power_of : SE := (seqS (par2S 2 3 (consA (cst (.int 1)) (consA (nameE [] 0) nilA))) (seqS (whileS t1_power_of w2_power_of) (retS (nameE [] 2))))
def g_power_of : List PyData → Option S := bodyG 4 2 d_power_of
def w1_common_divisor : SE := (seqS (ifS (truE (binE (eqS false) (nameE [] 2) (cst (.int 1)))) (retS (cst (.int 1))) nxS) (asgS 2 (callE gGcd (consA (nameE [] 2) (consA (nameE [] 3) nilA)))))
def d_common_divisor : SE := (seqS (asgS 2 (nameE [] 1)) (seqS (forS (anyI (nameE [] 0)) (nameG 3) w1_common_divisor) (retS (nameE [] 2))))
def g_common_divisor : List PyData → Option S := bodyG 4 2 d_common_divisor
def e1_beginning_of : EE := (binE fdP (nameE [3] 3) (nameE [3] 2))
def d_beginning_of : SE := (seqS (asgS 2 (callF g_common_divisor (consA (nameE [3] 1) (consA (nameE [3] 0) nilA)))) (retS (tupE (consA (binE fdP (nameE [3] 0) (nameE [3] 2)) (consA (callE gTuple (consA (lcE [3] (anyI (nameE [3] 1)) (nameG 3) yesB e1_beginning_of) nilA)) nilA)))))
def g_beginning_of : List PyData → Option S := bodyG 4 2 d_beginning_of
def w1_series_product : SE := (augIxS 3 (fun i j => i + j) (binE addS (nameE [] 4) (nameE [] 6)) (binE mulS (nameE [] 5) (binE gIx (nameE [] 1) (nameE [] 6))))
def w2_series_product : SE := (seqS (asgS 5 (binE gIx (nameE [] 0) (nameE [] 4))) (ifS (truE (binE (eqS true) (nameE [] 5) (cst (.int 0)))) (forS (rng1I (consA (binE (gInt0 fun i j => i - j) (nameE [] 2) (nameE [] 4)) nilA)) (nameG 6) w1_series_product) nxS))
def d_series_product : SE := (seqS (asgS 2 (callE gMin2 (consA (callE gLen (consA (nameE [] 0) nilA)) (consA (callE gLen (consA (nameE [] 1) nilA)) nilA)))) (seqS (asgS 3 (binE mulS (lstE (consA (cst (.int 0)) nilA)) (nameE [] 2))) (seqS (forS (rng1I (consA (nameE [] 2) nilA)) (nameG 4) w2_series_product) (retS (nameE [] 3)))))
def g_series_product : List PyData → Option S := bodyG 7 2 d_series_product
def t1_series_power : BE := (truE (binE (gIntB fun i j => decide (j < i)) (nameE [] 1) (cst (.int 0))))
def w2_series_power : SE := (seqS (ifS (truE (binE (eqS false) (binE modS (nameE [] 1) (cst (.int 2))) (cst (.int 1)))) (asgS 2 (callF g_series_product (consA (nameE [] 2) (consA (nameE [] 3) nilA)))) nxS) (seqS (asgS 1 (binE (gInt (fun _ j => decide (0 < j) && decide (j.natAbs.log2 < 9000)) fun i j => i / j) (nameE [] 1) (cst (.int 2)))) (ifS (truE (binE (gIntB fun i j => decide (j < i)) (nameE [] 1) (cst (.int 0)))) (asgS 3 (callF g_series_product (consA (nameE [] 3) (consA (nameE [] 3) nilA)))) nxS)))
def d_series_power : SE := (seqS (asgS 2 (binE addS (lstE (consA (cst (.int 1)) nilA)) (binE mulS (lstE (consA (cst (.int 0)) nilA)) (binE (gInt0 fun i j => i - j) (callE gLen (consA (nameE [] 0) nilA)) (cst (.int 1)))))) (seqS (asgS 3 (callE gList (consA (nameE [] 0) nilA))) (seqS (whileS t1_series_power w2_series_power) (retS (nameE [] 2)))))
def g_series_power : List PyData → Option S := bodyG 4 2 d_series_power
def w1_series_inverse : SE := (seqS (augS 4 (gInt0 fun i j => i + j) (binE mulS (binE mulS (binE gIx (nameE [] 0) (nameE [] 6)) (binE gIx (nameE [] 2) (binE (gInt0 fun i j => i - j) (nameE [] 3) (nameE [] 6)))) (nameE [] 5))) (asgS 5 (binE mulS (nameE [] 5) (nameE [] 1))))
def w2_series_inverse : SE := (seqS (asgG (tupG (consG 4 (consG 5 nilG))) (tupE (consA (cst (.int 0)) (consA (cst (.int 1)) nilA)))) (seqS (forS (rng2I (consA (cst (.int 1)) (consA (binE addS (nameE [] 3) (cst (.int 1))) nilA))) (nameG 6) w1_series_inverse) (exprS (appendE 2 (consA (unE gNeg (nameE [] 4)) nilA)))))
def d_series_inverse : SE := (seqS (par2S 1 2 (consA (binE gIx (nameE [] 0) (cst (.int 0))) (consA (lstE (consA (cst (.int 1)) nilA)) nilA))) (seqS (forS (rng2I (consA (cst (.int 1)) (consA (callE gLen (consA (nameE [] 0) nilA)) nilA))) (nameG 3) w2_series_inverse) (retS (nameE [] 2))))
def g_series_inverse : List PyData → Option S := bodyG 7 1 d_series_inverse
def e1_power : EE := (binE mulS (nameE [10, 11] 11) (callF g_power_of (consA (nameE [10, 11] 4) (consA (binE (gInt0 fun i j => i - j) (binE (gInt0 fun i j => i - j) (nameE [10, 11] 5) (cst (.int 1))) (nameE [10, 11] 10)) nilA))))
def e2_power : EE := (binE mulS (binE mulS (nameE [10, 11] 8) (nameE [10, 11] 2)) (nameE [10, 11] 11))
def d_power : SE := (seqS (exprS (callF g_need_beginnings (consA (tupE (consA (nameE [10, 11] 0) nilA)) nilA))) (seqS (ifS (notB (truE (callF g_is_integer (consA (nameE [10, 11] 1) nilA)))) neverS nxS) (seqS (asgG (tupG (consG 2 (consG 3 nilG))) (nameE [10, 11] 0)) (seqS (ifS (truE (binE (gIntB fun i j => decide (j ≤ i)) (nameE [10, 11] 1) (cst (.int 0)))) (retS (callF g_beginning_of (consA (callF g_power_of (consA (nameE [10, 11] 2) (consA (nameE [10, 11] 1) nilA))) (consA (callF g_series_power (consA (nameE [10, 11] 3) (consA (nameE [10, 11] 1) nilA))) nilA)))) nxS) (seqS (ifS (truE (binE (eqS false) (binE gIx (nameE [10, 11] 3) (cst (.int 0))) (cst (.int 0)))) neverS nxS) (seqS (asgG (tupG (consG 4 (consG 5 nilG))) (tupE (consA (binE gIx (nameE [10, 11] 3) (cst (.int 0))) (consA (callE gLen (consA (nameE [10, 11] 3) nilA)) nilA)))) (seqS (asgS 6 (lcE [10, 11] (enumTI (consA (callF g_series_inverse (consA (nameE [10, 11] 3) nilA)) nilA)) (tupG (consG 10 (consG 11 nilG))) yesB e1_power)) (seqS (asgS 7 (callF g_power_of (consA (nameE [10, 11] 4) (consA (nameE [10, 11] 5) nilA)))) (seqS (asgS 8 (ifE (truE (binE (gIntB fun i j => decide (i < j)) (nameE [10, 11] 7) (cst (.int 0)))) (unE gNeg (cst (.int 1))) (cst (.int 1)))) (seqS (asgS 9 (callF g_beginning_of (consA (binE mulS (nameE [10, 11] 8) (nameE [10, 11] 7)) (consA (lcE [11] (seqI (nameE [10, 11] 6)) (nameG 11) yesB e2_power) nilA)))) (retS (callF g_beginning_of (consA (callF g_power_of (consA (binE gIx (nameE [10, 11] 9) (cst (.int 0))) (consA (unE gNeg (nameE [10, 11] 1)) nilA))) (consA (callF g_series_power (consA (binE gIx (nameE [10, 11] 9) (cst (.int 1))) (consA (unE gNeg (nameE [10, 11] 1)) nilA))) nilA))))))))))))))
def g_power : List PyData → Option S := bodyG 12 2 d_power
def dx_power : XS := (seqX (exprS (callF g_need_beginnings (consA (tupE (consA (nameE [10, 11] 0) nilA)) nilA))) (seqX (ifS (notB (truE (callF g_is_integer (consA (nameE [10, 11] 1) nilA)))) neverS nxS) (seqX (asgG (tupG (consG 2 (consG 3 nilG))) (nameE [10, 11] 0)) (seqX (ifS (truE (binE (gIntB fun i j => decide (j ≤ i)) (nameE [10, 11] 1) (cst (.int 0)))) (retS (callF g_beginning_of (consA (callF g_power_of (consA (nameE [10, 11] 2) (consA (nameE [10, 11] 1) nilA))) (consA (callF g_series_power (consA (nameE [10, 11] 3) (consA (nameE [10, 11] 1) nilA))) nilA)))) nxS) (ifX (truE (binE (eqS false) (binE gIx (nameE [10, 11] 3) (cst (.int 0))) (cst (.int 0)))) (raiseX "DividedByZero") neverX)))))
def x_power : List PyData → Option Exn := bodyX 12 2 dx_power
def d_multiplied : SE := (seqS (exprS (callF g_need_beginnings (consA (tupE (consA (nameE [] 0) (consA (nameE [] 1) nilA))) nilA))) (retS (callF g_beginning_of (consA (binE mulS (binE gIx (nameE [] 0) (cst (.int 0))) (binE gIx (nameE [] 1) (cst (.int 0)))) (consA (callF g_series_product (consA (binE gIx (nameE [] 0) (cst (.int 1))) (consA (binE gIx (nameE [] 1) (cst (.int 1))) nilA))) nilA)))))
def g_multiplied : List PyData → Option S := bodyG 2 2 d_multiplied
def e1_l_is_short : EE := (callE gAbs (consA (nameE [1] 1) nilA))
def d_l_is_short : SE := (retS (binE (gIntB fun i j => decide (i < j)) (callE gMax (consA (binE addS (lcE [1] (anyI (binE gIx (nameE [1] 0) (cst (.int 1)))) (nameG 1) yesB e1_l_is_short) (lstE (consA (binE gIx (nameE [1] 0) (cst (.int 0))) nilA))) nilA)) (binE gPow (cst (.int 10)) (cst (.int 30)))))
def g_l_is_short : List PyData → Option S := bodyG 2 1 d_l_is_short
def d_l_are_together : SE := (seqS (par2S 4 5 (consA (callF g_power (consA (nameE [] 0) (consA (nameE [] 2) nilA))) (consA (callF g_power (consA (nameE [] 0) (consA (nameE [] 3) nilA))) nilA))) (seqS (ifS (andB (truE (callF g_l_is_short (consA (nameE [] 4) nilA))) (andB (truE (callF g_l_is_short (consA (nameE [] 5) nilA))) (andB (truE (binE (gIntB fun i j => decide (i < j)) (callE gAbs (consA (binE addS (nameE [] 2) (nameE [] 3)) nilA)) (cst (.int 25)))) (truE (reprQ true (callF g_multiplied (consA (nameE [] 4) (consA (nameE [] 5) nilA))) (callF g_power (consA (nameE [] 0) (consA (binE addS (nameE [] 2) (nameE [] 3)) nilA)))))))) (retS (cst (.bool false))) nxS) (seqS (ifS (andB (truE (callF g_l_is_short (consA (nameE [] 4) nilA))) (andB (truE (binE (gIntB fun i j => decide (i < j)) (callE gAbs (consA (binE mulS (nameE [] 2) (nameE [] 3)) nilA)) (cst (.int 25)))) (truE (reprQ true (callF g_power (consA (nameE [] 4) (consA (nameE [] 3) nilA))) (callF g_power (consA (nameE [] 0) (consA (binE mulS (nameE [] 2) (nameE [] 3)) nilA))))))) (retS (cst (.bool false))) nxS) (seqS (asgS 6 (callF g_multiplied (consA (nameE [] 0) (consA (nameE [] 1) nilA)))) (seqS (ifS (orB (truE (binE (eqS true) (callE gLen (consA (binE gIx (nameE [] 0) (cst (.int 1))) nilA)) (callE gLen (consA (binE gIx (nameE [] 1) (cst (.int 1))) nilA)))) (notB (truE (callF g_l_is_short (consA (nameE [] 6) nilA))))) (retS (cst (.bool true))) nxS) (seqS (asgS 7 (callF g_power (consA (nameE [] 1) (consA (nameE [] 2) nilA)))) (seqS (ifS (orB (notB (truE (callF g_l_is_short (consA (nameE [] 4) nilA)))) (notB (truE (callF g_l_is_short (consA (nameE [] 7) nilA))))) (retS (cst (.bool true))) nxS) (retS (reprQ false (callF g_multiplied (consA (nameE [] 4) (consA (nameE [] 7) nilA))) (callF g_power (consA (nameE [] 6) (consA (nameE [] 2) nilA))))))))))))
def g_l_are_together : List PyData → Option S := bodyG 8 4 d_l_are_together
def t1_l_reduced : BE := (truE (binE (eqS true) (nameE [3] 5) (cst (.int 0))))
def w2_l_reduced : SE := (par2S 4 5 (consA (nameE [3] 5) (consA (binE modS (callE gInt1 (consA (nameE [3] 4) nilA)) (nameE [3] 5)) nilA)))
def w3_l_reduced : SE := (seqS (par2S 4 5 (consA (nameE [3] 2) (consA (callE gAbs (consA (nameE [3] 3) nilA)) nilA))) (seqS (whileS t1_l_reduced w2_l_reduced) (asgS 2 (nameE [3] 4))))
def e4_l_reduced : EE := (binE (gInt (fun _ j => decide (0 < j) && decide (j.natAbs.log2 < 9000)) fun i j => i / j) (nameE [3] 3) (nameE [3] 2))
def d_l_reduced : SE := (seqS (asgS 2 (nameE [3] 0)) (seqS (forS (anyI (nameE [3] 1)) (nameG 3) w3_l_reduced) (retS (tupE (consA (binE (gInt (fun _ j => decide (0 < j) && decide (j.natAbs.log2 < 9000)) fun i j => i / j) (nameE [3] 0) (nameE [3] 2)) (consA (callE gTuple (consA (lcL 3 (anyI (nameE [3] 1)) (nameG 3) yesB e4_l_reduced) nilA)) nilA))))))
def g_l_reduced : List PyData → Option S := bodyG 6 2 d_l_reduced
def e1_l_multiplied : EE := (binE mulS (binE gIx (binE gIx (nameE [4, 5] 0) (cst (.int 1))) (nameE [4, 5] 5)) (binE gIx (binE gIx (nameE [4, 5] 1) (cst (.int 1))) (binE (gInt0 fun i j => i - j) (nameE [4, 5] 4) (nameE [4, 5] 5))))
def e2_l_multiplied : EE := (callE gSum (consA (lcE [5] (rng1I (consA (binE addS (nameE [4, 5] 4) (cst (.int 1))) nilA)) (nameG 5) yesB e1_l_multiplied) nilA))
def d_l_multiplied : SE := (seqS (asgS 2 (callE gLen (consA (binE gIx (nameE [4, 5] 0) (cst (.int 1))) nilA))) (seqS (asgS 3 (lcE [4] (rng1I (consA (nameE [4, 5] 2) nilA)) (nameG 4) yesB e2_l_multiplied)) (retS (callF g_l_reduced (consA (binE mulS (binE gIx (nameE [4, 5] 0) (cst (.int 0))) (binE gIx (nameE [4, 5] 1) (cst (.int 0)))) (consA (nameE [4, 5] 3) nilA))))))
def g_l_multiplied : List PyData → Option S := bodyG 6 2 d_l_multiplied
def w1_l_power : SE := (asgS 2 (callF g_l_multiplied (consA (nameE [] 2) (consA (nameE [] 0) nilA))))
def d_l_power : SE := (seqS (asgS 2 (tupE (consA (cst (.int 1)) (consA (binE addS (tupE (consA (cst (.int 1)) nilA)) (binE mulT (tupE (consA (cst (.int 0)) nilA)) (binE (gInt0 fun i j => i - j) (callE gLen (consA (binE gIx (nameE [] 0) (cst (.int 1))) nilA)) (cst (.int 1))))) nilA)))) (seqS (forS (rng1I (consA (nameE [] 1) nilA)) (nameG 3) w1_l_power) (retS (nameE [] 2))))
def g_l_power : List PyData → Option S := bodyG 4 2 d_l_power
def d_l_is_refused : SE := (seqS (tryS (ifS (truE (binE (eqS false) (nameE [] 2) (cst (.int 0)))) (exprS (callF g_power (consA (nameE [] 0) (consA (nameE [] 1) nilA)))) (exprS (callFk g_power 2 [1, 0] (consA (nameE [] 1) (consA (nameE [] 0) nilA))))) (ifX (truE (binE (eqS false) (nameE [] 2) (cst (.int 0)))) (callX x_power (consA (nameE [] 0) (consA (nameE [] 1) nilA))) (callXk x_power 2 [1, 0] (consA (nameE [] 1) (consA (nameE [] 0) nilA)))) ["DividedByZero"] (retS (cst (.bool true)))) (retS (cst (.bool false))))
def g_l_is_refused : List PyData → Option S := bodyG 3 3 d_l_is_refused
def t1_l_is_lowest : BE := (orB (notB (truE (isiE isInt (nameE [2] 2)))) (truE (isiE isBool (nameE [2] 2))))
def e2_l_is_lowest : EE := (nameE [2] 2)
def d_l_is_lowest : SE := (seqS (ifS (orB (notB (truE (isiE isTup (nameE [2] 0)))) (orB (truE (binE (eqS true) (callE gLen (consA (nameE [2] 0) nilA)) (cst (.int 2)))) (orB (notB (truE (isiE isTup (binE gIx (nameE [2] 0) (cst (.int 1)))))) (truE (binE (eqS true) (callE gLen (consA (binE gIx (nameE [2] 0) (cst (.int 1))) nilA)) (nameE [2] 1)))))) (retS (cst (.bool false))) nxS) (seqS (ifS (orB (truE (binE (eqS true) (lcE [2] (anyI (binE addS (binE gIx (nameE [2] 0) (cst (.int 1))) (cutE (nameE [2] 0) noO (atO (cst (.int 1)))))) (nameG 2) t1_l_is_lowest e2_l_is_lowest) (lstE nilA))) (truE (binE (gIntB fun i j => decide (i < j)) (binE gIx (nameE [2] 0) (cst (.int 0))) (cst (.int 1))))) (retS (cst (.bool false))) nxS) (retS (binE (eqS false) (callF g_l_reduced (consA (binE gIx (nameE [2] 0) (cst (.int 0))) (consA (binE gIx (nameE [2] 0) (cst (.int 1))) nilA))) (nameE [2] 0)))))
def g_l_is_lowest : List PyData → Option S := bodyG 3 2 d_l_is_lowest
def d_l_is_undone : SE := (seqS (ifS (notB (truE (callF g_l_is_lowest (consA (nameE [] 2) (consA (callE gLen (consA (binE gIx (nameE [] 0) (cst (.int 1))) nilA)) nilA))))) (retS (cst (.bool false))) nxS) (retS (reprQ false (callF g_l_multiplied (consA (nameE [] 2) (consA (callF g_l_power (consA (nameE [] 0) (consA (nameE [] 1) nilA))) nilA))) (callF g_l_power (consA (nameE [] 0) (consA (cst (.int 0)) nilA))))))
def g_l_is_undone : List PyData → Option S := bodyG 3 3 d_l_is_undone
def e1_law : EE := (binE (gInt0 fun i j => i - j) (callK g_l_draw (consA (nameE [13] 1) (consA (cst (.int 5)) nilA))) (cst (.int 2)))
def w2_law : SE := (seqS (par2S 4 5 (consA (callK g_l_beginning (consA (nameE [13] 1) (consA (nameE [13] 2) nilA))) (consA (binE (gInt0 fun i j => Builtin.bitAnd i j) (nameE [13] 3) (cst (.int 1))) nilA))) (seqS (asgS 6 (callK g_l_draw (consA (nameE [13] 1) (consA (ifE (andB (truE (binE (gIntB fun i j => decide (i < j)) (nameE [13] 2) (cst (.int 60)))) (truE (binE (eqS false) (nameE [13] 3) (cst (.int 0))))) (cst (.int 25)) (ifE (truE (binE (gIntB fun i j => decide (i < j)) (nameE [13] 2) (cst (.int 120)))) (cst (.int 7)) (cst (.int 4)))) nilA)))) (seqS (asgS 7 (ifE (truE (binE (eqS false) (nameE [13] 5) (cst (.int 0)))) (callF g_power (consA (nameE [13] 4) (consA (nameE [13] 6) nilA))) (callFk g_power 2 [1, 0] (consA (nameE [13] 6) (consA (nameE [13] 4) nilA))))) (seqS (ifS (truE (reprQ true (nameE [13] 7) (callF g_l_power (consA (nameE [13] 4) (consA (nameE [13] 6) nilA))))) (retS (cst (.bool false))) nxS) (seqS (ifS (truE (reprQ true (tupE (consA (callF g_power (consA (nameE [13] 4) (consA (cst (.int 0)) nilA))) (consA (callF g_power (consA (nameE [13] 4) (consA (cst (.int 1)) nilA))) nilA))) (tupE (consA (callF g_l_power (consA (nameE [13] 4) (consA (cst (.int 0)) nilA))) (consA (callF g_l_reduced (consA (binE gIx (nameE [13] 4) (cst (.int 0))) (consA (binE gIx (nameE [13] 4) (cst (.int 1))) nilA))) nilA))))) (retS (cst (.bool false))) nxS) (seqS (ifS (andB (truE (binE (eqS false) (binE gIx (binE gIx (nameE [13] 4) (cst (.int 1))) (cst (.int 0))) (cst (.int 0)))) (notB (truE (callF g_l_is_refused (consA (nameE [13] 4) (consA (binE (gInt0 fun i j => i - j) (unE gNeg (cst (.int 1))) (binE (gInt (fun _ j => decide (0 < j) && decide (j.natAbs.log2 < 9000)) fun i j => i / j) (nameE [13] 6) (cst (.int 2)))) (consA (nameE [13] 5) nilA))))))) (retS (cst (.bool false))) nxS) (seqS (asgS 8 (binE (eqS false) (callE gAbs (consA (binE gIx (binE gIx (nameE [13] 4) (cst (.int 1))) (cst (.int 0))) nilA)) (binE gIx (nameE [13] 4) (cst (.int 0))))) (seqS (ifS (andB (truE (nameE [13] 8)) (notB (truE (callF g_l_is_undone (consA (nameE [13] 4) (consA (nameE [13] 6) (consA (ifE (truE (binE (eqS false) (nameE [13] 5) (cst (.int 0)))) (callF g_power (consA (nameE [13] 4) (consA (unE gNeg (nameE [13] 6)) nilA))) (callFk g_power 2 [1, 0] (consA (unE gNeg (nameE [13] 6)) (consA (nameE [13] 4) nilA)))) nilA))))))) (retS (cst (.bool false))) nxS) (seqS (asgS 9 (callE gTuple (consA (lcE [13] (anyI (binE gIx (nameE [13] 4) (cst (.int 1)))) (nameG 13) yesB e1_law) nilA))) (seqS (asgS 10 (tupE (consA (binE gIx (nameE [13] 4) (cst (.int 0))) (consA (binE addS (tupE (consA (callK g_l_pick (consA (nameE [13] 1) (consA (lstE (consA (binE gIx (nameE [13] 4) (cst (.int 0))) (consA (unE gNeg (binE gIx (nameE [13] 4) (cst (.int 0)))) nilA))) nilA))) nilA)) (cutE (nameE [13] 9) (atO (cst (.int 1))) noO)) nilA)))) (seqS (asgS 11 (ifE (truE (binE (gIntB fun i j => decide (i < j)) (nameE [13] 2) (cst (.int 60)))) (cst (.int 2)) (cst (.int 1)))) (seqS (par2S 12 6 (consA (callK g_l_draw (consA (nameE [13] 1) (consA (binE addS (binE mulS (cst (.int 2)) (nameE [13] 11)) (cst (.int 1))) nilA))) (consA (callK g_l_draw (consA (nameE [13] 1) (consA (binE addS (binE mulS (cst (.int 2)) (nameE [13] 11)) (cst (.int 1))) nilA))) nilA))) (seqS (ifS (truE (nameE [13] 8)) (par2S 12 6 (consA (binE (gInt0 fun i j => i - j) (nameE [13] 12) (nameE [13] 11)) (consA (binE (gInt0 fun i j => i - j) (nameE [13] 6) (nameE [13] 11)) nilA))) nxS) (ifS (notB (truE (callF g_l_are_together (consA (nameE [13] 4) (consA (nameE [13] 10) (consA (nameE [13] 12) (consA (nameE [13] 6) nilA))))))) (retS (cst (.bool false))) nxS))))))))))))))
def d_law : SE := (seqS (asgS 1 (callN g_l_deck 0)) (seqS (asgS 2 (callK g_l_pick (consA (nameE [13] 1) (consA (binE addS (binE addS (lstE (consA (cst (.int 120)) nilA)) (binE mulS (lstE (consA (cst (.int 60)) nilA)) (cst (.int 3)))) (binE mulS (lstE (consA (cst (.int 12)) nilA)) (cst (.int 28)))) nilA)))) (seqS (forS (rng1I (consA (ifE (truE (binE (gIntB fun i j => decide (i < j)) (nameE [13] 2) (cst (.int 60)))) (cst (.int 3)) (cst (.int 1))) nilA)) (nameG 3) w2_law) (retS (cst (.bool true))))))
def g_law : List Int → Option S := bodyN 14 d_law
structure Ad where
  a_l_deck : Addr
  f_l_deck : FuncData
  a_l_draw : Addr
  f_l_draw : FuncData
  a_l_pick : Addr
  f_l_pick : FuncData
  a_l_beginning : Addr
  f_l_beginning : FuncData
  a_is_integer : Addr
  f_is_integer : FuncData
  a_is_beginning : Addr
  f_is_beginning : FuncData
  a_need_beginnings : Addr
  f_need_beginnings : FuncData
  a_power_of : Addr
  f_power_of : FuncData
  a_common_divisor : Addr
  f_common_divisor : FuncData
  a_beginning_of : Addr
  f_beginning_of : FuncData
  a_series_product : Addr
  f_series_product : FuncData
  a_series_power : Addr
  f_series_power : FuncData
  a_series_inverse : Addr
  f_series_inverse : FuncData
  a_power : Addr
  f_power : FuncData
  a_multiplied : Addr
  f_multiplied : FuncData
  a_l_is_short : Addr
  f_l_is_short : FuncData
  a_l_are_together : Addr
  f_l_are_together : FuncData
  a_l_reduced : Addr
  f_l_reduced : FuncData
  a_l_multiplied : Addr
  f_l_multiplied : FuncData
  a_l_power : Addr
  f_l_power : FuncData
  a_l_is_refused : Addr
  f_l_is_refused : FuncData
  a_l_is_lowest : Addr
  f_l_is_lowest : FuncData
  a_l_is_undone : Addr
  f_l_is_undone : FuncData
  a_law : Addr
  f_law : FuncData
  c_DividedByZero : Addr
structure Txt (K : PySem.W.Frag) (mg : Str → Option Value) (A : Ad) : Prop where
  F_l_deck : Fun K "_law_deck" "_law_deck" s_l_deck A.a_l_deck A.f_l_deck
  m_l_deck : mg "_law_deck" = some (.ref A.a_l_deck)
  b_l_deck : Binds K A.f_l_deck ["_law_script"] []
  F_l_draw : Fun K "_law_draw" "_law_draw" s_l_draw A.a_l_draw A.f_l_draw
  m_l_draw : mg "_law_draw" = some (.ref A.a_l_draw)
  b_l_draw : Binds K A.f_l_draw ["_law_deck_here", "_law_many"] []
  F_l_pick : Fun K "_law_pick" "_law_pick" s_l_pick A.a_l_pick A.f_l_pick
  m_l_pick : mg "_law_pick" = some (.ref A.a_l_pick)
  b_l_pick : Binds K A.f_l_pick ["_law_deck_here", "_law_some"] []
  F_l_beginning : Fun K "_law_beginning" "_law_beginning" s_l_beginning A.a_l_beginning A.f_l_beginning
  m_l_beginning : mg "_law_beginning" = some (.ref A.a_l_beginning)
  b_l_beginning : Binds K A.f_l_beginning ["_law_deck_here", "_law_many"] []
  F_is_integer : Fun K "is_integer" "is_integer" s_is_integer A.a_is_integer A.f_is_integer
  m_is_integer : mg "is_integer" = some (.ref A.a_is_integer)
  b_is_integer : Binds K A.f_is_integer ["thing"] []
  F_is_beginning : Fun K "is_beginning" "is_beginning" s_is_beginning A.a_is_beginning A.f_is_beginning
  m_is_beginning : mg "is_beginning" = some (.ref A.a_is_beginning)
  b_is_beginning : Binds K A.f_is_beginning ["thing"] []
  F_need_beginnings : Fun K "need_beginnings" "need_beginnings" s_need_beginnings A.a_need_beginnings A.f_need_beginnings
  m_need_beginnings : mg "need_beginnings" = some (.ref A.a_need_beginnings)
  b_need_beginnings : Binds K A.f_need_beginnings ["things"] []
  F_power_of : Fun K "power_of" "power_of" s_power_of A.a_power_of A.f_power_of
  m_power_of : mg "power_of" = some (.ref A.a_power_of)
  b_power_of : Binds K A.f_power_of ["base", "many"] []
  F_common_divisor : Fun K "common_divisor" "common_divisor" s_common_divisor A.a_common_divisor A.f_common_divisor
  m_common_divisor : mg "common_divisor" = some (.ref A.a_common_divisor)
  b_common_divisor : Binds K A.f_common_divisor ["numbers", "start"] []
  F_beginning_of : Fun K "beginning_of" "beginning_of" s_beginning_of A.a_beginning_of A.f_beginning_of
  m_beginning_of : mg "beginning_of" = some (.ref A.a_beginning_of)
  b_beginning_of : Binds K A.f_beginning_of ["bottom", "tops"] []
  F_series_product : Fun K "series_product" "series_product" s_series_product A.a_series_product A.f_series_product
  m_series_product : mg "series_product" = some (.ref A.a_series_product)
  b_series_product : Binds K A.f_series_product ["one", "other"] []
  F_series_power : Fun K "series_power" "series_power" s_series_power A.a_series_power A.f_series_power
  m_series_power : mg "series_power" = some (.ref A.a_series_power)
  b_series_power : Binds K A.f_series_power ["tops", "k"] []
  F_series_inverse : Fun K "series_inverse" "series_inverse" s_series_inverse A.a_series_inverse A.f_series_inverse
  m_series_inverse : mg "series_inverse" = some (.ref A.a_series_inverse)
  b_series_inverse : Binds K A.f_series_inverse ["tops"] []
  F_power : Fun K "power" "power" s_power A.a_power A.f_power
  m_power : mg "power" = some (.ref A.a_power)
  b_power : Binds K A.f_power ["beginning", "k"] []
  F_multiplied : Fun K "multiplied" "multiplied" s_multiplied A.a_multiplied A.f_multiplied
  m_multiplied : mg "multiplied" = some (.ref A.a_multiplied)
  b_multiplied : Binds K A.f_multiplied ["one", "other"] []
  F_l_is_short : Fun K "_law_is_short" "_law_is_short" s_l_is_short A.a_l_is_short A.f_l_is_short
  m_l_is_short : mg "_law_is_short" = some (.ref A.a_l_is_short)
  b_l_is_short : Binds K A.f_l_is_short ["_law_one"] []
  F_l_are_together : Fun K "_law_are_together" "_law_are_together" s_l_are_together A.a_l_are_together A.f_l_are_together
  m_l_are_together : mg "_law_are_together" = some (.ref A.a_l_are_together)
  b_l_are_together : Binds K A.f_l_are_together ["_law_one", "_law_other", "_law_j", "_law_k"] []
  F_l_reduced : Fun K "_law_reduced" "_law_reduced" s_l_reduced A.a_l_reduced A.f_l_reduced
  m_l_reduced : mg "_law_reduced" = some (.ref A.a_l_reduced)
  b_l_reduced : Binds K A.f_l_reduced ["_law_bottom", "_law_tops"] []
  F_l_multiplied : Fun K "_law_multiplied" "_law_multiplied" s_l_multiplied A.a_l_multiplied A.f_l_multiplied
  m_l_multiplied : mg "_law_multiplied" = some (.ref A.a_l_multiplied)
  b_l_multiplied : Binds K A.f_l_multiplied ["_law_one", "_law_other"] []
  F_l_power : Fun K "_law_power" "_law_power" s_l_power A.a_l_power A.f_l_power
  m_l_power : mg "_law_power" = some (.ref A.a_l_power)
  b_l_power : Binds K A.f_l_power ["_law_one", "_law_k"] []
  F_l_is_refused : Fun K "_law_is_refused" "_law_is_refused" s_l_is_refused A.a_l_is_refused A.f_l_is_refused
  m_l_is_refused : mg "_law_is_refused" = some (.ref A.a_l_is_refused)
  b_l_is_refused : Binds K A.f_l_is_refused ["_law_one", "_law_k", "_law_way"] []
  F_l_is_lowest : Fun K "_law_is_lowest" "_law_is_lowest" s_l_is_lowest A.a_l_is_lowest A.f_l_is_lowest
  m_l_is_lowest : mg "_law_is_lowest" = some (.ref A.a_l_is_lowest)
  b_l_is_lowest : Binds K A.f_l_is_lowest ["_law_one", "_law_many"] []
  F_l_is_undone : Fun K "_law_is_undone" "_law_is_undone" s_l_is_undone A.a_l_is_undone A.f_l_is_undone
  m_l_is_undone : mg "_law_is_undone" = some (.ref A.a_l_is_undone)
  b_l_is_undone : Binds K A.f_l_is_undone ["_law_one", "_law_k", "_law_told"] []
  F_law : Fun K "law" "law" s_law A.a_law A.f_law
  m_law : mg "law" = some (.ref A.a_law)
  b_law : Binds K A.f_law ["_law_script"] []
  kw_power_k_beginning : KwB K A.f_power ["beginning", "k"] ["k", "beginning"] [1, 0]
  z_abs : mg "abs" = none
  z_all : mg "all" = none
  z_bool : mg "bool" = none
  z_enumerate : mg "enumerate" = none
  z_int : mg "int" = none
  z_isinstance : mg "isinstance" = none
  z_len : mg "len" = none
  z_list : mg "list" = none
  z_max : mg "max" = none
  z_min : mg "min" = none
  z_range : mg "range" = none
  z_repr : mg "repr" = none
  z_sum : mg "sum" = none
  z_tuple : mg "tuple" = none
  m_MOST_TERMS : ∃ t, mg "MOST_TERMS" = some (.int (400) t)
  m_gcd : mg "gcd" = some (.builtin "math.gcd")
  E_DividedByZero : IsExc K mg "DividedByZero" A.c_DividedByZero
section
variable {P : Program} {w : World} {K : PySem.W.Frag} {mg : Str → Option Value} {base : Heap} {A : Ad}
theorem sc_l_deck : FnScope ["_law_script", "_law_mixed", "_law_cell"] ["_law_script"] (defScope s_l_deck) := ⟨rfl, rfl, rfl, by decide +kernel, rfl, by decide +kernel, by decide +kernel⟩
theorem ok_l_deck (T : Txt K mg A) : FnG P w K mg base 1 A.a_l_deck A.f_l_deck ["_law_script"] (spN K g_l_deck) := by
  refine okG T.F_l_deck sc_l_deck (fun vs H Q E h => h.1) fun cdv A' outer s H vs Q E C hr h => ?_
  obtain ⟨⟨H0, G0, M0, cs⟩, hcs, hq⟩ := bodyN_run (N := ["_law_script", "_law_mixed", "_law_cell"]) (cs := []) (f := d_l_deck) (by decide) h
  have hcs : cs = [] := hcs
  subst hcs
  exact ⟨_, (s_cons (s_asg (ps_set (i := 1) C.nd rfl (Or.inl rfl) c_int)) (s_cons (s_for PassesOwn.never C.calm (i_list (c_cutScr (n := 63) (pv 0))) (g_name (pg_name (i := 2) C.nd rfl (Or.inl rfl))) (s_one (s_asg (ps_set (i := 1) C.nd rfl (Or.inl rfl) (c_modP (c_callTy call_int1 ca_int rfl T.z_int boot_int (c_cons (c_add (c_add (c_mul (c_name (pv 1)) c_int) (c_modP (c_callTy call_int1 ca_int rfl T.z_int boot_int (c_cons (c_name (pv 2)) c_nil)) c_int)) c_int) c_nil)) c_int))))) (s_one (s_ret (c_deck (b := true) rfl (c_rev (c_callTy call_list_of ca_list rfl T.z_list boot_list (c_cons (c_cutScr (n := 63) (pv 0)) c_nil))) (c_name (pv 1)) c_int))))), hq⟩
theorem sc_l_draw : FnScope ["_law_deck_here", "_law_many", "_law_number", "_law_cell"] ["_law_deck_here", "_law_many"] (defScope s_l_draw) := ⟨rfl, rfl, rfl, by decide +kernel, rfl, by decide +kernel, by decide +kernel⟩
theorem ok_l_draw (T : Txt K mg A) : FnG P w K mg base 1 A.a_l_draw A.f_l_draw ["_law_deck_here", "_law_many"] (spK K 1 g_l_draw) := by
  refine okG T.F_l_draw sc_l_draw (fun vs H Q E h => h.1) fun cdv A' outer s H vs Q E C hr h => ?_
  obtain ⟨⟨H0, G0, M0, cs⟩, hcs, hM, hq⟩ := bodyK_run (N := ["_law_deck_here", "_law_many", "_law_number", "_law_cell"]) (cs := []) (f := d_l_draw) (by decide) h
  have hcs : cs = [] := hcs
  subst hcs
  exact ⟨_, (s_cons (s_draws C (pv 0) (c_add (c_draws C (fun _ _ => rfl) (pv 0)) c_int)) (s_cons (s_asg (ps_set (i := 2) C.nd rfl (Or.inl rfl) (c_add (c_mixed C (fun _ _ => rfl) (pv 0)) (c_mul c_int (c_draws C (fun _ _ => rfl) (pv 0)))))) (s_cons (s_if (b_cells (b := true) C rfl (fun _ _ => rfl) (pv 0)) (s_cons (s_asg (ps_set (i := 3) C.nd rfl (Or.inl rfl) (c_popCell (b := true) C rfl (fun _ _ => rfl) (pv 0)))) (s_cons (s_if (b_ge (c_name (pv 3)) (c_pow c_int c_int)) (s_cons (s_expr (c_pushCell (i := 0) (b := true) C rfl (fun _ _ => rfl) (pv 0) hM (c_cons (c_fdiv (c_name (pv 3)) (c_callB (call_max2 C.calm) ca_max2 rfl T.z_max boot_max (c_cons c_int (c_cons (c_name (pv 1)) c_nil)))) c_nil))) (s_one (s_ret (c_modP (c_callTy call_int1 ca_int rfl T.z_int boot_int (c_cons (c_name (pv 3)) c_nil)) (c_name (pv 1)))))) s_nil) (s_one (s_asg (ps_set (i := 2) C.nd rfl (Or.inl rfl) (c_add (c_name (pv 2)) (c_modP (c_callTy call_int1 ca_int rfl T.z_int boot_int (c_cons (c_name (pv 3)) c_nil)) c_int))))))) s_nil) (s_cons (s_asg (ps_set (i := 2) C.nd rfl (Or.inl rfl) (c_modP (c_callTy call_int1 ca_int rfl T.z_int boot_int (c_cons (c_add (c_mul (c_name (pv 2)) c_int) c_int) c_nil)) c_int))) (s_cons (s_asg (ps_set (i := 2) C.nd rfl (Or.inl rfl) (c_modP (c_callTy call_int1 ca_int rfl T.z_int boot_int (c_cons (c_add (c_add (c_mul (c_name (pv 2)) (c_name (pv 2))) (c_mul c_int (c_draws C (fun _ _ => rfl) (pv 0)))) c_int) c_nil)) c_int))) (s_cons (s_asg (ps_set (i := 2) C.nd rfl (Or.inl rfl) (c_modP (c_callTy call_int1 ca_int rfl T.z_int boot_int (c_cons (c_mul (c_name (pv 2)) c_int) c_nil)) c_int))) (s_one (s_ret (c_modP (c_callTy call_int1 ca_int rfl T.z_int boot_int (c_cons (c_fdiv (c_name (pv 2)) c_int) c_nil)) (c_name (pv 1))))))))))), hq⟩
theorem sc_l_pick : FnScope ["_law_deck_here", "_law_some"] ["_law_deck_here", "_law_some"] (defScope s_l_pick) := ⟨rfl, rfl, rfl, by decide +kernel, rfl, by decide +kernel, by decide +kernel⟩
theorem ok_l_pick (T : Txt K mg A) : FnG P w K mg base 2 A.a_l_pick A.f_l_pick ["_law_deck_here", "_law_some"] (spK K 1 g_l_pick) := by
  refine okG T.F_l_pick sc_l_pick (fun vs H Q E h => h.1) fun cdv A' outer s H vs Q E C hr h => ?_
  obtain ⟨⟨H0, G0, M0, cs⟩, hcs, hM, hq⟩ := bodyK_run (N := ["_law_deck_here", "_law_some"]) (cs := []) (f := d_l_pick) (by decide) h
  have hcs : cs = [] := hcs
  subst hcs
  exact ⟨_, (s_one (s_ret (c_ix (c_name (pv 1)) (c_callK C (ok_l_draw T) bodyK_len (hr.mono (by decide)) rfl T.m_l_draw T.F_l_draw.kp T.b_l_draw (c_cons (c_name (pv 0)) (c_cons (c_callB call_len ca_len rfl T.z_len boot_len (c_cons (c_name (pv 1)) c_nil)) c_nil))) fun _ _ => rfl))), hq⟩
theorem sc_l_beginning : FnScope ["_law_deck_here", "_law_many", "_law_thin", "_law_factor", "_law_bottom", "_law_size", "_law_tops", "_law_at", "_law_top"] ["_law_deck_here", "_law_many"] (defScope s_l_beginning) := ⟨rfl, rfl, rfl, by decide +kernel, rfl, by decide +kernel, by decide +kernel⟩
theorem ok_l_beginning (T : Txt K mg A) : FnG P w K mg base 3 A.a_l_beginning A.f_l_beginning ["_law_deck_here", "_law_many"] (spK K 1 g_l_beginning) := by
  refine okG T.F_l_beginning sc_l_beginning (fun vs H Q E h => h.1) fun cdv A' outer s H vs Q E C hr h => ?_
  obtain ⟨⟨H0, G0, M0, cs⟩, hcs, hM, hq⟩ := bodyK_run (N := ["_law_deck_here", "_law_many", "_law_thin", "_law_factor", "_law_bottom", "_law_size", "_law_tops", "_law_at", "_law_top"]) (cs := [7, 8]) (f := d_l_beginning) (by decide) h
  have hcs : cs = [7, 8] := hcs
  subst hcs
  exact ⟨_, (s_cons (s_asgG (c_tup (c_cons (c_callK C (ok_l_draw T) bodyK_len (hr.mono (by decide)) rfl T.m_l_draw T.F_l_draw.kp T.b_l_draw (c_cons (c_name (pv 0)) (c_cons c_int c_nil))) (c_cons (c_add c_int (c_callK C (ok_l_draw T) bodyK_len (hr.mono (by decide)) rfl T.m_l_draw T.F_l_draw.kp T.b_l_draw (c_cons (c_name (pv 0)) (c_cons c_int c_nil)))) c_nil))) (g_tup C.calm (g_cons (pg_name (i := 2) C.nd rfl (Or.inr rfl)) (g_cons (pg_name (i := 3) C.nd rfl (Or.inr rfl)) g_nil)) (consG_len (consG_len nilG_len)))) (s_cons (s_asg (ps_set (i := 4) C.nd rfl (Or.inl rfl) (c_callK C (ok_l_pick T) bodyK_len (hr.mono (by decide)) rfl T.m_l_pick T.F_l_pick.kp T.b_l_pick (c_cons (c_name (pv 0)) (c_cons (c_lst (c_cons c_int (c_cons c_int (c_cons c_int (c_cons c_int c_nil))))) c_nil))))) (s_cons (s_asg (ps_set (i := 5) C.nd rfl (Or.inl rfl) (c_if (b_gt (c_name (pv 1)) c_int) (c_name (pv 1)) (c_add c_int (c_callK C (ok_l_draw T) bodyK_len (hr.mono (by decide)) rfl T.m_l_draw T.F_l_draw.kp T.b_l_draw (c_cons (c_name (pv 0)) (c_cons (c_name (pv 1)) c_nil))))))) (s_cons (s_setLc (i := 6) C rfl rfl (sw_true rfl rfl rfl rfl) (own := [("_law_at", 7)]) (show ∀ p ∈ ([("_law_at", 7)] : List (Str × Nat)), p.2 ∈ ([7, 8] : List Nat) from by decide) (i_rng1 rfl T.z_range (c_cons (c_name (pv 5)) c_nil)) ⟨rfl, of_decide_eq_true (by kernel_rfl), of_decide_eq_true (by kernel_rfl), of_decide_eq_true (by kernel_rfl), of_decide_eq_true (by kernel_rfl)⟩ (fun _ _ _ _ _ => (g_name (pg_name (i := 7) C.blk.nd rfl (Or.inl rfl)))) (fun _ _ _ _ _ => t_nil) (fun _ _ _ _ _ => (c_mul (c_sub (c_callK C.blk (ok_l_draw T) bodyK_len (hr.mono (by decide)) rfl T.m_l_draw T.F_l_draw.kp T.b_l_draw (c_cons (c_name (pv 0)) (c_cons c_int c_nil))) c_int) (c_if (b_lt (c_callK C.blk (ok_l_draw T) bodyK_len (hr.mono (by decide)) rfl T.m_l_draw T.F_l_draw.kp T.b_l_draw (c_cons (c_name (pv 0)) (c_cons c_int c_nil))) (c_name (pv 2))) c_int c_int)))) (s_cons (s_setIx (ps_asg (c_callK C (ok_l_pick T) bodyK_len (hr.mono (by decide)) rfl T.m_l_pick T.F_l_pick.kp T.b_l_pick (c_cons (c_name (pv 0)) (c_cons (c_lst (c_cons (c_name (pv 4)) (c_cons (c_neg (c_name (pv 4))) (c_cons (c_name (pv 4)) (c_cons c_int (c_cons (c_sub (c_callK C (ok_l_draw T) bodyK_len (hr.mono (by decide)) rfl T.m_l_draw T.F_l_draw.kp T.b_l_draw (c_cons (c_name (pv 0)) (c_cons c_int c_nil))) c_int) c_nil)))))) c_nil))) (pg_sub (pv 6) c_int set_list))) (s_one (s_ret (c_tup (c_cons (c_mul (c_name (pv 3)) (c_name (pv 4))) (c_cons (c_callTy call_tuple_of ca_tuple rfl T.z_tuple boot_tuple (c_cons (c_lc C (own := [("_law_top", 8)]) (show ∀ p ∈ ([("_law_top", 8)] : List (Str × Nat)), p.2 ∈ ([7, 8] : List Nat) from by decide) (i_list (c_name (pv 6))) ⟨rfl, of_decide_eq_true (by kernel_rfl), of_decide_eq_true (by kernel_rfl), of_decide_eq_true (by kernel_rfl), of_decide_eq_true (by kernel_rfl)⟩ (fun _ _ _ _ _ => (g_name (pg_name (i := 8) C.blk.nd rfl (Or.inl rfl)))) (fun _ _ _ _ _ => t_nil) (fun _ _ _ _ _ => (c_mul (c_name (pv 3)) (c_name (pv 8))))) c_nil)) c_nil)))))))))), hq⟩
theorem sc_is_integer : FnScope ["thing"] ["thing"] (defScope s_is_integer) := ⟨rfl, rfl, rfl, by decide +kernel, rfl, by decide +kernel, by decide +kernel⟩
theorem ok_is_integer (T : Txt K mg A) : FnG P w K mg base 1 A.a_is_integer A.f_is_integer ["thing"] (spF K 1 g_is_integer) := by
  refine okG T.F_is_integer sc_is_integer (fun vs H Q E h => h.1) fun cdv A' outer s H vs Q E C hr h => ?_
  obtain ⟨⟨H0, G0, M0, cs⟩, hcs, hq⟩ := body_run (N := ["thing"]) (cs := []) (f := d_is_integer) (by decide) h
  have hcs : cs = [] := hcs
  subst hcs
  exact ⟨_, (s_one (s_ret (c_and (c_isi kit_int rfl T.z_isinstance rfl T.z_int boot_int (c_name (pv 0))) (c_one (c_not (c_isi kit_bool rfl T.z_isinstance rfl T.z_bool boot_bool (c_name (pv 0)))))))), hq⟩
theorem sc_is_beginning : FnScope ["thing", "top"] ["thing"] (defScope s_is_beginning) := ⟨rfl, rfl, rfl, by decide +kernel, rfl, by decide +kernel, by decide +kernel⟩
theorem ok_is_beginning (T : Txt K mg A) : FnG P w K mg base 2 A.a_is_beginning A.f_is_beginning ["thing"] (spF K 1 g_is_beginning) := by
  refine okG T.F_is_beginning sc_is_beginning (fun vs H Q E h => h.1) fun cdv A' outer s H vs Q E C hr h => ?_
  obtain ⟨⟨H0, G0, M0, cs⟩, hcs, hq⟩ := body_run (N := ["thing", "top"]) (cs := [1]) (f := d_is_beginning) (by decide) h
  have hcs : cs = [1] := hcs
  subst hcs
  exact ⟨_, (s_cons (s_if (b_w (w_or (b_not (b_val (c_isi kit_tuple rfl T.z_isinstance rfl T.z_tuple boot_tuple (c_name (pv 0))))) (w_or (b_ne C (c_callB call_len ca_len rfl T.z_len boot_len (c_cons (c_name (pv 0)) c_nil)) c_int) (w_or (b_not (b_val (c_call C (ok_is_integer T) bodyG_len (hr.mono (by decide)) rfl T.m_is_integer T.F_is_integer.kp T.b_is_integer (c_cons (c_ix (c_name (pv 0)) c_int fun _ _ => rfl) c_nil)))) (w_or1 (b_lt (c_ix (c_name (pv 0)) c_int fun _ _ => rfl) c_int)))))) (s_one (s_ret c_bl)) s_nil) (s_cons (s_if (b_w (w_or (b_not (b_val (c_isi kit_tuple rfl T.z_isinstance rfl T.z_tuple boot_tuple (c_ix (c_name (pv 0)) c_int fun _ _ => rfl)))) (w_or1 (b_not (b_chain op_le d_intB op_le d_intB c_int (c_callB call_len ca_len rfl T.z_len boot_len (c_cons (c_ix (c_name (pv 0)) c_int fun _ _ => rfl) c_nil)) (c_gint rfl T.m_MOST_TERMS)))))) (s_one (s_ret c_bl)) s_nil) (s_one (s_ret (c_callB (cr_all C.calm) ca_all rfl T.z_all boot_all (c_cons (c_lc C (own := [("top", 1)]) (show ∀ p ∈ ([("top", 1)] : List (Str × Nat)), p.2 ∈ ([1] : List Nat) from by decide) (i_any (c_ix (c_name (pv 0)) c_int fun _ _ => rfl)) ⟨rfl, of_decide_eq_true (by kernel_rfl), of_decide_eq_true (by kernel_rfl), of_decide_eq_true (by kernel_rfl), of_decide_eq_true (by kernel_rfl)⟩ (fun _ _ _ _ _ => (g_name (pg_name (i := 1) C.blk.nd rfl (Or.inl rfl)))) (fun _ _ _ _ _ => t_nil) (fun _ _ _ _ _ => (c_call C.blk (ok_is_integer T) bodyG_len (hr.mono (by decide)) rfl T.m_is_integer T.F_is_integer.kp T.b_is_integer (c_cons (c_name (pv 1)) c_nil)))) c_nil)))))), hq⟩
theorem sc_need_beginnings : FnScope ["things", "thing"] ["things"] (defScope s_need_beginnings) := ⟨rfl, rfl, rfl, by decide +kernel, rfl, by decide +kernel, by decide +kernel⟩
theorem ok_need_beginnings (T : Txt K mg A) : FnG P w K mg base 3 A.a_need_beginnings A.f_need_beginnings ["things"] (spF K 1 g_need_beginnings) := by
  refine okG T.F_need_beginnings sc_need_beginnings (fun vs H Q E h => h.1) fun cdv A' outer s H vs Q E C hr h => ?_
  obtain ⟨⟨H0, G0, M0, cs⟩, hcs, hq⟩ := body_run (N := ["things", "thing"]) (cs := []) (f := d_need_beginnings) (by decide) h
  have hcs : cs = [] := hcs
  subst hcs
  exact ⟨_, (s_one (s_for PassesOwn.never C.calm (i_any (c_name (pv 0))) (g_name (pg_name (i := 1) C.nd rfl (Or.inl rfl))) (s_one (s_if (b_not (b_val (c_call C (ok_is_beginning T) bodyG_len (hr.mono (by decide)) rfl T.m_is_beginning T.F_is_beginning.kp T.b_is_beginning (c_cons (c_name (pv 1)) c_nil)))) (s_one s_never) s_nil)))), hq⟩
theorem sc_power_of : FnScope ["base", "many", "found", "square"] ["base", "many"] (defScope s_power_of) := ⟨rfl, rfl, rfl, by decide +kernel, rfl, by decide +kernel, by decide +kernel⟩
theorem ok_power_of (T : Txt K mg A) : FnG P w K mg base 1 A.a_power_of A.f_power_of ["base", "many"] (spF K 2 g_power_of) := by
  refine okG T.F_power_of sc_power_of (fun vs H Q E h => h.1) fun cdv A' outer s H vs Q E C hr h => ?_
  obtain ⟨⟨H0, G0, M0, cs⟩, hcs, hq⟩ := body_run (N := ["base", "many", "found", "square"]) (cs := []) (f := d_power_of) (by decide) h
  have hcs : cs = [] := hcs
  subst hcs
  exact ⟨_, (s_cons (s_par2 (by decide) (ps_par (i := 2) (j := 3) C.calm C.nd rfl rfl (by decide) rfl rfl (c_cons c_int (c_cons (c_name (pv 0)) c_nil)) rfl)) (s_cons (s_while PassesOwn.never (b_gt (c_name (pv 1)) c_int) (s_cons (s_if (b_eq C (c_modP (c_name (pv 1)) c_int) c_int) (s_one (s_asg (ps_set (i := 2) C.nd rfl (Or.inl rfl) (c_mul (c_name (pv 2)) (c_name (pv 3)))))) s_nil) (s_cons (s_asg (ps_set (i := 3) C.nd rfl (Or.inl rfl) (c_mul (c_name (pv 3)) (c_name (pv 3))))) (s_one (s_asg (ps_set (i := 1) C.nd rfl (Or.inl rfl) (c_fdiv (c_name (pv 1)) c_int))))))) (s_one (s_ret (c_name (pv 2)))))), hq⟩
theorem sc_common_divisor : FnScope ["numbers", "start", "found", "number"] ["numbers", "start"] (defScope s_common_divisor) := ⟨rfl, rfl, rfl, by decide +kernel, rfl, by decide +kernel, by decide +kernel⟩
theorem ok_common_divisor (T : Txt K mg A) : FnG P w K mg base 1 A.a_common_divisor A.f_common_divisor ["numbers", "start"] (spF K 2 g_common_divisor) := by
  refine okG T.F_common_divisor sc_common_divisor (fun vs H Q E h => h.1) fun cdv A' outer s H vs Q E C hr h => ?_
  obtain ⟨⟨H0, G0, M0, cs⟩, hcs, hq⟩ := body_run (N := ["numbers", "start", "found", "number"]) (cs := []) (f := d_common_divisor) (by decide) h
  have hcs : cs = [] := hcs
  subst hcs
  exact ⟨_, (s_cons (s_asg (ps_set (i := 2) C.nd rfl (Or.inl rfl) (c_name (pv 1)))) (s_cons (s_for PassesOwn.never C.calm (i_any (c_name (pv 0))) (g_name (pg_name (i := 3) C.nd rfl (Or.inl rfl))) (s_cons (s_if (b_eq C (c_name (pv 2)) c_int) (s_one (s_ret c_int)) s_nil) (s_one (s_asg (ps_set (i := 2) C.nd rfl (Or.inl rfl) (c_callG cr_gcd ca_gcd rfl T.m_gcd (c_cons (c_name (pv 2)) (c_cons (c_name (pv 3)) c_nil)))))))) (s_one (s_ret (c_name (pv 2)))))), hq⟩
theorem sc_beginning_of : FnScope ["bottom", "tops", "divisor", "top"] ["bottom", "tops"] (defScope s_beginning_of) := ⟨rfl, rfl, rfl, by decide +kernel, rfl, by decide +kernel, by decide +kernel⟩
theorem ok_beginning_of (T : Txt K mg A) : FnG P w K mg base 2 A.a_beginning_of A.f_beginning_of ["bottom", "tops"] (spF K 2 g_beginning_of) := by
  refine okG T.F_beginning_of sc_beginning_of (fun vs H Q E h => h.1) fun cdv A' outer s H vs Q E C hr h => ?_
  obtain ⟨⟨H0, G0, M0, cs⟩, hcs, hq⟩ := body_run (N := ["bottom", "tops", "divisor", "top"]) (cs := [3]) (f := d_beginning_of) (by decide) h
  have hcs : cs = [3] := hcs
  subst hcs
  exact ⟨_, (s_cons (s_asg (ps_set (i := 2) C.nd rfl (Or.inr rfl) (c_call C (ok_common_divisor T) bodyG_len (hr.mono (by decide)) rfl T.m_common_divisor T.F_common_divisor.kp T.b_common_divisor (c_cons (c_name (pv 1)) (c_cons (c_name (pv 0)) c_nil))))) (s_one (s_ret (c_tup (c_cons (c_fdivP (c_name (pv 0)) (c_name (pv 2))) (c_cons (c_callTy call_tuple_of ca_tuple rfl T.z_tuple boot_tuple (c_cons (c_lc C (own := [("top", 3)]) (show ∀ p ∈ ([("top", 3)] : List (Str × Nat)), p.2 ∈ ([3] : List Nat) from by decide) (i_any (c_name (pv 1))) ⟨rfl, of_decide_eq_true (by kernel_rfl), of_decide_eq_true (by kernel_rfl), of_decide_eq_true (by kernel_rfl), of_decide_eq_true (by kernel_rfl)⟩ (fun _ _ _ _ _ => (g_name (pg_name (i := 3) C.blk.nd rfl (Or.inl rfl)))) (fun _ _ _ _ _ => t_nil) (fun _ _ _ _ _ => (c_fdivP (c_name (pv 3)) (c_name (pv 2))))) c_nil)) c_nil)))))), hq⟩
theorem sc_series_product : FnScope ["one", "other", "many", "found", "at", "first", "place"] ["one", "other"] (defScope s_series_product) := ⟨rfl, rfl, rfl, by decide +kernel, rfl, by decide +kernel, by decide +kernel⟩
theorem ok_series_product (T : Txt K mg A) : FnG P w K mg base 1 A.a_series_product A.f_series_product ["one", "other"] (spF K 2 g_series_product) := by
  refine okG T.F_series_product sc_series_product (fun vs H Q E h => h.1) fun cdv A' outer s H vs Q E C hr h => ?_
  obtain ⟨⟨H0, G0, M0, cs⟩, hcs, hq⟩ := body_run (N := ["one", "other", "many", "found", "at", "first", "place"]) (cs := []) (f := d_series_product) (by decide) h
  have hcs : cs = [] := hcs
  subst hcs
  exact ⟨_, (s_cons (s_asg (ps_set (i := 2) C.nd rfl (Or.inl rfl) (c_callB (call_min2 C.calm) ca_min2 rfl T.z_min boot_min (c_cons (c_callB call_len ca_len rfl T.z_len boot_len (c_cons (c_name (pv 0)) c_nil)) (c_cons (c_callB call_len ca_len rfl T.z_len boot_len (c_cons (c_name (pv 1)) c_nil)) c_nil))))) (s_cons (s_asg (ps_set (i := 3) C.nd rfl (Or.inl rfl) (c_mul (c_lst (c_cons c_int c_nil)) (c_name (pv 2))))) (s_cons (s_for PassesOwn.never C.calm (i_rng1 rfl T.z_range (c_cons (c_name (pv 2)) c_nil)) (g_name (pg_name (i := 4) C.nd rfl (Or.inl rfl))) (s_cons (s_asg (ps_set (i := 5) C.nd rfl (Or.inl rfl) (c_ix (c_name (pv 0)) (c_name (pv 4)) fun _ _ => rfl))) (s_one (s_if (b_ne C (c_name (pv 5)) c_int) (s_one (s_for PassesOwn.never C.calm (i_rng1 rfl T.z_range (c_cons (c_sub (c_name (pv 2)) (c_name (pv 4))) c_nil)) (g_name (pg_name (i := 6) C.nd rfl (Or.inl rfl))) (s_one (s_augIx (ps_augS (pv 3) (c_add (c_name (pv 4)) (c_name (pv 6))) get_list (c_mul (c_name (pv 5)) (c_ix (c_name (pv 1)) (c_name (pv 6)) fun _ _ => rfl)) ip_add set_list))))) s_nil)))) (s_one (s_ret (c_name (pv 3))))))), hq⟩
theorem sc_series_power : FnScope ["tops", "k", "found", "square"] ["tops", "k"] (defScope s_series_power) := ⟨rfl, rfl, rfl, by decide +kernel, rfl, by decide +kernel, by decide +kernel⟩
theorem ok_series_power (T : Txt K mg A) : FnG P w K mg base 2 A.a_series_power A.f_series_power ["tops", "k"] (spF K 2 g_series_power) := by
  refine okG T.F_series_power sc_series_power (fun vs H Q E h => h.1) fun cdv A' outer s H vs Q E C hr h => ?_
  obtain ⟨⟨H0, G0, M0, cs⟩, hcs, hq⟩ := body_run (N := ["tops", "k", "found", "square"]) (cs := []) (f := d_series_power) (by decide) h
  have hcs : cs = [] := hcs
  subst hcs
  exact ⟨_, (s_cons (s_asg (ps_set (i := 2) C.nd rfl (Or.inl rfl) (c_add (c_lst (c_cons c_int c_nil)) (c_mul (c_lst (c_cons c_int c_nil)) (c_sub (c_callB call_len ca_len rfl T.z_len boot_len (c_cons (c_name (pv 0)) c_nil)) c_int))))) (s_cons (s_asg (ps_set (i := 3) C.nd rfl (Or.inl rfl) (c_callTy call_list_of ca_list rfl T.z_list boot_list (c_cons (c_name (pv 0)) c_nil)))) (s_cons (s_while PassesOwn.never (b_gt (c_name (pv 1)) c_int) (s_cons (s_if (b_eq C (c_modP (c_name (pv 1)) c_int) c_int) (s_one (s_asg (ps_set (i := 2) C.nd rfl (Or.inl rfl) (c_call C (ok_series_product T) bodyG_len (hr.mono (by decide)) rfl T.m_series_product T.F_series_product.kp T.b_series_product (c_cons (c_name (pv 2)) (c_cons (c_name (pv 3)) c_nil)))))) s_nil) (s_cons (s_asg (ps_set (i := 1) C.nd rfl (Or.inl rfl) (c_fdiv (c_name (pv 1)) c_int))) (s_one (s_if (b_gt (c_name (pv 1)) c_int) (s_one (s_asg (ps_set (i := 3) C.nd rfl (Or.inl rfl) (c_call C (ok_series_product T) bodyG_len (hr.mono (by decide)) rfl T.m_series_product T.F_series_product.kp T.b_series_product (c_cons (c_name (pv 3)) (c_cons (c_name (pv 3)) c_nil)))))) s_nil))))) (s_one (s_ret (c_name (pv 2))))))), hq⟩
theorem sc_series_inverse : FnScope ["tops", "first", "found", "at", "total", "scale", "step"] ["tops"] (defScope s_series_inverse) := ⟨rfl, rfl, rfl, by decide +kernel, rfl, by decide +kernel, by decide +kernel⟩
theorem ok_series_inverse (T : Txt K mg A) : FnG P w K mg base 1 A.a_series_inverse A.f_series_inverse ["tops"] (spF K 1 g_series_inverse) := by
  refine okG T.F_series_inverse sc_series_inverse (fun vs H Q E h => h.1) fun cdv A' outer s H vs Q E C hr h => ?_
  obtain ⟨⟨H0, G0, M0, cs⟩, hcs, hq⟩ := body_run (N := ["tops", "first", "found", "at", "total", "scale", "step"]) (cs := []) (f := d_series_inverse) (by decide) h
  have hcs : cs = [] := hcs
  subst hcs
  exact ⟨_, (s_cons (s_par2 (by decide) (ps_par (i := 1) (j := 2) C.calm C.nd rfl rfl (by decide) rfl rfl (c_cons (c_ix (c_name (pv 0)) c_int fun _ _ => rfl) (c_cons (c_lst (c_cons c_int c_nil)) c_nil)) rfl)) (s_cons (s_for PassesOwn.never C.calm (i_rng2 rfl T.z_range (c_cons c_int (c_cons (c_callB call_len ca_len rfl T.z_len boot_len (c_cons (c_name (pv 0)) c_nil)) c_nil))) (g_name (pg_name (i := 3) C.nd rfl (Or.inl rfl))) (s_cons (s_asgG (c_tup (c_cons c_int (c_cons c_int c_nil))) (g_tup C.calm (g_cons (pg_name (i := 4) C.nd rfl (Or.inl rfl)) (g_cons (pg_name (i := 5) C.nd rfl (Or.inl rfl)) g_nil)) (consG_len (consG_len nilG_len)))) (s_cons (s_for PassesOwn.never C.calm (i_rng2 rfl T.z_range (c_cons c_int (c_cons (c_add (c_name (pv 3)) c_int) c_nil))) (g_name (pg_name (i := 6) C.nd rfl (Or.inl rfl))) (s_cons (s_incr (i := 4) C rfl (Or.inl rfl) (c_mul (c_mul (c_ix (c_name (pv 0)) (c_name (pv 6)) fun _ _ => rfl) (c_ix (c_name (pv 2)) (c_sub (c_name (pv 3)) (c_name (pv 6))) fun _ _ => rfl)) (c_name (pv 5)))) (s_one (s_asg (ps_set (i := 5) C.nd rfl (Or.inl rfl) (c_mul (c_name (pv 5)) (c_name (pv 1)))))))) (s_one (s_expr (c_append (pv 2) (c_cons (c_neg (c_name (pv 4))) c_nil))))))) (s_one (s_ret (c_name (pv 2)))))), hq⟩
theorem sc_power : FnScope ["beginning", "k", "bottom", "tops", "first", "many", "found", "lead", "sign", "inverse", "at", "number"] ["beginning", "k"] (defScope s_power) := ⟨rfl, rfl, rfl, by decide +kernel, rfl, by decide +kernel, by decide +kernel⟩
theorem ok_power (T : Txt K mg A) : FnG P w K mg base 4 A.a_power A.f_power ["beginning", "k"] (spF K 2 g_power) := by
  refine okG T.F_power sc_power (fun vs H Q E h => h.1) fun cdv A' outer s H vs Q E C hr h => ?_
  obtain ⟨⟨H0, G0, M0, cs⟩, hcs, hq⟩ := body_run (N := ["beginning", "k", "bottom", "tops", "first", "many", "found", "lead", "sign", "inverse", "at", "number"]) (cs := [10, 11]) (f := d_power) (by decide) h
  have hcs : cs = [10, 11] := hcs
  subst hcs
  exact ⟨_, (s_cons (s_expr (c_call C (ok_need_beginnings T) bodyG_len (hr.mono (by decide)) rfl T.m_need_beginnings T.F_need_beginnings.kp T.b_need_beginnings (c_cons (c_tup (c_cons (c_name (pv 0)) c_nil)) c_nil))) (s_cons (s_if (b_not (b_val (c_call C (ok_is_integer T) bodyG_len (hr.mono (by decide)) rfl T.m_is_integer T.F_is_integer.kp T.b_is_integer (c_cons (c_name (pv 1)) c_nil)))) (s_one s_never) s_nil) (s_cons (s_asgG (c_name (pv 0)) (g_tup C.calm (g_cons (pg_name (i := 2) C.nd rfl (Or.inr rfl)) (g_cons (pg_name (i := 3) C.nd rfl (Or.inl rfl)) g_nil)) (consG_len (consG_len nilG_len)))) (s_cons (s_if (b_ge (c_name (pv 1)) c_int) (s_one (s_ret (c_call C (ok_beginning_of T) bodyG_len (hr.mono (by decide)) rfl T.m_beginning_of T.F_beginning_of.kp T.b_beginning_of (c_cons (c_call C (ok_power_of T) bodyG_len (hr.mono (by decide)) rfl T.m_power_of T.F_power_of.kp T.b_power_of (c_cons (c_name (pv 2)) (c_cons (c_name (pv 1)) c_nil))) (c_cons (c_call C (ok_series_power T) bodyG_len (hr.mono (by decide)) rfl T.m_series_power T.F_series_power.kp T.b_series_power (c_cons (c_name (pv 3)) (c_cons (c_name (pv 1)) c_nil))) c_nil))))) s_nil) (s_cons (s_if (b_eq C (c_ix (c_name (pv 3)) c_int fun _ _ => rfl) c_int) (s_one s_never) s_nil) (s_cons (s_asgG (c_tup (c_cons (c_ix (c_name (pv 3)) c_int fun _ _ => rfl) (c_cons (c_callB call_len ca_len rfl T.z_len boot_len (c_cons (c_name (pv 3)) c_nil)) c_nil))) (g_tup C.calm (g_cons (pg_name (i := 4) C.nd rfl (Or.inr rfl)) (g_cons (pg_name (i := 5) C.nd rfl (Or.inr rfl)) g_nil)) (consG_len (consG_len nilG_len)))) (s_cons (s_setLc (i := 6) C rfl rfl (sw_true rfl rfl rfl rfl) (own := [("at", 10), ("number", 11)]) (show ∀ p ∈ ([("at", 10), ("number", 11)] : List (Str × Nat)), p.2 ∈ ([10, 11] : List Nat) from by decide) (i_enumT rfl T.z_enumerate (c_cons (c_call C (ok_series_inverse T) bodyG_len (hr.mono (by decide)) rfl T.m_series_inverse T.F_series_inverse.kp T.b_series_inverse (c_cons (c_name (pv 3)) c_nil)) c_nil)) ⟨rfl, of_decide_eq_true (by kernel_rfl), of_decide_eq_true (by kernel_rfl), of_decide_eq_true (by kernel_rfl), of_decide_eq_true (by kernel_rfl)⟩ (fun _ _ _ _ _ => (g_tup C.blk.calm (g_cons (pg_name (i := 10) C.blk.nd rfl (Or.inl rfl)) (g_cons (pg_name (i := 11) C.blk.nd rfl (Or.inl rfl)) g_nil)) (consG_len (consG_len nilG_len)))) (fun _ _ _ _ _ => t_nil) (fun _ _ _ _ _ => (c_mul (c_name (pv 11)) (c_call C.blk (ok_power_of T) bodyG_len (hr.mono (by decide)) rfl T.m_power_of T.F_power_of.kp T.b_power_of (c_cons (c_name (pv 4)) (c_cons (c_sub (c_sub (c_name (pv 5)) c_int) (c_name (pv 10))) c_nil)))))) (s_cons (s_asg (ps_set (i := 7) C.nd rfl (Or.inl rfl) (c_call C (ok_power_of T) bodyG_len (hr.mono (by decide)) rfl T.m_power_of T.F_power_of.kp T.b_power_of (c_cons (c_name (pv 4)) (c_cons (c_name (pv 5)) c_nil))))) (s_cons (s_asg (ps_set (i := 8) C.nd rfl (Or.inr rfl) (c_if (b_lt (c_name (pv 7)) c_int) (c_neg c_int) c_int))) (s_cons (s_asg (ps_set (i := 9) C.nd rfl (Or.inl rfl) (c_call C (ok_beginning_of T) bodyG_len (hr.mono (by decide)) rfl T.m_beginning_of T.F_beginning_of.kp T.b_beginning_of (c_cons (c_mul (c_name (pv 8)) (c_name (pv 7))) (c_cons (c_lc C (own := [("number", 11)]) (show ∀ p ∈ ([("number", 11)] : List (Str × Nat)), p.2 ∈ ([10, 11] : List Nat) from by decide) (i_list (c_name (pv 6))) ⟨rfl, of_decide_eq_true (by kernel_rfl), of_decide_eq_true (by kernel_rfl), of_decide_eq_true (by kernel_rfl), of_decide_eq_true (by kernel_rfl)⟩ (fun _ _ _ _ _ => (g_name (pg_name (i := 11) C.blk.nd rfl (Or.inl rfl)))) (fun _ _ _ _ _ => t_nil) (fun _ _ _ _ _ => (c_mul (c_mul (c_name (pv 8)) (c_name (pv 2))) (c_name (pv 11))))) c_nil))))) (s_one (s_ret (c_call C (ok_beginning_of T) bodyG_len (hr.mono (by decide)) rfl T.m_beginning_of T.F_beginning_of.kp T.b_beginning_of (c_cons (c_call C (ok_power_of T) bodyG_len (hr.mono (by decide)) rfl T.m_power_of T.F_power_of.kp T.b_power_of (c_cons (c_ix (c_name (pv 9)) c_int fun _ _ => rfl) (c_cons (c_neg (c_name (pv 1))) c_nil))) (c_cons (c_call C (ok_series_power T) bodyG_len (hr.mono (by decide)) rfl T.m_series_power T.F_series_power.kp T.b_series_power (c_cons (c_ix (c_name (pv 9)) c_int fun _ _ => rfl) (c_cons (c_neg (c_name (pv 1))) c_nil))) c_nil))))))))))))))), hq⟩
theorem okx_power (T : Txt K mg A) : FnGX P w K mg base 4 A.a_power A.f_power ["beginning", "k"] (spX K mg 2 x_power) := by
  refine okGX T.F_power sc_power (fun vs H Q E h => h.1) fun cdv A' outer s H vs Q E C hr tk h => ?_
  obtain ⟨⟨H0, G0, M0, cs⟩, hcs, hq⟩ := bodyX_run (N := ["beginning", "k", "bottom", "tops", "first", "many", "found", "lead", "sign", "inverse", "at", "number"]) (cs := [10, 11]) (f := dx_power) (D := { nx := fun _ H' => Q .non H', rt := Q }) (by decide) h
  have hcs : cs = [10, 11] := hcs
  subst hcs
  have Cn := C.noX
  exact ⟨_, (x_cons (s_lift (s_expr (c_call Cn (ok_need_beginnings T) bodyG_len (hr.mono (by decide)) rfl T.m_need_beginnings T.F_need_beginnings.kp T.b_need_beginnings (c_cons (c_tup (c_cons (c_name (pv 0)) c_nil)) c_nil)))) (x_cons (s_lift (s_if (b_not (b_val (c_call Cn (ok_is_integer T) bodyG_len (hr.mono (by decide)) rfl T.m_is_integer T.F_is_integer.kp T.b_is_integer (c_cons (c_name (pv 1)) c_nil)))) (s_one s_never) s_nil)) (x_cons (s_lift (s_asgG (c_name (pv 0)) (g_tup Cn.calm (g_cons (pg_name (i := 2) Cn.nd rfl (Or.inr rfl)) (g_cons (pg_name (i := 3) Cn.nd rfl (Or.inl rfl)) g_nil)) (consG_len (consG_len nilG_len))))) (x_cons (s_lift (s_if (b_ge (c_name (pv 1)) c_int) (s_one (s_ret (c_call Cn (ok_beginning_of T) bodyG_len (hr.mono (by decide)) rfl T.m_beginning_of T.F_beginning_of.kp T.b_beginning_of (c_cons (c_call Cn (ok_power_of T) bodyG_len (hr.mono (by decide)) rfl T.m_power_of T.F_power_of.kp T.b_power_of (c_cons (c_name (pv 2)) (c_cons (c_name (pv 1)) c_nil))) (c_cons (c_call Cn (ok_series_power T) bodyG_len (hr.mono (by decide)) rfl T.m_series_power T.F_series_power.kp T.b_series_power (c_cons (c_name (pv 3)) (c_cons (c_name (pv 1)) c_nil))) c_nil))))) s_nil)) (x_first (x_if (b_eq C (c_ix (c_name (pv 3)) c_int fun _ _ => rfl) c_int) (x_first (x_raise0 C.calm tk T.E_DividedByZero rfl)) x_nil)))))), hq⟩
theorem sc_multiplied : FnScope ["one", "other"] ["one", "other"] (defScope s_multiplied) := ⟨rfl, rfl, rfl, by decide +kernel, rfl, by decide +kernel, by decide +kernel⟩
theorem ok_multiplied (T : Txt K mg A) : FnG P w K mg base 4 A.a_multiplied A.f_multiplied ["one", "other"] (spF K 2 g_multiplied) := by
  refine okG T.F_multiplied sc_multiplied (fun vs H Q E h => h.1) fun cdv A' outer s H vs Q E C hr h => ?_
  obtain ⟨⟨H0, G0, M0, cs⟩, hcs, hq⟩ := body_run (N := ["one", "other"]) (cs := []) (f := d_multiplied) (by decide) h
  have hcs : cs = [] := hcs
  subst hcs
  exact ⟨_, (s_cons (s_expr (c_call C (ok_need_beginnings T) bodyG_len (hr.mono (by decide)) rfl T.m_need_beginnings T.F_need_beginnings.kp T.b_need_beginnings (c_cons (c_tup (c_cons (c_name (pv 0)) (c_cons (c_name (pv 1)) c_nil))) c_nil))) (s_one (s_ret (c_call C (ok_beginning_of T) bodyG_len (hr.mono (by decide)) rfl T.m_beginning_of T.F_beginning_of.kp T.b_beginning_of (c_cons (c_mul (c_ix (c_name (pv 0)) c_int fun _ _ => rfl) (c_ix (c_name (pv 1)) c_int fun _ _ => rfl)) (c_cons (c_call C (ok_series_product T) bodyG_len (hr.mono (by decide)) rfl T.m_series_product T.F_series_product.kp T.b_series_product (c_cons (c_ix (c_name (pv 0)) c_int fun _ _ => rfl) (c_cons (c_ix (c_name (pv 1)) c_int fun _ _ => rfl) c_nil))) c_nil)))))), hq⟩
theorem sc_l_is_short : FnScope ["_law_one", "_law_top"] ["_law_one"] (defScope s_l_is_short) := ⟨rfl, rfl, rfl, by decide +kernel, rfl, by decide +kernel, by decide +kernel⟩
theorem ok_l_is_short (T : Txt K mg A) : FnG P w K mg base 1 A.a_l_is_short A.f_l_is_short ["_law_one"] (spF K 1 g_l_is_short) := by
  refine okG T.F_l_is_short sc_l_is_short (fun vs H Q E h => h.1) fun cdv A' outer s H vs Q E C hr h => ?_
  obtain ⟨⟨H0, G0, M0, cs⟩, hcs, hq⟩ := body_run (N := ["_law_one", "_law_top"]) (cs := [1]) (f := d_l_is_short) (by decide) h
  have hcs : cs = [1] := hcs
  subst hcs
  exact ⟨_, (s_one (s_ret (c_lt (c_callB (cr_max C.calm) ca_max rfl T.z_max boot_max (c_cons (c_add (c_lc C (own := [("_law_top", 1)]) (show ∀ p ∈ ([("_law_top", 1)] : List (Str × Nat)), p.2 ∈ ([1] : List Nat) from by decide) (i_any (c_ix (c_name (pv 0)) c_int fun _ _ => rfl)) ⟨rfl, of_decide_eq_true (by kernel_rfl), of_decide_eq_true (by kernel_rfl), of_decide_eq_true (by kernel_rfl), of_decide_eq_true (by kernel_rfl)⟩ (fun _ _ _ _ _ => (g_name (pg_name (i := 1) C.blk.nd rfl (Or.inl rfl)))) (fun _ _ _ _ _ => t_nil) (fun _ _ _ _ _ => (c_callB call_abs ca_abs rfl T.z_abs boot_abs (c_cons (c_name (pv 1)) c_nil)))) (c_lst (c_cons (c_ix (c_name (pv 0)) c_int fun _ _ => rfl) c_nil))) c_nil)) (c_pow c_int c_int)))), hq⟩
theorem sc_l_are_together : FnScope ["_law_one", "_law_other", "_law_j", "_law_k", "_law_near", "_law_far", "_law_both", "_law_last"] ["_law_one", "_law_other", "_law_j", "_law_k"] (defScope s_l_are_together) := ⟨rfl, rfl, rfl, by decide +kernel, rfl, by decide +kernel, by decide +kernel⟩
theorem ok_l_are_together (T : Txt K mg A) : FnG P w K mg base 5 A.a_l_are_together A.f_l_are_together ["_law_one", "_law_other", "_law_j", "_law_k"] (spF K 4 g_l_are_together) := by
  refine okG T.F_l_are_together sc_l_are_together (fun vs H Q E h => h.1) fun cdv A' outer s H vs Q E C hr h => ?_
  obtain ⟨⟨H0, G0, M0, cs⟩, hcs, hq⟩ := body_run (N := ["_law_one", "_law_other", "_law_j", "_law_k", "_law_near", "_law_far", "_law_both", "_law_last"]) (cs := []) (f := d_l_are_together) (by decide) h
  have hcs : cs = [] := hcs
  subst hcs
  exact ⟨_, (s_cons (s_par2 (by decide) (ps_par (i := 4) (j := 5) C.calm C.nd rfl rfl (by decide) rfl rfl (c_cons (c_call C (ok_power T) bodyG_len (hr.mono (by decide)) rfl T.m_power T.F_power.kp T.b_power (c_cons (c_name (pv 0)) (c_cons (c_name (pv 2)) c_nil))) (c_cons (c_call C (ok_power T) bodyG_len (hr.mono (by decide)) rfl T.m_power T.F_power.kp T.b_power (c_cons (c_name (pv 0)) (c_cons (c_name (pv 3)) c_nil))) c_nil)) rfl)) (s_cons (s_if (b_w (w_and (b_val (c_call C (ok_l_is_short T) bodyG_len (hr.mono (by decide)) rfl T.m_l_is_short T.F_l_is_short.kp T.b_l_is_short (c_cons (c_name (pv 4)) c_nil))) (w_and (b_val (c_call C (ok_l_is_short T) bodyG_len (hr.mono (by decide)) rfl T.m_l_is_short T.F_l_is_short.kp T.b_l_is_short (c_cons (c_name (pv 5)) c_nil))) (w_and (b_lt (c_callB call_abs ca_abs rfl T.z_abs boot_abs (c_cons (c_add (c_name (pv 2)) (c_name (pv 3))) c_nil)) c_int) (w_and1 (b_reprQ (b_ne C (c_callB (call_repr C) ca_repr rfl T.z_repr boot_repr (c_cons (c_call C (ok_multiplied T) bodyG_len (hr.mono (by decide)) rfl T.m_multiplied T.F_multiplied.kp T.b_multiplied (c_cons (c_name (pv 4)) (c_cons (c_name (pv 5)) c_nil))) c_nil)) (c_callB (call_repr C) ca_repr rfl T.z_repr boot_repr (c_cons (c_call C (ok_power T) bodyG_len (hr.mono (by decide)) rfl T.m_power T.F_power.kp T.b_power (c_cons (c_name (pv 0)) (c_cons (c_add (c_name (pv 2)) (c_name (pv 3))) c_nil))) c_nil))))))))) (s_one (s_ret c_bl)) s_nil) (s_cons (s_if (b_w (w_and (b_val (c_call C (ok_l_is_short T) bodyG_len (hr.mono (by decide)) rfl T.m_l_is_short T.F_l_is_short.kp T.b_l_is_short (c_cons (c_name (pv 4)) c_nil))) (w_and (b_lt (c_callB call_abs ca_abs rfl T.z_abs boot_abs (c_cons (c_mul (c_name (pv 2)) (c_name (pv 3))) c_nil)) c_int) (w_and1 (b_reprQ (b_ne C (c_callB (call_repr C) ca_repr rfl T.z_repr boot_repr (c_cons (c_call C (ok_power T) bodyG_len (hr.mono (by decide)) rfl T.m_power T.F_power.kp T.b_power (c_cons (c_name (pv 4)) (c_cons (c_name (pv 3)) c_nil))) c_nil)) (c_callB (call_repr C) ca_repr rfl T.z_repr boot_repr (c_cons (c_call C (ok_power T) bodyG_len (hr.mono (by decide)) rfl T.m_power T.F_power.kp T.b_power (c_cons (c_name (pv 0)) (c_cons (c_mul (c_name (pv 2)) (c_name (pv 3))) c_nil))) c_nil)))))))) (s_one (s_ret c_bl)) s_nil) (s_cons (s_asg (ps_set (i := 6) C.nd rfl (Or.inl rfl) (c_call C (ok_multiplied T) bodyG_len (hr.mono (by decide)) rfl T.m_multiplied T.F_multiplied.kp T.b_multiplied (c_cons (c_name (pv 0)) (c_cons (c_name (pv 1)) c_nil))))) (s_cons (s_if (b_w (w_or (b_ne C (c_callB call_len ca_len rfl T.z_len boot_len (c_cons (c_ix (c_name (pv 0)) c_int fun _ _ => rfl) c_nil)) (c_callB call_len ca_len rfl T.z_len boot_len (c_cons (c_ix (c_name (pv 1)) c_int fun _ _ => rfl) c_nil))) (w_or1 (b_not (b_val (c_call C (ok_l_is_short T) bodyG_len (hr.mono (by decide)) rfl T.m_l_is_short T.F_l_is_short.kp T.b_l_is_short (c_cons (c_name (pv 6)) c_nil))))))) (s_one (s_ret c_bl)) s_nil) (s_cons (s_asg (ps_set (i := 7) C.nd rfl (Or.inl rfl) (c_call C (ok_power T) bodyG_len (hr.mono (by decide)) rfl T.m_power T.F_power.kp T.b_power (c_cons (c_name (pv 1)) (c_cons (c_name (pv 2)) c_nil))))) (s_cons (s_if (b_w (w_or (b_not (b_val (c_call C (ok_l_is_short T) bodyG_len (hr.mono (by decide)) rfl T.m_l_is_short T.F_l_is_short.kp T.b_l_is_short (c_cons (c_name (pv 4)) c_nil)))) (w_or1 (b_not (b_val (c_call C (ok_l_is_short T) bodyG_len (hr.mono (by decide)) rfl T.m_l_is_short T.F_l_is_short.kp T.b_l_is_short (c_cons (c_name (pv 7)) c_nil))))))) (s_one (s_ret c_bl)) s_nil) (s_one (s_ret (c_reprQ (c_eq C (c_callB (call_repr C) ca_repr rfl T.z_repr boot_repr (c_cons (c_call C (ok_multiplied T) bodyG_len (hr.mono (by decide)) rfl T.m_multiplied T.F_multiplied.kp T.b_multiplied (c_cons (c_name (pv 4)) (c_cons (c_name (pv 7)) c_nil))) c_nil)) (c_callB (call_repr C) ca_repr rfl T.z_repr boot_repr (c_cons (c_call C (ok_power T) bodyG_len (hr.mono (by decide)) rfl T.m_power T.F_power.kp T.b_power (c_cons (c_name (pv 6)) (c_cons (c_name (pv 2)) c_nil))) c_nil))))))))))))), hq⟩
theorem sc_l_reduced : FnScope ["_law_bottom", "_law_tops", "_law_common", "_law_top", "_law_one", "_law_other"] ["_law_bottom", "_law_tops"] (defScope s_l_reduced) := ⟨rfl, rfl, rfl, by decide +kernel, rfl, by decide +kernel, by decide +kernel⟩
theorem ok_l_reduced (T : Txt K mg A) : FnG P w K mg base 1 A.a_l_reduced A.f_l_reduced ["_law_bottom", "_law_tops"] (spF K 2 g_l_reduced) := by
  refine okG T.F_l_reduced sc_l_reduced (fun vs H Q E h => h.1) fun cdv A' outer s H vs Q E C hr h => ?_
  obtain ⟨⟨H0, G0, M0, cs⟩, hcs, hq⟩ := body_run (N := ["_law_bottom", "_law_tops", "_law_common", "_law_top", "_law_one", "_law_other"]) (cs := [3]) (f := d_l_reduced) (by decide) h
  have hcs : cs = [3] := hcs
  subst hcs
  exact ⟨_, (s_cons (s_asg (ps_set (i := 2) C.nd rfl (Or.inr rfl) (c_name (pv 0)))) (s_cons (s_for PassesOwn.never C.calm (i_any (c_name (pv 1))) (g_name (pg_name (i := 3) C.nd rfl (Or.inl rfl))) (s_cons (s_par2 (by decide) (ps_par (i := 4) (j := 5) C.calm C.nd rfl rfl (by decide) rfl rfl (c_cons (c_name (pv 2)) (c_cons (c_callB call_abs ca_abs rfl T.z_abs boot_abs (c_cons (c_name (pv 3)) c_nil)) c_nil)) rfl)) (s_cons (s_while PassesOwn.never (b_ne C (c_name (pv 5)) c_int) (s_one (s_par2 (by decide) (ps_par (i := 4) (j := 5) C.calm C.nd rfl rfl (by decide) rfl rfl (c_cons (c_name (pv 5)) (c_cons (c_modP (c_callTy call_int1 ca_int rfl T.z_int boot_int (c_cons (c_name (pv 4)) c_nil)) (c_name (pv 5))) c_nil)) rfl)))) (s_one (s_asg (ps_set (i := 2) C.nd rfl (Or.inr rfl) (c_name (pv 4)))))))) (s_one (s_ret (c_tup (c_cons (c_fdiv (c_name (pv 0)) (c_name (pv 2))) (c_cons (c_callTy call_tuple_of ca_tuple rfl T.z_tuple boot_tuple (c_cons (c_lcL (v := 3) rfl C (own := [("_law_top", 3)]) (show ∀ p ∈ ([("_law_top", 3)] : List (Str × Nat)), p.2 ∈ ([3] : List Nat) from by decide) (i_any (c_name (pv 1))) ⟨rfl, of_decide_eq_true (by kernel_rfl), of_decide_eq_true (by kernel_rfl), of_decide_eq_true (by kernel_rfl), of_decide_eq_true (by kernel_rfl)⟩ (fun _ _ _ _ _ => (g_name (pg_name (i := 3) C.blk.nd rfl (Or.inl rfl)))) (fun _ _ _ _ _ => t_nil) (fun _ _ _ _ _ => (c_fdiv (c_name (pv 3)) (c_name (pv 2))))) c_nil)) c_nil))))))), hq⟩
theorem sc_l_multiplied : FnScope ["_law_one", "_law_other", "_law_many", "_law_tops", "_law_n", "_law_i"] ["_law_one", "_law_other"] (defScope s_l_multiplied) := ⟨rfl, rfl, rfl, by decide +kernel, rfl, by decide +kernel, by decide +kernel⟩
theorem ok_l_multiplied (T : Txt K mg A) : FnG P w K mg base 2 A.a_l_multiplied A.f_l_multiplied ["_law_one", "_law_other"] (spF K 2 g_l_multiplied) := by
  refine okG T.F_l_multiplied sc_l_multiplied (fun vs H Q E h => h.1) fun cdv A' outer s H vs Q E C hr h => ?_
  obtain ⟨⟨H0, G0, M0, cs⟩, hcs, hq⟩ := body_run (N := ["_law_one", "_law_other", "_law_many", "_law_tops", "_law_n", "_law_i"]) (cs := [4, 5]) (f := d_l_multiplied) (by decide) h
  have hcs : cs = [4, 5] := hcs
  subst hcs
  exact ⟨_, (s_cons (s_asg (ps_set (i := 2) C.nd rfl (Or.inl rfl) (c_callB call_len ca_len rfl T.z_len boot_len (c_cons (c_ix (c_name (pv 0)) c_int fun _ _ => rfl) c_nil)))) (s_cons (s_setLc (i := 3) C rfl rfl (sw_true rfl rfl rfl rfl) (own := [("_law_n", 4)]) (show ∀ p ∈ ([("_law_n", 4)] : List (Str × Nat)), p.2 ∈ ([4, 5] : List Nat) from by decide) (i_rng1 rfl T.z_range (c_cons (c_name (pv 2)) c_nil)) ⟨rfl, of_decide_eq_true (by kernel_rfl), of_decide_eq_true (by kernel_rfl), of_decide_eq_true (by kernel_rfl), of_decide_eq_true (by kernel_rfl)⟩ (fun _ _ _ _ _ => (g_name (pg_name (i := 4) C.blk.nd rfl (Or.inr rfl)))) (fun _ _ _ _ _ => t_nil) (fun _ _ _ _ _ => (c_callB (cr_sum C.blk.calm) ca_sum rfl T.z_sum boot_sum (c_cons (c_lc C.blk (own := [("_law_i", 5)]) (show ∀ p ∈ ([("_law_i", 5)] : List (Str × Nat)), p.2 ∈ ([4, 5] : List Nat) from by decide) (i_rng1 rfl T.z_range (c_cons (c_add (c_name (pv 4)) c_int) c_nil)) ⟨rfl, of_decide_eq_true (by kernel_rfl), of_decide_eq_true (by kernel_rfl), of_decide_eq_true (by kernel_rfl), of_decide_eq_true (by kernel_rfl)⟩ (fun _ _ _ _ _ => (g_name (pg_name (i := 5) C.blk.blk.nd rfl (Or.inl rfl)))) (fun _ _ _ _ _ => t_nil) (fun _ _ _ _ _ => (c_mul (c_ix (c_ix (c_name (pv 0)) c_int fun _ _ => rfl) (c_name (pv 5)) fun _ _ => rfl) (c_ix (c_ix (c_name (pv 1)) c_int fun _ _ => rfl) (c_sub (c_name (pv 4)) (c_name (pv 5))) fun _ _ => rfl)))) c_nil)))) (s_one (s_ret (c_call C (ok_l_reduced T) bodyG_len (hr.mono (by decide)) rfl T.m_l_reduced T.F_l_reduced.kp T.b_l_reduced (c_cons (c_mul (c_ix (c_name (pv 0)) c_int fun _ _ => rfl) (c_ix (c_name (pv 1)) c_int fun _ _ => rfl)) (c_cons (c_name (pv 3)) c_nil))))))), hq⟩
theorem sc_l_power : FnScope ["_law_one", "_law_k", "_law_found", "_law_turn"] ["_law_one", "_law_k"] (defScope s_l_power) := ⟨rfl, rfl, rfl, by decide +kernel, rfl, by decide +kernel, by decide +kernel⟩
theorem ok_l_power (T : Txt K mg A) : FnG P w K mg base 3 A.a_l_power A.f_l_power ["_law_one", "_law_k"] (spF K 2 g_l_power) := by
  refine okG T.F_l_power sc_l_power (fun vs H Q E h => h.1) fun cdv A' outer s H vs Q E C hr h => ?_
  obtain ⟨⟨H0, G0, M0, cs⟩, hcs, hq⟩ := body_run (N := ["_law_one", "_law_k", "_law_found", "_law_turn"]) (cs := []) (f := d_l_power) (by decide) h
  have hcs : cs = [] := hcs
  subst hcs
  exact ⟨_, (s_cons (s_asg (ps_set (i := 2) C.nd rfl (Or.inl rfl) (c_tup (c_cons c_int (c_cons (c_add (c_tup (c_cons c_int c_nil)) (c_mulT (c_tup (c_cons c_int c_nil)) (c_sub (c_callB call_len ca_len rfl T.z_len boot_len (c_cons (c_ix (c_name (pv 0)) c_int fun _ _ => rfl) c_nil)) c_int))) c_nil))))) (s_cons (s_for PassesOwn.never C.calm (i_rng1 rfl T.z_range (c_cons (c_name (pv 1)) c_nil)) (g_name (pg_name (i := 3) C.nd rfl (Or.inl rfl))) (s_one (s_asg (ps_set (i := 2) C.nd rfl (Or.inl rfl) (c_call C (ok_l_multiplied T) bodyG_len (hr.mono (by decide)) rfl T.m_l_multiplied T.F_l_multiplied.kp T.b_l_multiplied (c_cons (c_name (pv 2)) (c_cons (c_name (pv 0)) c_nil))))))) (s_one (s_ret (c_name (pv 2)))))), hq⟩
theorem sc_l_is_refused : FnScope ["_law_one", "_law_k", "_law_way"] ["_law_one", "_law_k", "_law_way"] (defScope s_l_is_refused) := ⟨rfl, rfl, rfl, by decide +kernel, rfl, by decide +kernel, by decide +kernel⟩
theorem ok_l_is_refused (T : Txt K mg A) : FnG P w K mg base 5 A.a_l_is_refused A.f_l_is_refused ["_law_one", "_law_k", "_law_way"] (spF K 3 g_l_is_refused) := by
  refine okG T.F_l_is_refused sc_l_is_refused (fun vs H Q E h => h.1) fun cdv A' outer s H vs Q E C hr h => ?_
  obtain ⟨⟨H0, G0, M0, cs⟩, hcs, hq⟩ := body_run (N := ["_law_one", "_law_k", "_law_way"]) (cs := []) (f := d_l_is_refused) (by decide) h
  have hcs : cs = [] := hcs
  subst hcs
  exact ⟨_, (s_cons (s_try rfl rfl ⟨rfl, by decide, .inl T.E_DividedByZero.g⟩ (exm1 T.E_DividedByZero) (fun W pn xe tk => have Ct := CtxOk.trX C pn xe; have Cn := Ct.noX; x_try (ss_lift (s_one (s_if (b_eq Cn (c_name (pv 2)) c_int) (s_one (s_expr (c_call Cn (ok_power T) bodyG_len (hr.mono (by decide)) rfl T.m_power T.F_power.kp T.b_power (c_cons (c_name (pv 0)) (c_cons (c_name (pv 1)) c_nil))))) (s_one (s_expr (c_callKw (ks := ["k", "beginning"]) (sel := [1, 0]) Cn (ok_power T) bodyG_len (hr.mono (by decide)) rfl T.m_power T.F_power.kp T.kw_power_k_beginning (k_cons (c_name (pv 1)) (k_cons (c_name (pv 0)) k_nil)))))))) (x_first (x_if (b_eq Ct (c_name (pv 2)) c_int) (x_first (x_expr (x_call Ct (okx_power T) bodyX_len (hr.mono (by decide)) tk rfl T.m_power T.F_power.kp T.b_power (c_cons (c_name (pv 0)) (c_cons (c_name (pv 1)) c_nil))))) (x_first (x_expr (x_callKw (ks := ["k", "beginning"]) (sel := [1, 0]) Ct (okx_power T) bodyX_len (hr.mono (by decide)) tk rfl T.m_power T.F_power.kp T.kw_power_k_beginning (k_cons (c_name (pv 1)) (k_cons (c_name (pv 0)) k_nil)))))))) (fun a pn => (s_one (s_ret c_bl)))) (s_one (s_ret c_bl))), hq⟩
theorem sc_l_is_lowest : FnScope ["_law_one", "_law_many", "_law_x"] ["_law_one", "_law_many"] (defScope s_l_is_lowest) := ⟨rfl, rfl, rfl, by decide +kernel, rfl, by decide +kernel, by decide +kernel⟩
theorem ok_l_is_lowest (T : Txt K mg A) : FnG P w K mg base 2 A.a_l_is_lowest A.f_l_is_lowest ["_law_one", "_law_many"] (spF K 2 g_l_is_lowest) := by
  refine okG T.F_l_is_lowest sc_l_is_lowest (fun vs H Q E h => h.1) fun cdv A' outer s H vs Q E C hr h => ?_
  obtain ⟨⟨H0, G0, M0, cs⟩, hcs, hq⟩ := body_run (N := ["_law_one", "_law_many", "_law_x"]) (cs := [2]) (f := d_l_is_lowest) (by decide) h
  have hcs : cs = [2] := hcs
  subst hcs
  exact ⟨_, (s_cons (s_if (b_w (w_or (b_not (b_val (c_isi kit_tuple rfl T.z_isinstance rfl T.z_tuple boot_tuple (c_name (pv 0))))) (w_or (b_ne C (c_callB call_len ca_len rfl T.z_len boot_len (c_cons (c_name (pv 0)) c_nil)) c_int) (w_or (b_not (b_val (c_isi kit_tuple rfl T.z_isinstance rfl T.z_tuple boot_tuple (c_ix (c_name (pv 0)) c_int fun _ _ => rfl)))) (w_or1 (b_ne C (c_callB call_len ca_len rfl T.z_len boot_len (c_cons (c_ix (c_name (pv 0)) c_int fun _ _ => rfl) c_nil)) (c_name (pv 1)))))))) (s_one (s_ret c_bl)) s_nil) (s_cons (s_if (b_w (w_or (b_ne C (c_lc C (own := [("_law_x", 2)]) (show ∀ p ∈ ([("_law_x", 2)] : List (Str × Nat)), p.2 ∈ ([2] : List Nat) from by decide) (i_any (c_add (c_ix (c_name (pv 0)) c_int fun _ _ => rfl) (c_cut (c_name (pv 0)) o_no (o_at c_int)))) ⟨rfl, of_decide_eq_true (by kernel_rfl), of_decide_eq_true (by kernel_rfl), of_decide_eq_true (by kernel_rfl), of_decide_eq_true (by kernel_rfl)⟩ (fun _ _ _ _ _ => (g_name (pg_name (i := 2) C.blk.nd rfl (Or.inl rfl)))) (fun _ _ _ _ _ => (t_one (b_w (w_or (b_not (b_val (c_isi kit_int rfl T.z_isinstance rfl T.z_int boot_int (c_name (pv 2))))) (w_or1 (b_val (c_isi kit_bool rfl T.z_isinstance rfl T.z_bool boot_bool (c_name (pv 2))))))))) (fun _ _ _ _ _ => (c_name (pv 2)))) (c_lst c_nil)) (w_or1 (b_lt (c_ix (c_name (pv 0)) c_int fun _ _ => rfl) c_int)))) (s_one (s_ret c_bl)) s_nil) (s_one (s_ret (c_eq C (c_call C (ok_l_reduced T) bodyG_len (hr.mono (by decide)) rfl T.m_l_reduced T.F_l_reduced.kp T.b_l_reduced (c_cons (c_ix (c_name (pv 0)) c_int fun _ _ => rfl) (c_cons (c_ix (c_name (pv 0)) c_int fun _ _ => rfl) c_nil))) (c_name (pv 0))))))), hq⟩
theorem sc_l_is_undone : FnScope ["_law_one", "_law_k", "_law_told"] ["_law_one", "_law_k", "_law_told"] (defScope s_l_is_undone) := ⟨rfl, rfl, rfl, by decide +kernel, rfl, by decide +kernel, by decide +kernel⟩
theorem ok_l_is_undone (T : Txt K mg A) : FnG P w K mg base 4 A.a_l_is_undone A.f_l_is_undone ["_law_one", "_law_k", "_law_told"] (spF K 3 g_l_is_undone) := by
  refine okG T.F_l_is_undone sc_l_is_undone (fun vs H Q E h => h.1) fun cdv A' outer s H vs Q E C hr h => ?_
  obtain ⟨⟨H0, G0, M0, cs⟩, hcs, hq⟩ := body_run (N := ["_law_one", "_law_k", "_law_told"]) (cs := []) (f := d_l_is_undone) (by decide) h
  have hcs : cs = [] := hcs
  subst hcs
  exact ⟨_, (s_cons (s_if (b_not (b_val (c_call C (ok_l_is_lowest T) bodyG_len (hr.mono (by decide)) rfl T.m_l_is_lowest T.F_l_is_lowest.kp T.b_l_is_lowest (c_cons (c_name (pv 2)) (c_cons (c_callB call_len ca_len rfl T.z_len boot_len (c_cons (c_ix (c_name (pv 0)) c_int fun _ _ => rfl) c_nil)) c_nil))))) (s_one (s_ret c_bl)) s_nil) (s_one (s_ret (c_reprQ (c_eq C (c_callB (call_repr C) ca_repr rfl T.z_repr boot_repr (c_cons (c_call C (ok_l_multiplied T) bodyG_len (hr.mono (by decide)) rfl T.m_l_multiplied T.F_l_multiplied.kp T.b_l_multiplied (c_cons (c_name (pv 2)) (c_cons (c_call C (ok_l_power T) bodyG_len (hr.mono (by decide)) rfl T.m_l_power T.F_l_power.kp T.b_l_power (c_cons (c_name (pv 0)) (c_cons (c_name (pv 1)) c_nil))) c_nil))) c_nil)) (c_callB (call_repr C) ca_repr rfl T.z_repr boot_repr (c_cons (c_call C (ok_l_power T) bodyG_len (hr.mono (by decide)) rfl T.m_l_power T.F_l_power.kp T.b_l_power (c_cons (c_name (pv 0)) (c_cons c_int c_nil))) c_nil))))))), hq⟩
theorem sc_law : FnScope ["_law_script", "_law_deck_here", "_law_many", "_law_turn", "_law_one", "_law_way", "_law_k", "_law_told", "_law_is_one", "_law_tops", "_law_other", "_law_few", "_law_j", "_law_at"] ["_law_script"] (defScope s_law) := ⟨rfl, rfl, rfl, by decide +kernel, rfl, by decide +kernel, by decide +kernel⟩
theorem ok_law (T : Txt K mg A) : FnG P w K mg base 6 A.a_law A.f_law ["_law_script"] (spN K g_law) := by
  refine okG T.F_law sc_law (fun vs H Q E h => h.1) fun cdv A' outer s H vs Q E C hr h => ?_
  obtain ⟨⟨H0, G0, M0, cs⟩, hcs, hq⟩ := bodyN_run (N := ["_law_script", "_law_deck_here", "_law_many", "_law_turn", "_law_one", "_law_way", "_law_k", "_law_told", "_law_is_one", "_law_tops", "_law_other", "_law_few", "_law_j", "_law_at"]) (cs := [13]) (f := d_law) (by decide) h
  have hcs : cs = [13] := hcs
  subst hcs
  exact ⟨_, (s_cons (s_asg (ps_set (i := 1) C.nd rfl (Or.inr rfl) (c_callN C (ok_l_deck T) (hr.mono (by decide)) rfl T.m_l_deck T.F_l_deck.kp T.b_l_deck (pv 0)))) (s_cons (s_asg (ps_set (i := 2) C.nd rfl (Or.inl rfl) (c_callK C (ok_l_pick T) bodyK_len (hr.mono (by decide)) rfl T.m_l_pick T.F_l_pick.kp T.b_l_pick (c_cons (c_name (pv 1)) (c_cons (c_add (c_add (c_lst (c_cons c_int c_nil)) (c_mul (c_lst (c_cons c_int c_nil)) c_int)) (c_mul (c_lst (c_cons c_int c_nil)) c_int)) c_nil))))) (s_cons (s_for PassesOwn.never C.calm (i_rng1 rfl T.z_range (c_cons (c_if (b_lt (c_name (pv 2)) c_int) c_int c_int) c_nil)) (g_name (pg_name (i := 3) C.nd rfl (Or.inl rfl))) (s_cons (s_par2 (by decide) (ps_par (i := 4) (j := 5) C.calm C.nd rfl rfl (by decide) rfl rfl (c_cons (c_callK C (ok_l_beginning T) bodyK_len (hr.mono (by decide)) rfl T.m_l_beginning T.F_l_beginning.kp T.b_l_beginning (c_cons (c_name (pv 1)) (c_cons (c_name (pv 2)) c_nil))) (c_cons (c_band (c_name (pv 3)) c_int) c_nil)) rfl)) (s_cons (s_asg (ps_set (i := 6) C.nd rfl (Or.inl rfl) (c_callK C (ok_l_draw T) bodyK_len (hr.mono (by decide)) rfl T.m_l_draw T.F_l_draw.kp T.b_l_draw (c_cons (c_name (pv 1)) (c_cons (c_if (b_w (w_and (b_lt (c_name (pv 2)) c_int) (w_and1 (b_eq C (c_name (pv 3)) c_int)))) c_int (c_if (b_lt (c_name (pv 2)) c_int) c_int c_int)) c_nil))))) (s_cons (s_asg (ps_set (i := 7) C.nd rfl (Or.inl rfl) (c_if (b_eq C (c_name (pv 5)) c_int) (c_call C (ok_power T) bodyG_len (hr.mono (by decide)) rfl T.m_power T.F_power.kp T.b_power (c_cons (c_name (pv 4)) (c_cons (c_name (pv 6)) c_nil))) (c_callKw (ks := ["k", "beginning"]) (sel := [1, 0]) C (ok_power T) bodyG_len (hr.mono (by decide)) rfl T.m_power T.F_power.kp T.kw_power_k_beginning (k_cons (c_name (pv 6)) (k_cons (c_name (pv 4)) k_nil)))))) (s_cons (s_if (b_reprQ (b_ne C (c_callB (call_repr C) ca_repr rfl T.z_repr boot_repr (c_cons (c_name (pv 7)) c_nil)) (c_callB (call_repr C) ca_repr rfl T.z_repr boot_repr (c_cons (c_call C (ok_l_power T) bodyG_len (hr.mono (by decide)) rfl T.m_l_power T.F_l_power.kp T.b_l_power (c_cons (c_name (pv 4)) (c_cons (c_name (pv 6)) c_nil))) c_nil)))) (s_one (s_ret c_bl)) s_nil) (s_cons (s_if (b_reprQ (b_ne C (c_callB (call_repr C) ca_repr rfl T.z_repr boot_repr (c_cons (c_tup (c_cons (c_call C (ok_power T) bodyG_len (hr.mono (by decide)) rfl T.m_power T.F_power.kp T.b_power (c_cons (c_name (pv 4)) (c_cons c_int c_nil))) (c_cons (c_call C (ok_power T) bodyG_len (hr.mono (by decide)) rfl T.m_power T.F_power.kp T.b_power (c_cons (c_name (pv 4)) (c_cons c_int c_nil))) c_nil))) c_nil)) (c_callB (call_repr C) ca_repr rfl T.z_repr boot_repr (c_cons (c_tup (c_cons (c_call C (ok_l_power T) bodyG_len (hr.mono (by decide)) rfl T.m_l_power T.F_l_power.kp T.b_l_power (c_cons (c_name (pv 4)) (c_cons c_int c_nil))) (c_cons (c_call C (ok_l_reduced T) bodyG_len (hr.mono (by decide)) rfl T.m_l_reduced T.F_l_reduced.kp T.b_l_reduced (c_cons (c_ix (c_name (pv 4)) c_int fun _ _ => rfl) (c_cons (c_ix (c_name (pv 4)) c_int fun _ _ => rfl) c_nil))) c_nil))) c_nil)))) (s_one (s_ret c_bl)) s_nil) (s_cons (s_if (b_w (w_and (b_eq C (c_ix (c_ix (c_name (pv 4)) c_int fun _ _ => rfl) c_int fun _ _ => rfl) c_int) (w_and1 (b_not (b_val (c_call C (ok_l_is_refused T) bodyG_len (hr.mono (by decide)) rfl T.m_l_is_refused T.F_l_is_refused.kp T.b_l_is_refused (c_cons (c_name (pv 4)) (c_cons (c_sub (c_neg c_int) (c_fdiv (c_name (pv 6)) c_int)) (c_cons (c_name (pv 5)) c_nil))))))))) (s_one (s_ret c_bl)) s_nil) (s_cons (s_asg (ps_set (i := 8) C.nd rfl (Or.inl rfl) (c_eq C (c_callB call_abs ca_abs rfl T.z_abs boot_abs (c_cons (c_ix (c_ix (c_name (pv 4)) c_int fun _ _ => rfl) c_int fun _ _ => rfl) c_nil)) (c_ix (c_name (pv 4)) c_int fun _ _ => rfl)))) (s_cons (s_if (b_w (w_and (b_val (c_name (pv 8))) (w_and1 (b_not (b_val (c_call C (ok_l_is_undone T) bodyG_len (hr.mono (by decide)) rfl T.m_l_is_undone T.F_l_is_undone.kp T.b_l_is_undone (c_cons (c_name (pv 4)) (c_cons (c_name (pv 6)) (c_cons (c_if (b_eq C (c_name (pv 5)) c_int) (c_call C (ok_power T) bodyG_len (hr.mono (by decide)) rfl T.m_power T.F_power.kp T.b_power (c_cons (c_name (pv 4)) (c_cons (c_neg (c_name (pv 6))) c_nil))) (c_callKw (ks := ["k", "beginning"]) (sel := [1, 0]) C (ok_power T) bodyG_len (hr.mono (by decide)) rfl T.m_power T.F_power.kp T.kw_power_k_beginning (k_cons (c_neg (c_name (pv 6))) (k_cons (c_name (pv 4)) k_nil)))) c_nil))))))))) (s_one (s_ret c_bl)) s_nil) (s_cons (s_asg (ps_set (i := 9) C.nd rfl (Or.inl rfl) (c_callTy call_tuple_of ca_tuple rfl T.z_tuple boot_tuple (c_cons (c_lc C (own := [("_law_at", 13)]) (show ∀ p ∈ ([("_law_at", 13)] : List (Str × Nat)), p.2 ∈ ([13] : List Nat) from by decide) (i_any (c_ix (c_name (pv 4)) c_int fun _ _ => rfl)) ⟨rfl, of_decide_eq_true (by kernel_rfl), of_decide_eq_true (by kernel_rfl), of_decide_eq_true (by kernel_rfl), of_decide_eq_true (by kernel_rfl)⟩ (fun _ _ _ _ _ => (g_name (pg_name (i := 13) C.blk.nd rfl (Or.inl rfl)))) (fun _ _ _ _ _ => t_nil) (fun _ _ _ _ _ => (c_sub (c_callK C.blk (ok_l_draw T) bodyK_len (hr.mono (by decide)) rfl T.m_l_draw T.F_l_draw.kp T.b_l_draw (c_cons (c_name (pv 1)) (c_cons c_int c_nil))) c_int))) c_nil)))) (s_cons (s_asg (ps_set (i := 10) C.nd rfl (Or.inl rfl) (c_tup (c_cons (c_ix (c_name (pv 4)) c_int fun _ _ => rfl) (c_cons (c_add (c_tup (c_cons (c_callK C (ok_l_pick T) bodyK_len (hr.mono (by decide)) rfl T.m_l_pick T.F_l_pick.kp T.b_l_pick (c_cons (c_name (pv 1)) (c_cons (c_lst (c_cons (c_ix (c_name (pv 4)) c_int fun _ _ => rfl) (c_cons (c_neg (c_ix (c_name (pv 4)) c_int fun _ _ => rfl)) c_nil))) c_nil))) c_nil)) (c_cut (c_name (pv 9)) (o_at c_int) o_no)) c_nil))))) (s_cons (s_asg (ps_set (i := 11) C.nd rfl (Or.inl rfl) (c_if (b_lt (c_name (pv 2)) c_int) c_int c_int))) (s_cons (s_par2 (by decide) (ps_par (i := 12) (j := 6) C.calm C.nd rfl rfl (by decide) rfl rfl (c_cons (c_callK C (ok_l_draw T) bodyK_len (hr.mono (by decide)) rfl T.m_l_draw T.F_l_draw.kp T.b_l_draw (c_cons (c_name (pv 1)) (c_cons (c_add (c_mul c_int (c_name (pv 11))) c_int) c_nil))) (c_cons (c_callK C (ok_l_draw T) bodyK_len (hr.mono (by decide)) rfl T.m_l_draw T.F_l_draw.kp T.b_l_draw (c_cons (c_name (pv 1)) (c_cons (c_add (c_mul c_int (c_name (pv 11))) c_int) c_nil))) c_nil)) rfl)) (s_cons (s_if (b_val (c_name (pv 8))) (s_one (s_par2 (by decide) (ps_par (i := 12) (j := 6) C.calm C.nd rfl rfl (by decide) rfl rfl (c_cons (c_sub (c_name (pv 12)) (c_name (pv 11))) (c_cons (c_sub (c_name (pv 6)) (c_name (pv 11))) c_nil)) rfl))) s_nil) (s_one (s_if (b_not (b_val (c_call C (ok_l_are_together T) bodyG_len (hr.mono (by decide)) rfl T.m_l_are_together T.F_l_are_together.kp T.b_l_are_together (c_cons (c_name (pv 4)) (c_cons (c_name (pv 10)) (c_cons (c_name (pv 12)) (c_cons (c_name (pv 6)) c_nil))))))) (s_one (s_ret c_bl)) s_nil)))))))))))))))) (s_one (s_ret c_bl))))), hq⟩
end
end K11
namespace K11
open PySem PyProof.Rows L2 Dn
/-! Euclid, by a measure in logarithms -/
def lg (x y : Nat) : Nat := if y = 0 then 0 else 1 + (x * y).log2 + (if x < y then 1 else 0)
theorem log2_half {p q : Nat} (h : 2 * p < q) (hp : p ≠ 0) : p.log2 < q.log2 := by
  have h1 := Nat.log2_self_le hp
  have h2 : 2 ^ (p.log2 + 1) ≤ q := by rw [Nat.pow_succ]; omega
  have := (Nat.le_log2 (show q ≠ 0 by omega)).mpr h2
  omega
theorem mod_half {x y : Nat} (h0 : 0 < y) (h : y ≤ x) : 2 * (x % y) < x := by
  have := Nat.mod_lt x h0
  by_cases q : 2 * y ≤ x
  · omega
  · rw [Nat.mod_eq_sub_mod h, Nat.mod_eq_of_lt (by omega)]; omega
theorem lg_dec {x y : Nat} (h0 : 0 < y) : lg y (x % y) < lg x y := by
  unfold lg
  rw [if_neg (show ¬ y = 0 by omega)]
  by_cases z : x % y = 0
  · rw [if_pos z]; omega
  · have hl := Nat.mod_lt x h0
    rw [if_neg z, if_neg (show ¬ y < x % y by omega)]
    by_cases q : x < y
    · rw [if_pos q, Nat.mod_eq_of_lt q, Nat.mul_comm]; omega
    · have h1 := mod_half h0 (show y ≤ x by omega)
      have h2 : 2 * (y * (x % y)) < x * y := by
        have := Nat.mul_lt_mul_of_pos_right h1 h0
        rw [Nat.mul_comm y, ← Nat.mul_assoc]
        exact this
      have := log2_half h2 (Nat.mul_ne_zero (by omega) z)
      rw [if_neg q]; omega
theorem lg_small {x y : Nat} (hx : x < 2 ^ 200) (hy : y < 2 ^ 200) : lg x y < 1000000000000 := by
  unfold lg
  split
  · omega
  · by_cases z : x * y = 0
    · rw [z]; simp; split <;> omega
    · have : x * y < 2 ^ 400 := by
        rw [show 400 = 200 + 200 from rfl, Nat.pow_add]
        exact Nat.mul_lt_mul'' hx hy
      have := (Nat.log2_lt z).mpr this
      split <;> omega
/-! the deck and its draws -/
theorem deck_ok (ns : List Int) (hn : ns.length ≤ 63) : ∃ st, g_l_deck ns = some (.deck st) ∧ DeckOk true 0 st := by
  have key := for_fold (tg := nameG 2) (f := w1_l_deck) (inj := PyData.int) (xs := ns.take 63) (b := ()) (step := fun _ _ => ()) (E := fun _ ρ => ∃ (m : Int) (o : Option S), ρ = [some (.scr ns), some (.sh (.int m)), o] ∧ 0 ≤ m ∧ m < 2147483587) (ρ := [some (S.scr ns), some (S.sh (PyData.int 10883211)), none]) ⟨_, _, rfl, by omega, by omega⟩ (by
    rintro _ a ρ _ ⟨m, o, rfl, h0, h1⟩
    refine ⟨_, _, rfl, .inl (Gv.eq (by simp (disch := omega) [w1_l_deck]; exact rfl)), _, _, rfl, ?_, ?_⟩ <;> omega)
  obtain ⟨ρ', h, m, o, rfl, h0, h1⟩ := key
  refine ⟨.mk _ _ _ _, Gv.eq (by simp (disch := omega) [g_l_deck, bodyN, startN, d_l_deck, ← List.map_take, h, intsOf_map, ← List.map_reverse]; exact rfl), rfl, ?_, ?_, ?_, ?_, ?_⟩ <;> simp <;> omega
theorem draw_ok (st : Dn.Deck) (n m : Int) (h : DeckOk true n st) (hn : n ≤ 1000000) (hm : 1 ≤ m) (hm2 : m ≤ 1000000000) :
    ∃ s st', g_l_draw st [.int m] = some (s, st') ∧ ∃ r : Int, s = .sh (.int r) ∧ 0 ≤ r ∧ r < m ∧ DeckOk true (n + 1) st' := by
  obtain ⟨h1, h2, h3, h4, h5, h6⟩ := h
  obtain ⟨ck, cells, mixed, draws⟩ := st
  dsimp only at h1 h2 h3 h4 h5 h6
  subst h1
  refine bodyK_of rfl ?_
  refine WS.seq (by simp (disch := omega) [startK]; exact rfl) ?_
  refine WS.seq (by simp (disch := omega); exact rfl) ?_
  refine WS.seqW ?_
  cases q : cells.getLast? with
  | none =>
    have e : cells = [] := by simpa using q
    subst e
    refine WS.ifF (by simp; exact rfl) (WS.nx ?_)
    dsimp only
    refine WS.seq (by simp (disch := omega); exact rfl) ?_
    refine WS.seq (by simp (disch := omega); exact rfl) ?_
    refine WS.seq (by simp (disch := omega); exact rfl) ?_
    refine WS.end (by simp (disch := omega); exact rfl) ⟨_, _, by simp; exact rfl, _, rfl, ?_, ?_, ?_⟩
    · exact Int.emod_nonneg _ (by omega)
    · exact Int.emod_lt_of_pos _ (by omega)
    · constructor <;> simp <;> omega
  | some c =>
    have e : cells.isEmpty = false := by cases cells with
      | nil => simp at q
      | cons => rfl
    refine WS.ifT (by simp [e]; exact rfl) ?_
    refine WS.seq (by simp (disch := omega) [q]; exact rfl) ?_
    refine WS.seqW (WS.ifB (by simp (disch := omega); exact rfl) ?_ ?_)
    · intro hc
      refine WS.seq (by simp (disch := omega); rw [if_pos (by omega)]; exact rfl) ?_
      refine WS.end (by simp (disch := omega); exact rfl) ?_
      refine ⟨_, _, by simp; exact rfl, _, rfl, ?_, ?_, ?_⟩
      · exact Int.emod_nonneg _ (by omega)
      · exact Int.emod_lt_of_pos _ (by omega)
      · have : cells.length ≠ 0 := by rintro h; simp [List.length_eq_zero_iff.mp h] at e
        constructor <;> simp <;> omega
    · intro hc
      refine WS.nx ?_
      dsimp only
      refine WS.end (by simp (disch := omega); exact rfl) ?_
      dsimp only
      have b1 : 0 ≤ c % 2147483629 ∧ c % 2147483629 < 2147483629 := ⟨Int.emod_nonneg _ (by omega), Int.emod_lt_of_pos _ (by omega)⟩
      refine WS.seq (by simp (disch := omega); exact rfl) ?_
      refine WS.seq (by simp (disch := omega); exact rfl) ?_
      refine WS.seq (by simp (disch := omega); exact rfl) ?_
      refine WS.end (by simp (disch := omega); exact rfl) ⟨_, _, by simp; exact rfl, _, rfl, ?_, ?_, ?_⟩
      · exact Int.emod_nonneg _ (by omega)
      · exact Int.emod_lt_of_pos _ (by omega)
      · constructor <;> simp <;> omega
theorem pick_ok (st : Dn.Deck) (n : Int) (ds : List PyData) (h : DeckOk true n st) (hn : n ≤ 1000000) (h1 : ds ≠ []) (h2 : ds.length ≤ 1000) :
    ∃ s st', g_l_pick st [.tuple ds] = some (s, st') ∧ ∃ d, s = .sh d ∧ d ∈ ds ∧ DeckOk true (n + 1) st' := by
  have hl : 1 ≤ ds.length := by cases ds with
    | nil => exact absurd rfl h1
    | cons => simp
  obtain ⟨s, st', e, r, rfl, r0, r1, hd⟩ := draw_ok st n ds.length h hn (by omega) (by omega)
  obtain ⟨d, e1, e2⟩ := atI_of r0 r1
  refine bodyK_of rfl (WS.end (by simp [d_l_pick, startK, e, e2]; exact rfl) ?_)
  exact ⟨_, _, by simp; exact rfl, d, rfl, List.mem_of_getElem? e1, hd⟩

theorem pickl_ok (st : Dn.Deck) (n : Int) (ns : List Int) (h : DeckOk true n st) (hn : n ≤ 1000000) (h1 : ns ≠ []) (h2 : ns.length ≤ 1000) :
    ∃ s st', g_l_pick st [.list (ns.map PyData.int)] = some (s, st') ∧ ∃ d, s = .sh (.int d) ∧ d ∈ ns ∧ DeckOk true (n + 1) st' := by
  have hl : 1 ≤ (ns.map PyData.int).length := by cases ns with
    | nil => exact absurd rfl h1
    | cons => simp
  have hl2 : (ns.map PyData.int).length ≤ 1000 := by rw [List.length_map]; exact h2
  obtain ⟨s, st', e, r, rfl, r0, r1, hd⟩ := draw_ok st n (ns.map PyData.int).length h hn (by omega) (by omega)
  obtain ⟨d, e1, e2⟩ := atI_of r0 r1
  rw [List.getElem?_map] at e1
  obtain ⟨d', e3, rfl⟩ := Option.map_eq_some_iff.mp e1
  rw [List.length_map] at e
  refine bodyK_of rfl (WS.end (by simp [d_l_pick, startK, e, e2]; exact rfl) ?_)
  exact ⟨_, _, by simp; exact rfl, d', rfl, List.mem_of_getElem? e3, hd⟩
end K11
namespace K11
open PySem PyProof.Rows L2 Dn
@[simp] theorem v_is_integer (x : Int) : g_is_integer [.int x] = some (.sh (.bool true)) := rfl
/-! beginnings as data -/
def D (p : Bg.P) : PyData := .tuple [.int p.1, .tuple (p.2.map PyData.int)]
theorem flat_ints : ∀ ts : List Int, flatD.flatAll (ts.map PyData.int) = true
  | [] => rfl
  | t :: ts => by simp [flat_ints ts]
@[simp] theorem flat_D (p : Bg.P) : flatD (D p) = true := by simp [D, flat_ints]
@[simp] theorem at20 {α : Type} {a b : α} : atI [a, b] (0 : Int) = some a := rfl
@[simp] theorem at21 {α : Type} {a b : α} : atI [a, b] (1 : Int) = some b := rfl
/-- what the program calls a beginning -/
structure Bn (p : Bg.P) : Prop where
  pos : 0 < p.1
  len0 : 1 ≤ p.2.length
  len : p.2.length ≤ 400
theorem v_is_beginning {p : Bg.P} (h : Bn p) : g_is_beginning [D p] = some (.sh (.bool true)) := by
  have h1 := h.pos
  have h2 := h.len0
  have h3 := h.len
  have c1 : ¬ p.1 < 1 := by omega
  have c2 : (1 : Int) ≤ p.2.length := by omega
  have c3 : (p.2.length : Int) ≤ 400 := by omega
  refine bodyG_eq rfl (WS.seqW (WS.ifF (by simp [startE, D, c1]; exact rfl) (WS.nx ?_)))
  dsimp only
  refine WS.seqW (WS.ifF (by simp [c2, c3]; exact rfl) (WS.nx ?_))
  dsimp only
  have k := lcK_map (vs := [1]) (tg := nameG 1) (el := e1_is_beginning) (ρ := [some (.sh (D p)), none]) (inj := PyData.int) (e := fun _ => PyData.bool true) (xs := p.2) rfl (by omega) (fun x _ => ⟨_, Gv.eq (by simp; exact rfl), ⟨_, Gv.eq (by simp [e1_is_beginning]; exact rfl), rfl⟩, rfl⟩)
  refine WS.end (by simp [D] at k; simp [k]; exact rfl) ?_
  simp [Gv]
theorem v_need1 {p : Bg.P} (h : Bn p) : g_need_beginnings [.tuple [D p]] = some (.sh .none) := by
  refine bodyG_eq rfl ?_
  refine WS.end (o := .nx [some (.sh (.tuple [D p])), some (.sh (D p))]) (by simp [startE, d_need_beginnings, forGo_cons, w1_need_beginnings, v_is_beginning h]; exact rfl) rfl
theorem v_need2 {p q : Bg.P} (h : Bn p) (k : Bn q) : g_need_beginnings [.tuple [D p, D q]] = some (.sh .none) := by
  refine bodyG_eq rfl ?_
  refine WS.end (o := .nx [some (.sh (.tuple [D p, D q])), some (.sh (D q))]) (by simp [startE, d_need_beginnings, forGo_cons, w1_need_beginnings, v_is_beginning h, v_is_beginning k]; exact rfl) rfl
/-! the common divisor, lowest terms -/
theorem v_common_divisor (ts : List Int) (b : Int) (hb : 0 < b) : g_common_divisor [.list (ts.map PyData.int), .int b] = some (.sh (.int (Bg.G b.natAbs ts : Nat))) := by
  refine bodyG_eq rfl (WS.seq (by simp [startE]; exact rfl) (WS.seqW ?_))
  refine WS.forI (by simp; exact rfl) (fun i ρ => ∃ (c : Nat) (o : Option S), 0 < c ∧ ρ = [some (.sh (.list (ts.map PyData.int))), some (.sh (.int b)), some (.sh (.int c)), o] ∧ Bg.G c (ts.drop i) = Bg.G b.natAbs ts) ⟨b.natAbs, none, by omega, by rw [show ((b.natAbs : Nat) : Int) = b by omega], by simp⟩ ?_ ?_
  · rintro i d ρ hd ⟨c, o, hc, rfl, hG⟩
    rw [List.getElem?_map] at hd
    obtain ⟨t, ht, rfl⟩ := Option.map_eq_some_iff.mp hd
    have hdrop : ts.drop i = t :: ts.drop (i + 1) := by
      obtain ⟨h5, h6⟩ := List.getElem?_eq_some_iff.mp ht
      rw [List.drop_eq_getElem_cons h5, h6]
    refine ⟨_, Gv.eq (by simp; exact rfl), ?_⟩
    refine WS.seqW (WS.ifB (by simp; exact rfl) (fun h1 => ?_) (fun h1 => ?_))
    · have h1 : (c : Int) = 1 := by simpa using h1
      have h1 : c = 1 := by omega
      subst h1
      rw [Bg.G_one] at hG
      refine WS.end (by simp; exact rfl) ?_
      rw [← hG]; exact rfl
    · refine WS.nx ?_
      refine WS.end (by simp; exact rfl) ?_
      refine ⟨Nat.gcd c t.natAbs, _, Nat.gcd_pos_of_pos_left _ hc, rfl, ?_⟩
      rw [← hG, hdrop, Bg.G_cons]
  · rintro ρ ⟨c, o, hc, rfl, hG⟩
    rw [List.length_map, List.drop_length, Bg.G_nil] at hG
    subst hG
    refine WS.end (by simp; exact rfl) ?_
    exact rfl
/-- the first k addends -/
def pcv (f g : Nat → Int) : Nat → Nat → Int
  | 0, _ => 0
  | k + 1, j => pcv f g k j + if k ≤ j then f k * g (j - k) else 0
theorem pcv_zero (f g : Nat → Int) : ∀ k, pcv f g (k + 1) 0 = f 0 * g 0
  | 0 => by simp [pcv]
  | k + 1 => by rw [pcv, pcv_zero f g k, if_neg (by omega), Int.add_zero]
theorem pcv_succ (f g : Nat → Int) (j : Nat) : ∀ k, pcv f g (k + 1) (j + 1) = f 0 * g (j + 1) + pcv (fun i => f (i + 1)) g k j
  | 0 => by simp [pcv]
  | k + 1 => by
    rw [pcv, pcv_succ f g j k, pcv, Int.add_assoc]
    congr 2
    by_cases h : k ≤ j
    · rw [if_pos (by omega), if_pos h, show j + 1 - (k + 1) = j - k by omega]
    · rw [if_neg (by omega), if_neg h]
theorem pcv_all : ∀ (j k : Nat) (f g : Nat → Int), j < k → pcv f g k j = Bg.conv f g j
  | _, 0, _, _, h => absurd h (Nat.not_lt_zero _)
  | 0, k + 1, f, g, _ => by rw [pcv_zero]; rfl
  | j + 1, k + 1, f, g, h => by rw [pcv_succ, pcv_all j k _ g (by omega)]; rfl
theorem set_range (F : Nat → Int) (n k : Nat) (v : Int) : (((List.range n).map F).map PyData.int).set k (.int v) = ((List.range n).map fun j => if j = k then v else F j).map PyData.int := by
  refine List.ext_getElem? fun i => ?_
  by_cases hk : k = i
  · subst hk
    by_cases h : k < n
    · rw [List.getElem?_set_self (by simpa using h)]; simp [h]
    · rw [List.getElem?_eq_none (by simp; omega), List.getElem?_eq_none (by simp; omega)]
  · rw [List.getElem?_set_ne hk]
    simp only [List.getElem?_map]
    by_cases h : i < n
    · rw [List.getElem?_range h]
      simp [Ne.symm hk]
    · rw [List.getElem?_eq_none (by simp; omega)]; rfl
theorem ixN_nat {n k : Nat} (h : k < n) : ixN n (k : Int) = some k := by
  unfold ixN
  rw [if_pos (by omega), if_pos (by omega)]; simp
theorem at_gt {xs : List Int} {i : Nat} (h : i < xs.length) : atI (xs.map PyData.int) (i : Int) = some (.int (Bg.gt xs i)) := by
  rw [Dn.atI_nat (by simpa using h), List.getElem?_map, Bg.gt_lt h]; rfl
theorem at_range {F : Nat → Int} {n k : Nat} (h : k < n) : atI (((List.range n).map F).map PyData.int) (k : Int) = some (.int (F k)) := by
  rw [Dn.atI_nat (by simpa using h), List.getElem?_map, List.getElem?_map, List.getElem?_range h]; rfl
theorem gt_bd {xs : List Int} (h : ∀ t ∈ xs, -1000000000000000000000000000000 < t ∧ t < 1000000000000000000000000000000) (i : Nat) : -1000000000000000000000000000000 < Bg.gt xs i ∧ Bg.gt xs i < 1000000000000000000000000000000 := by
  by_cases hi : i < xs.length
  · exact h _ (List.mem_of_getElem? (Bg.gt_lt hi))
  · have : Bg.gt xs i = 0 := by unfold Bg.gt; simp [hi]
    rw [this]; exact ⟨by decide, by decide⟩
theorem rep_range (n : Nat) : List.replicate n (PyData.int 0) = ((List.range n).map fun _ => (0 : Int)).map PyData.int := by
  refine List.ext_getElem? fun i => ?_
  by_cases h : i < n
  · simp [h]
  · rw [List.getElem?_eq_none (by simp; omega), List.getElem?_eq_none (by simp; omega)]
/-! products, powers and what undoes them: numbers of many bits -/
theorem log2_bits {a : Int} {e : Nat} (h : a.natAbs < 2 ^ e) : a.natAbs.log2 ≤ e := by
  by_cases z : a.natAbs = 0
  · rw [z]; simp
  · exact Nat.le_of_lt ((Nat.log2_lt z).mpr h)
theorem mulS_bits {a b : Int} {e f : Nat} (ha : a.natAbs < 2 ^ e) (hb : b.natAbs < 2 ^ f) (h : e + f < 900000) : mulS (.int a) (.int b) = some (.sh (.int (a * b))) := by
  have h1 := log2_bits ha
  have h2 := log2_bits hb
  show (if _ then _ else _) = _
  rw [if_pos (by omega)]
theorem fdiv_bits {a b : Int} {e : Nat} (h0 : 0 < b) (hb : b.natAbs < 2 ^ e) (h : e ≤ 8000) : gInt (fun _ j => decide (0 < j) && decide (j.natAbs.log2 < 9000)) (fun i j => i / j) (.int a) (.int b) = some (.sh (.int (a / b))) := by
  have h1 := log2_bits hb
  rw [gInt_int, if_pos]
  rw [Bool.and_eq_true, decide_eq_true_iff, decide_eq_true_iff]
  exact ⟨h0, by omega⟩
theorem v_series {d1 d2 : PyData} {xs ys : List Int} {ea eb : Nat} (h1 : d1 = .tuple (xs.map PyData.int) ∨ d1 = .list (xs.map PyData.int)) (h2 : d2 = .tuple (ys.map PyData.int) ∨ d2 = .list (ys.map PyData.int))
    (l1 : xs.length ≤ 1000) (l2 : ys.length ≤ 1000) (b1 : Bg.Bd ea xs) (b2 : Bg.Bd eb ys) (hab : ea + eb < 900000) : g_series_product [d1, d2] = some (.ls ((Bg.cv xs ys).map PyData.int)) := by
  have n1 : gLen [d1] = some (.sh (.int xs.length)) := by rcases h1 with rfl | rfl <;> simp
  have n2 : gLen [d2] = some (.sh (.int ys.length)) := by rcases h2 with rfl | rfl <;> simp
  have x1 : ∀ i : Int, gIx d1 (.int i) = (atI (xs.map PyData.int) i).map .sh := fun i => by rcases h1 with rfl | rfl <;> simp
  have x2 : ∀ i : Int, gIx d2 (.int i) = (atI (ys.map PyData.int) i).map .sh := fun i => by rcases h2 with rfl | rfl <;> simp
  obtain ⟨n, hn⟩ : ∃ n : Nat, n = min xs.length ys.length := ⟨_, rfl⟩
  have e0 : (if ys.length < xs.length then (ys.length : Int) else (xs.length : Int)) = (n : Int) := by
    split <;> omega
  have m0 : mulS (.list [.int 0]) (.int (n : Int)) = some (.ls (((List.range n).map fun _ => (0 : Int)).map PyData.int)) := by
    show (if _ then _ else _) = _
    rw [if_pos (by omega), Int.toNat_natCast, rep_range]
  refine bodyG_eq rfl (WS.seq (by simp [startE, n1, n2, e0]; exact rfl) (WS.seq (by simp [-List.map_map, m0]; exact rfl) (WS.seqW ?_)))
  refine WS.forI (by simp (disch := omega) [-List.map_map]; exact rfl) (fun i ρ => ∃ o4 o5 o6 : Option S, ρ = [some (.sh d1), some (.sh d2), some (.sh (.int (n : Int))), some (.ls (((List.range n).map fun j => pcv (Bg.gt xs) (Bg.gt ys) i j).map PyData.int)), o4, o5, o6]) ⟨none, none, none, rfl⟩ ?_ ?_
  · rintro i d ρ hd ⟨o4, o5, o6, rfl⟩
    have hi : i < n := by
      have := (List.getElem?_eq_some_iff.mp hd).1
      rw [rngD_length] at this; omega
    rw [rngD_get _ _ _ (by omega), Int.zero_add] at hd
    cases hd
    refine ⟨_, Gv.eq (by simp [-List.map_map]; exact rfl), ?_⟩
    refine WS.seq (by simp [-List.map_map, x1, at_gt (show i < xs.length by omega)]; exact rfl) ?_
    refine WS.ifB (by simp [-List.map_map]; exact rfl) (fun hz => ?_) (fun hz => ?_)
    · refine WS.forI (ds := rngD 0 (n - i)) (by
        have e1 : ((n : Int) - (i : Int)).toNat = n - i := by omega
        simp (disch := omega) [-List.map_map, e1]; exact rfl) (fun m ρ => ∃ o6 : Option S, ρ = [some (.sh d1), some (.sh d2), some (.sh (.int (n : Int))), some (.ls (((List.range n).map fun j => pcv (Bg.gt xs) (Bg.gt ys) i j + if i ≤ j ∧ j < i + m then Bg.gt xs i * Bg.gt ys (j - i) else 0).map PyData.int)), some (.sh (.int (i : Int))), some (.sh (.int (Bg.gt xs i))), o6]) ⟨o6, ?_⟩ ?_ ?_
      · have e : (fun j => pcv (Bg.gt xs) (Bg.gt ys) i j + if i ≤ j ∧ j < i + 0 then Bg.gt xs i * Bg.gt ys (j - i) else 0) = fun j => pcv (Bg.gt xs) (Bg.gt ys) i j := by
          funext j
          rw [if_neg (by omega), Int.add_zero]
        rw [e]
      · rintro m d ρ hd ⟨o6, rfl⟩
        have hm : m < n - i := by
          have := (List.getElem?_eq_some_iff.mp hd).1
          rwa [rngD_length] at this
        rw [rngD_get _ _ _ hm, Int.zero_add] at hd
        cases hd
        have mm : mulS (.int (Bg.gt xs i)) (.int (Bg.gt ys m)) = some (.sh (.int (Bg.gt xs i * Bg.gt ys m))) := mulS_bits (b1.gt i) (b2.gt m) hab
        obtain ⟨k, hk⟩ : ∃ k : Nat, k = i + m := ⟨_, rfl⟩
        have ek : (i : Int) + (m : Int) = (k : Int) := by omega
        refine ⟨_, Gv.eq (by simp [-List.map_map]; exact rfl), ?_⟩
        refine WS.end (by simp (disch := omega) only [w1_series_product, ev_augIx, ev_bin, ev_nameE, lsOf_ev, eg0, eg1, eg2, eg3, eg4, eg5, eg6, es3, view_sh, Option.bind_some, Option.map_some, addS_int, ek, at_range (show k < n by omega), x2, at_gt (show m < ys.length by omega), mm, setAt_ev, List.length_map, List.length_range, ixN_nat (show k < n by omega), set_range]; exact rfl) ?_
        refine ⟨some (.sh (.int (m : Int))), ?_⟩
        congr 5
        congr 2
        refine List.map_congr_left fun j _ => ?_
        by_cases hj : j = k
        · subst hj
          rw [if_pos rfl, if_neg (by omega), if_pos (by omega), show j - i = m by omega, Int.add_zero]
        · rw [if_neg hj]
          congr 1
          by_cases h : i ≤ j ∧ j < i + m
          · rw [if_pos h, if_pos (by omega)]
          · rw [if_neg h, if_neg (by omega)]
      · rintro ρ ⟨o6, rfl⟩
        refine ⟨some (.sh (.int (i : Int))), some (.sh (.int (Bg.gt xs i))), o6, ?_⟩
        congr 5
        rw [rngD_length]
        refine congrArg S.ls (congrArg (List.map PyData.int) (List.map_congr_left fun j hj => ?_))
        have hj := List.mem_range.mp hj
        rw [pcv]
        congr 1
        by_cases h : i ≤ j
        · rw [if_pos (by omega), if_pos h]
        · rw [if_neg (by omega), if_neg h]
    · have hz : Bg.gt xs i = 0 := by simpa using hz
      refine WS.nx ?_
      refine ⟨some (.sh (.int (i : Int))), some (.sh (.int (Bg.gt xs i))), o6, ?_⟩
      congr 5
      refine congrArg S.ls (congrArg (List.map PyData.int) (List.map_congr_left fun j hj => ?_))
      rw [pcv, hz, Int.zero_mul]
      split <;> simp
  · rintro ρ ⟨o4, o5, o6, rfl⟩
    rw [rngD_length]
    try rw [show ((n : Nat) : Int).toNat = n by omega]
    have e : (List.range n).map (fun j => pcv (Bg.gt xs) (Bg.gt ys) n j) = Bg.cv xs ys := by
      unfold Bg.cv
      rw [← hn]
      exact List.map_congr_left fun j hj => pcv_all _ _ _ _ (List.mem_range.mp hj)
    rw [e]
    refine WS.end (by simp; exact rfl) ?_
    exact rfl
end K11
namespace K11
open PySem PyProof.Rows L2 Dn
/-! lowest terms, of any size -/
theorem fd_G {p : Bg.P} {e : Nat} (hb : 0 < p.1) (hb2 : p.1.natAbs < 2 ^ e) (h : e ≤ 8000 ∨ ((Bg.R p).1.natAbs < 2 ^ 4000 ∧ Bg.Bd 4000 (Bg.R p).2)) :
    fdP (.int p.1) (.int (Bg.G p.1.natAbs p.2 : Nat)) = some (.sh (.int (Bg.R p).1)) ∧ ∀ t ∈ p.2, fdP (.int t) (.int (Bg.G p.1.natAbs p.2 : Nat)) = some (.sh (.int (t / (Bg.G p.1.natAbs p.2 : Nat)))) := by
  have g0 := Bg.G_pos (b := p.1.natAbs) (by omega) p.2
  have g1 := Bg.G_le (b := p.1.natAbs) (by omega) p.2
  have c1 : (0 : Int) < (Bg.G p.1.natAbs p.2 : Int) := by omega
  rcases h with h | ⟨h1, h2⟩
  · have hl : ((Bg.G p.1.natAbs p.2 : Nat) : Int).natAbs.log2 < 9000 := by
      have := log2_bits (a := ((Bg.G p.1.natAbs p.2 : Nat) : Int)) (e := e) (by rw [Int.natAbs_natCast]; omega)
      omega
    exact ⟨fdP_small c1 hl, fun t _ => fdP_small c1 hl⟩
  · refine ⟨?_, fun t ht => ?_⟩
    · have := fdP_mul c1 h1 (Nat.le_refl _)
      rwa [← (Bg.R_back (p := p)).1] at this
    · have e1 := (Bg.R_back (p := p)).2 t ht
      have := fdP_mul c1 (h2 (t / (Bg.G p.1.natAbs p.2 : Int)) (List.mem_map.mpr ⟨t, ht, rfl⟩)) (Nat.le_refl _)
      rwa [← e1] at this
theorem v_beginning_ofG (p : Bg.P) {e : Nat} (hb : 0 < p.1) (hb2 : p.1.natAbs < 2 ^ e) (h : e ≤ 8000 ∨ ((Bg.R p).1.natAbs < 2 ^ 4000 ∧ Bg.Bd 4000 (Bg.R p).2)) (hl : p.2.length ≤ 1000) : g_beginning_of [.int p.1, .list (p.2.map PyData.int)] = some (.sh (D (Bg.R p))) := by
  obtain ⟨f1, f2⟩ := fd_G hb hb2 h
  refine bodyG_eq rfl (WS.seq (by simp [startE, v_common_divisor p.2 p.1 hb]; exact rfl) ?_)
  have k := lcK_map (vs := [3]) (tg := nameG 3) (el := e1_beginning_of) (ρ := [some (.sh (.int p.1)), some (.sh (.list (p.2.map PyData.int))), some (.sh (.int (Bg.G p.1.natAbs p.2 : Nat))), none]) (inj := PyData.int) (e := fun t => PyData.int (t / (Bg.G p.1.natAbs p.2 : Nat))) (xs := p.2) rfl (by omega)
    (fun x hx => by
      have f3 := f2 x hx
      exact ⟨_, Gv.eq (by simp; exact rfl), ⟨_, Gv.eq (by simp [e1_beginning_of, f3]; exact rfl), rfl⟩, rfl⟩)
  refine WS.end (by simp [k, f1]; exact rfl) ?_
  simp [Gv, D, Bg.R]
theorem v_beginning_ofB (p : Bg.P) {e : Nat} (hb : 0 < p.1) (hb2 : p.1.natAbs < 2 ^ e) (he : e ≤ 8000) (hl : p.2.length ≤ 1000) : g_beginning_of [.int p.1, .list (p.2.map PyData.int)] = some (.sh (D (Bg.R p))) := v_beginning_ofG p hb hb2 (.inl he) hl

theorem v_multipliedB {p q : Bg.P} {e f g h : Nat} (hp : Bn p) (hq : Bn q) (h1 : Bg.Bd e p.2) (h2 : Bg.Bd f q.2) (hef : e + f < 900000) (h3 : p.1.natAbs < 2 ^ g) (h4 : q.1.natAbs < 2 ^ h) (hgh : g + h ≤ 8000) : g_multiplied [D p, D q] = some (.sh (D (Bg.R (Bg.mul p q)))) := by
  have pl := hp.len
  have ql := hq.len
  have nd := v_need2 hp hq
  have L0 : 0 < p.1 * q.1 := Int.mul_pos hp.pos hq.pos
  have mb : (p.1 * q.1).natAbs < 2 ^ (g + h) := by rw [Int.natAbs_mul, Nat.pow_add]; exact Nat.mul_lt_mul'' h3 h4
  have m1 : mulS (.int p.1) (.int q.1) = some (.sh (.int (p.1 * q.1))) := mulS_bits h3 h4 (by omega)
  have sr := v_series (d1 := .tuple (p.2.map PyData.int)) (d2 := .tuple (q.2.map PyData.int)) (.inl rfl) (.inl rfl) (by omega) (by omega) h1 h2 hef
  have bo := v_beginning_ofB (Bg.mul p q) L0 mb hgh (by show (Bg.cv _ _).length ≤ _; rw [Bg.cv_len]; omega)
  have bo : g_beginning_of [.int (p.1 * q.1), .list ((Bg.cv p.2 q.2).map PyData.int)] = some (.sh (D (Bg.R (Bg.mul p q)))) := bo
  refine bodyG_eq rfl (WS.seq (by simp [startE, nd]; exact rfl) ?_)
  refine WS.end (by simp [D, m1, sr, flat_ints, bo]; exact rfl) ?_
  exact rfl
theorem one_list (n : Nat) (h : 1 ≤ n) : PyData.int 1 :: List.replicate (n - 1) (PyData.int 0) = (Bg.one n).map PyData.int := by
  obtain ⟨m, rfl⟩ : ∃ m, n = m + 1 := ⟨n - 1, by omega⟩
  unfold Bg.one
  rw [List.range_succ_eq_map, List.map_cons, List.map_cons, List.map_map, List.map_map]
  congr 1
  rw [Nat.add_sub_cancel]
  refine List.ext_getElem? fun i => ?_
  by_cases h : i < m
  · simp [h]
  · rw [List.getElem?_eq_none (by simp; omega), List.getElem?_eq_none (by simp; omega)]
theorem v_series_power {d : PyData} {xs : List Int} {e : Nat} (hd : d = .tuple (xs.map PyData.int) ∨ d = .list (xs.map PyData.int)) (l1 : 1 ≤ xs.length) (l2 : xs.length ≤ 400) (hb : Bg.Bd e xs) (k : Nat) (hk : 2 * (k * (e + 10) + 1) < 900000) :
    g_series_power [d, .int (k : Int)] = some (.ls ((Bg.pw xs k).map PyData.int)) := by
  have n1 : gLen [d] = some (.sh (.int xs.length)) := by rcases hd with rfl | rfl <;> simp
  have n2 : gList [d] = some (.ls (xs.map PyData.int)) := by rcases hd with rfl | rfl <;> simp
  have kk : k ≤ 900000 := by
    have := Nat.le_mul_of_pos_right k (show 0 < e + 10 by omega)
    omega
  have m0 : mulS (.list [.int 0]) (.int ((xs.length : Int) - 1)) = some (.ls (List.replicate (xs.length - 1) (.int 0))) := by
    show (if _ then _ else _) = _
    rw [if_pos (by omega), show ((xs.length : Int) - 1).toNat = xs.length - 1 by omega]
  have a0 : addS (.list [.int 1]) (.list (List.replicate (xs.length - 1) (.int 0))) = some (.ls ((Bg.pw xs 0).map PyData.int)) := by
    rw [addS_list, if_pos (by simp; omega), List.cons_append, List.nil_append, one_list _ l1]; rfl
  refine bodyG_eq rfl (WS.seq (by simp [startE, n1, m0, a0]; exact rfl) (WS.seq (ρ' := [some (.sh d), some (.sh (.int (k : Int))), some (.ls ((Bg.pw xs 0).map PyData.int)), some (.ls ((Bg.pw xs 1).map PyData.int))]) (by rw [Bg.pw_one]; simp [n2]; exact rfl) (WS.seqW ?_)))
  refine WS.whileM (t := t1_series_power) (f := w2_series_power) (fun ρ => ∃ i j m : Nat, ρ = [some (.sh d), some (.sh (.int (m : Int))), some (.ls ((Bg.pw xs i).map PyData.int)), some (.ls ((Bg.pw xs j).map PyData.int))] ∧ i + j * m = k ∧ 1 ≤ j ∧ m ≤ k)
    (fun ρ => match ρ with | [_, some (.sh (.int y)), _, _] => y.toNat | _ => 0) ⟨0, 1, k, rfl, by omega, by omega, by omega⟩ ?_ ?_
  · rintro ρ ⟨i, j, m, rfl, h, hj, hm⟩
    simp; omega
  · rintro ρ ⟨i, j, m, rfl, h, hj, hm⟩
    refine ⟨_, _, Gv.eq (by simp [t1_series_power]; exact rfl), fun hm0 => ?_, fun hm0 => ?_⟩
    · have hm0 : 0 < m := by simpa using hm0
      have hjk : j ≤ k := by
        have := Nat.le_mul_of_pos_right j hm0
        omega
      have bd : ∀ a, a ≤ k → Bg.Bd (k * (e + 10) + 1) (Bg.pw xs a) := fun a ha => (Bg.pw_Bd (by omega) hb a).mono (by have := Nat.mul_le_mul_right (e + 10) ha; omega)
      have sr : ∀ a b, a ≤ k → b ≤ k → g_series_product [.list ((Bg.pw xs a).map PyData.int), .list ((Bg.pw xs b).map PyData.int)] = some (.ls ((Bg.pw xs (a + b)).map PyData.int)) := fun a b ha hb' => by
        rw [Bg.pw_add]
        exact v_series (.inr rfl) (.inr rfl) (by rw [Bg.pw_len]; omega) (by rw [Bg.pw_len]; omega) (bd a ha) (bd b hb') (by omega)
      have s1 := sr i j (by omega) hjk
      have s2 := sr j j hjk hjk
      have f1 := modS_nat (i := m) (m := 2) (by omega)
      have f2 := fdiv_nat (i := m) (m := 2) (by omega) (by omega)
      obtain ⟨r, hr⟩ : ∃ r, r = m % 2 := ⟨_, rfl⟩
      obtain ⟨q, hq⟩ : ∃ q, q = m / 2 := ⟨_, rfl⟩
      rw [← hr] at f1
      rw [← hq] at f2
      have f1 : modS (.int (m : Int)) (.int 2) = some (.sh (.int (r : Int))) := f1
      have f2 : gInt (fun _ j => decide (0 < j) && decide (j.natAbs.log2 < 9000)) (fun i j => i / j) (.int (m : Int)) (.int 2) = some (.sh (.int (q : Int))) := f2
      obtain ⟨i', hi'⟩ : ∃ i', i' = if r = 1 then i + j else i := ⟨_, rfl⟩
      refine WS.seq (ρ' := [some (.sh d), some (.sh (.int (m : Int))), some (.ls ((Bg.pw xs i').map PyData.int)), some (.ls ((Bg.pw xs j).map PyData.int))]) (by
        by_cases hp : r = 1
        · rw [if_pos hp] at hi'
          subst hi' hp
          simp [f1, s1, flat_ints]; exact rfl
        · rw [if_neg hp] at hi'
          have hp' : ¬ (r : Int) = 1 := by omega
          subst hi'
          simp [f1, hp']; exact rfl) ?_
      refine WS.seq (ρ' := [some (.sh d), some (.sh (.int (q : Int))), some (.ls ((Bg.pw xs i').map PyData.int)), some (.ls ((Bg.pw xs j).map PyData.int))]) (by simp [f2]; exact rfl) ?_
      by_cases hq0 : 0 < q
      · refine WS.ifT (by simp [hq0]; exact rfl) (WS.end (by simp [s2, flat_ints]; exact rfl) ?_)
        refine ⟨⟨i', j + j, q, rfl, ?_, by omega, by omega⟩, by simp; omega⟩
        have e2 : (j + j) * q = j * (2 * q) := by rw [← Nat.mul_two j, Nat.mul_assoc]
        rw [e2, hi']
        split
        · have e3 : m = 2 * q + 1 := by omega
          rw [e3, Nat.mul_succ] at h
          omega
        · have e3 : m = 2 * q := by omega
          rw [e3] at h
          exact h
      · refine WS.ifF (by simp [hq0]; exact rfl) (WS.nx ?_)
        have q0 : q = 0 := by omega
        have m1 : m = 1 := by omega
        have r1 : r = 1 := by omega
        refine ⟨⟨i', j, q, rfl, ?_, hj, by omega⟩, by simp; omega⟩
        rw [hi', if_pos r1, q0, Nat.mul_zero]
        rw [m1] at h
        omega
    · have hm' : m = 0 := by simp at hm0; omega
      subst hm'
      rw [Nat.mul_zero, Nat.add_zero] at h
      subst h
      refine WS.end (by simp; exact rfl) ?_
      exact rfl
theorem v_series_inverse {d : PyData} {xs : List Int} {e : Nat} (hd : d = .tuple (xs.map PyData.int) ∨ d = .list (xs.map PyData.int)) (l1 : 1 ≤ xs.length) (l2 : xs.length ≤ 400) (hb : Bg.Bd e xs) (he : xs.length * (2 * e + 1) + e + 10 < 900000) :
    g_series_inverse [d] = some (.ls ((Bg.ivs (Bg.gt xs 0) (Bg.gt xs) (xs.length - 1)).map PyData.int)) := by
  have n1 : gLen [d] = some (.sh (.int xs.length)) := by rcases hd with rfl | rfl <;> simp
  have x1 : ∀ i : Int, gIx d (.int i) = (atI (xs.map PyData.int) i).map .sh := fun i => by rcases hd with rfl | rfl <;> simp
  have a0 := at_gt (xs := xs) (i := 0) (by omega)
  have a0 : atI (xs.map PyData.int) (0 : Int) = some (.int (Bg.gt xs 0)) := a0
  obtain ⟨c, hc⟩ : ∃ c, c = Bg.gt xs 0 := ⟨_, rfl⟩
  rw [← hc] at a0 ⊢
  have cb : c.natAbs < 2 ^ e := by rw [hc]; exact hb.gt 0
  refine bodyG_eq rfl (WS.seq (by simp [startE, x1, a0]; exact rfl) (WS.seqW ?_))
  refine WS.forI (ds := rngD 1 (xs.length - 1)) (by
    have e1 : ((xs.length : Int) - 1).toNat = xs.length - 1 := by omega
    simp (disch := omega) [n1, e1]; exact rfl) (fun i ρ => ∃ o3 o4 o5 o6 : Option S, ρ = [some (.sh d), some (.sh (.int c)), some (.ls ((Bg.ivs c (Bg.gt xs) i).map PyData.int)), o3, o4, o5, o6]) ⟨none, none, none, none, rfl⟩ ?_ ?_
  · rintro i dd ρ hdd ⟨o3, o4, o5, o6, rfl⟩
    have hi : i < xs.length - 1 := by
      have := (List.getElem?_eq_some_iff.mp hdd).1
      rwa [rngD_length] at this
    rw [rngD_get _ _ _ hi] at hdd
    cases hdd
    rw [show (1 : Int) + (i : Int) = ((i + 1 : Nat) : Int) by omega]
    obtain ⟨n, hn⟩ : ∃ n, n = i + 1 := ⟨_, rfl⟩
    rw [← hn]
    refine ⟨_, Gv.eq (by simp; exact rfl), ?_⟩
    refine WS.seq (ρ' := [some (.sh d), some (.sh (.int c)), some (.ls ((Bg.ivs c (Bg.gt xs) i).map PyData.int)), some (.sh (.int (n : Int))), some (.sh (.int 0)), some (.sh (.int 1)), o6]) (by simp; exact rfl) (WS.seqW ?_)
    refine WS.forI (ds := rngD 1 n) (by
      have e1 : ((n : Int) + 1 - 1).toNat = n := by omega
      simp (disch := omega) [e1]; exact rfl) (fun j ρ => ∃ o6 : Option S, ρ = [some (.sh d), some (.sh (.int c)), some (.ls ((Bg.ivs c (Bg.gt xs) i).map PyData.int)), some (.sh (.int (n : Int))), some (.sh (.int (Bg.ivSum c (Bg.gt xs) (Bg.ivs c (Bg.gt xs) i) n j))), some (.sh (.int (c ^ j))), o6]) ⟨o6, rfl⟩ ?_ ?_
    · rintro j dd ρ hdd ⟨o6, rfl⟩
      have hj : j < n := by
        have := (List.getElem?_eq_some_iff.mp hdd).1
        rwa [rngD_length] at this
      rw [rngD_get _ _ _ hj] at hdd
      cases hdd
      obtain ⟨j1, hj1⟩ : ∃ j1, j1 = j + 1 := ⟨_, rfl⟩
      obtain ⟨k1, hk1⟩ : ∃ k1, k1 = n - j1 := ⟨_, rfl⟩
      rw [show (1 : Int) + (j : Int) = (j1 : Int) by omega]
      have a1 := at_gt (xs := xs) (i := j1) (by omega)
      have a2 := at_gt (xs := Bg.ivs c (Bg.gt xs) i) (i := k1) (by rw [Bg.ivs_len]; omega)
      have es : (n : Int) - (j1 : Int) = (k1 : Int) := by omega
      have b1 := hb.gt j1
      have b2 : (Bg.gt (Bg.ivs c (Bg.gt xs) i) k1).natAbs < 2 ^ (xs.length * (e + 1) + 1) := by
        rw [Bg.ivs_gt c _ _ _ (by omega)]
        have h1 := Bg.iu_bits (c := c) (t := Bg.gt xs) (e := e) (Nat.le_of_lt cb) (fun i => Nat.le_of_lt (hb.gt i)) i k1 (by omega)
        refine Nat.lt_of_le_of_lt h1 (Nat.pow_lt_pow_right (by decide) ?_)
        have := Nat.mul_le_mul_right (e + 1) (show k1 ≤ xs.length by omega)
        omega
      have b3 : (c ^ j).natAbs < 2 ^ (xs.length * e + 1) := by
        rw [Int.natAbs_pow]
        refine Nat.lt_of_le_of_lt (Nat.pow_le_pow_left (Nat.le_of_lt cb) j) ?_
        rw [← Nat.pow_mul]
        refine Nat.pow_lt_pow_right (by decide) ?_
        have := Nat.mul_le_mul_left e (show j ≤ xs.length by omega)
        rw [Nat.mul_comm e xs.length] at this
        omega
      have be : xs.length * (2 * e + 1) = xs.length * (e + 1) + xs.length * e := by rw [← Nat.mul_add]; congr 1; omega
      have su : Bg.ivSum c (Bg.gt xs) (Bg.ivs c (Bg.gt xs) i) n j + Bg.gt xs j1 * Bg.gt (Bg.ivs c (Bg.gt xs) i) k1 * c ^ j = Bg.ivSum c (Bg.gt xs) (Bg.ivs c (Bg.gt xs) i) n j1 := by rw [hk1, hj1]; rfl
      have pj : c ^ j * c = c ^ j1 := by rw [hj1, Int.pow_succ]
      have b12 : (Bg.gt xs j1 * Bg.gt (Bg.ivs c (Bg.gt xs) i) k1).natAbs < 2 ^ (e + (xs.length * (e + 1) + 1)) := by
        rw [Int.natAbs_mul, Nat.pow_add]; exact Nat.mul_lt_mul'' b1 b2
      obtain ⟨v1, hv1⟩ : ∃ v, v = Bg.gt xs j1 := ⟨_, rfl⟩
      obtain ⟨v2, hv2⟩ : ∃ v, v = Bg.gt (Bg.ivs c (Bg.gt xs) i) k1 := ⟨_, rfl⟩
      obtain ⟨v3, hv3⟩ : ∃ v, v = c ^ j := ⟨_, rfl⟩
      obtain ⟨v4, hv4⟩ : ∃ v, v = c ^ j1 := ⟨_, rfl⟩
      obtain ⟨w0, hw0⟩ : ∃ v, v = Bg.ivSum c (Bg.gt xs) (Bg.ivs c (Bg.gt xs) i) n j := ⟨_, rfl⟩
      obtain ⟨w1, hw1⟩ : ∃ v, v = Bg.ivSum c (Bg.gt xs) (Bg.ivs c (Bg.gt xs) i) n j1 := ⟨_, rfl⟩
      have m1 : mulS (.int (Bg.gt xs j1)) (.int (Bg.gt (Bg.ivs c (Bg.gt xs) i) k1)) = some (.sh (.int (Bg.gt xs j1 * Bg.gt (Bg.ivs c (Bg.gt xs) i) k1))) := mulS_bits b1 b2 (by omega)
      have m2 : mulS (.int (Bg.gt xs j1 * Bg.gt (Bg.ivs c (Bg.gt xs) i) k1)) (.int (c ^ j)) = some (.sh (.int (Bg.gt xs j1 * Bg.gt (Bg.ivs c (Bg.gt xs) i) k1 * c ^ j))) := mulS_bits b12 b3 (by omega)
      have m3 : mulS (.int (c ^ j)) (.int c) = some (.sh (.int (c ^ j * c))) := mulS_bits b3 cb (by omega)
      rw [pj] at m3
      rw [← hw0, ← hw1, ← hv1, ← hv2, ← hv3] at su
      rw [← hv1, ← hv2] at m1 m2
      rw [← hv3] at m2 m3
      rw [← hv4] at m3
      rw [← hv1] at a1
      rw [← hv2] at a2
      rw [← hw0, ← hv3]
      clear b1 b2 b3 b12 be pj
      refine ⟨_, Gv.eq (by simp; exact rfl), ?_⟩
      refine WS.seq (ρ' := [some (.sh d), some (.sh (.int c)), some (.ls ((Bg.ivs c (Bg.gt xs) i).map PyData.int)), some (.sh (.int (n : Int))), some (.sh (.int w1)), some (.sh (.int v3)), some (.sh (.int (j1 : Int)))]) (by simp [x1, a1, es, a2, m1, m2, su]; exact rfl) ?_
      refine WS.end (by simp [m3]; exact rfl) ?_
      refine ⟨some (.sh (.int (j1 : Int))), ?_⟩
      rw [hw1, hv4, hj1]
    · rintro ρ ⟨o6, rfl⟩
      rw [rngD_length]
      have lt : ((Bg.ivs c (Bg.gt xs) i).map PyData.int).length < 1000000 := by rw [List.length_map, Bg.ivs_len]; omega
      have ap : (Bg.ivs c (Bg.gt xs) i).map PyData.int ++ [.int (-(Bg.ivSum c (Bg.gt xs) (Bg.ivs c (Bg.gt xs) i) n n))] = (Bg.ivs c (Bg.gt xs) n).map PyData.int := by
        rw [hn, Bg.ivs, List.map_append]; rfl
      obtain ⟨w, hw⟩ : ∃ v, v = Bg.ivSum c (Bg.gt xs) (Bg.ivs c (Bg.gt xs) i) n n := ⟨_, rfl⟩
      rw [← hw] at ap ⊢
      refine WS.end (by simp [-List.length_map, lt, ap]; exact rfl) ?_
      exact ⟨_, _, _, _, rfl⟩
  · rintro ρ ⟨o3, o4, o5, o6, rfl⟩
    rw [rngD_length]
    refine WS.end (by simp; exact rfl) ?_
    exact rfl
/-! powers of an integer -/
theorem log2_powB {b : Int} {w : Nat} (hb : b.natAbs < 2 ^ w) (i : Nat) : (b ^ i).natAbs < 2 ^ (w * i + 1) := by
  rw [Int.natAbs_pow]
  refine Nat.lt_of_le_of_lt (Nat.pow_le_pow_left (Nat.le_of_lt hb) i) ?_
  rw [← Nat.pow_mul]
  exact Nat.pow_lt_pow_right (by decide) (by omega)
theorem mulS_powB {b : Int} {w : Nat} (hb : b.natAbs < 2 ^ w) {i j : Nat} (h : w * (i + j) + 2 < 900000) : mulS (.int (b ^ i)) (.int (b ^ j)) = some (.sh (.int (b ^ (i + j)))) := by
  rw [Int.pow_add]
  exact mulS_bits (log2_powB hb i) (log2_powB hb j) (by rw [Nat.mul_add] at h; omega)
theorem v_power_of {b : Int} {n w : Nat} (hb : b.natAbs < 2 ^ w) (hn : w * (4 * n + 4) + 2 < 900000) (hn2 : n < 900000) : g_power_of [.int b, .int n] = some (.sh (.int (b ^ n))) := by
  refine bodyG_eq rfl ?_
  refine WS.seq (by simp [startE]; exact rfl) ?_
  refine WS.seqW ?_
  refine WS.whileM (t := t1_power_of) (f := w2_power_of) (fun ρ => ∃ i j m : Nat, ρ = [some (.sh (.int b)), some (.sh (.int m)), some (.sh (.int (b ^ i))), some (.sh (.int (b ^ j)))] ∧ i + j * m = n ∧ (0 < m → j ≤ n) ∧ j ≤ 2 * n + 1 ∧ i ≤ n ∧ m ≤ n)
    (fun ρ => match ρ with | [_, some (.sh (.int y)), _, _] => y.toNat | _ => 0) ⟨0, 1, n, by rw [show b ^ 1 = b by rw [Int.pow_succ, Int.pow_zero, Int.one_mul], Int.pow_zero], by omega, by omega, by omega, by omega, Nat.le_refl n⟩ ?_ ?_
  · rintro ρ ⟨i, j, m, rfl, h1, h2, h3, h4, h5⟩
    simp; omega
  · rintro ρ ⟨i, j, m, rfl, h1, h2, h3, h4, h5⟩
    refine ⟨_, _, Gv.eq (by simp [t1_power_of]; exact rfl), fun hm => ?_, fun hm => ?_⟩
    · have hm' : 0 < m := by simpa using hm
      have hj := h2 hm'
      refine WS.seq (ρ' := [some (.sh (.int b)), some (.sh (.int m)), some (.sh (.int (b ^ (if m % 2 = 1 then i + j else i)))), some (.sh (.int (b ^ j)))]) ?_ ?_
      · by_cases hp : m % 2 = 1
        · have e : (m : Int) % 2 = 1 := by omega
          simp [e, hp, mulS_powB hb (show w * (i + j) + 2 < 900000 by have := Nat.mul_le_mul_left w (show i + j ≤ 4 * n + 4 by omega); omega)]
          exact rfl
        · have e : ¬ (m : Int) % 2 = 1 := by omega
          simp [e, hp]
          exact rfl
      · refine WS.seq (by simp [mulS_powB hb (show w * (j + j) + 2 < 900000 by have := Nat.mul_le_mul_left w (show j + j ≤ 4 * n + 4 by omega); omega)]; exact rfl) ?_
        refine WS.end (by simp (disch := omega); exact rfl) ?_
        refine ⟨⟨_, j + j, m / 2, by simp; exact rfl, ?_, ?_, by omega, ?_, by omega⟩, by simp; omega⟩
        · have e2 : (j + j) * (m / 2) = j * (2 * (m / 2)) := by rw [← Nat.mul_two j, Nat.mul_assoc]
          rw [e2]
          split
          · have e3 : m = 2 * (m / 2) + 1 := by omega
            have e4 : j * m = j * (2 * (m / 2)) + j := by
              conv => lhs; rw [e3]
              rw [Nat.mul_add, Nat.mul_one]
            omega
          · have e3 : m = 2 * (m / 2) := by omega
            rw [← e3]; exact h1
        · intro h0
          have := Nat.le_mul_of_pos_right (j + j) h0
          have e2 : (j + j) * (m / 2) = j * (2 * (m / 2)) := by rw [← Nat.mul_two j, Nat.mul_assoc]
          have e3 : j * (2 * (m / 2)) ≤ j * m := Nat.mul_le_mul_left j (by omega)
          omega
        · split
          · have := Nat.le_mul_of_pos_right j hm'
            omega
          · exact h4
    · have hm' : m = 0 := by simp at hm; omega
      subst hm'
      refine WS.end (by simp; exact rfl) ?_
      simp at h1
      subst h1
      exact rfl
end K11
namespace K11
open PySem PyProof.Rows L2 Dn
theorem enum_gt (ts : List Int) : enumD 0 (ts.map PyData.int) = (List.range ts.length).map fun i : Nat => PyData.tuple [.int (i : Int), .int (Bg.gt ts i)] := by
  rw [enumD_map]
  refine List.ext_getElem? fun i => ?_
  by_cases h : i < ts.length
  · simp [h, Bg.gt]
  · rw [List.getElem?_eq_none (by simp; omega), List.getElem?_eq_none (by simp; omega)]
/-! the program's powers -/
theorem R_Bd {p : Bg.P} {e : Nat} (h : Bg.Bd e p.2) (hp : 0 < p.1) : Bg.Bd e (Bg.R p).2 := by
  intro t ht
  have ht : t ∈ p.2.map fun t => t / (Bg.G p.1.natAbs p.2 : Int) := ht
  obtain ⟨u, hu, rfl⟩ := List.mem_map.mp ht
  have hb := h u hu
  have e1 := (Bg.R_back (p := p)).2 u hu
  have hg := Bg.G_pos (b := p.1.natAbs) (by omega) p.2
  have e2 := congrArg Int.natAbs e1
  rw [Int.natAbs_mul, Int.natAbs_natCast] at e2
  have := Nat.le_mul_of_pos_right (u / (Bg.G p.1.natAbs p.2 : Int)).natAbs hg
  omega
theorem R_bits {p : Bg.P} {w : Nat} (h : p.1.natAbs < 2 ^ w) (hp : 0 < p.1) : (Bg.R p).1.natAbs < 2 ^ w := by
  have h1 := Bg.R_le hp
  have h2 := Bg.R_pos hp
  omega
theorem Bn.R {p : Bg.P} (h : Bn p) : Bn (Bg.R p) := ⟨Bg.R_pos h.pos, by rw [Bg.R_length]; exact h.len0, by rw [Bg.R_length]; exact h.len⟩
theorem powC {p : Bg.P} {k e w : Nat} (hp : Bn p) (hb : Bg.Bd e p.2) (hw : p.1.natAbs < 2 ^ w) (h0 : k < 10000) (h1 : 2 * (k * (e + 10) + 1) < 900000) (h2 : w * (4 * k + 4) + 2 < 900000) (h3 : w * k + 1 ≤ 8000) :
    g_power_of [.int p.1, .int (k : Int)] = some (.sh (.int (p.1 ^ k))) ∧ g_series_power [.tuple (p.2.map PyData.int), .int (k : Int)] = some (.ls ((Bg.pw p.2 k).map PyData.int)) ∧ g_beginning_of [.int (p.1 ^ k), .list ((Bg.pw p.2 k).map PyData.int)] = some (.sh (D (Bg.R (p.1 ^ k, Bg.pw p.2 k)))) := by
  refine ⟨v_power_of hw h2 (by omega), v_series_power (.inl rfl) hp.len0 hp.len hb k h1, ?_⟩
  exact v_beginning_ofB (p.1 ^ k, Bg.pw p.2 k) (Int.pow_pos hp.pos) (log2_powB hw k) h3 (by show (Bg.pw p.2 k).length ≤ 1000; rw [Bg.pw_len]; have := hp.len; omega)
theorem v_power_pos {p : Bg.P} {k e w : Nat} (hp : Bn p) (hb : Bg.Bd e p.2) (hw : p.1.natAbs < 2 ^ w) (h0 : k < 10000) (h1 : 2 * (k * (e + 10) + 1) < 900000) (h2 : w * (4 * k + 4) + 2 < 900000) (h3 : w * k + 1 ≤ 8000) :
    g_power [D p, .int (k : Int)] = some (.sh (D (Bg.R (p.1 ^ k, Bg.pw p.2 k)))) := by
  obtain ⟨c1, c2, c3⟩ := powC hp hb hw h0 h1 h2 h3
  have nd := v_need1 hp
  obtain ⟨b, hb'⟩ : ∃ b, b = p.1 ^ k := ⟨_, rfl⟩
  rw [← hb'] at c1 c3 ⊢
  refine bodyG_eq rfl (WS.seq (by simp [startE, nd]; exact rfl) (WS.seqW (WS.ifF (by simp; exact rfl) (WS.nx ?_))))
  dsimp only
  refine WS.seq (ρ' := [some (.sh (D p)), some (.sh (.int (k : Int))), some (.sh (.int p.1)), some (.sh (.tuple (p.2.map PyData.int))), none, none, none, none, none, none, none, none]) (by simp [D]; exact rfl) ?_
  refine WS.seqW (WS.ifT (by simp; exact rfl) ?_)
  refine WS.end (by simp [c1, c2, c3, flat_ints]; exact rfl) ?_
  exact rfl
def sgn (x : Int) : Int := if x < 0 then -1 else 1
theorem sgn_pos {x : Int} (h : x ≠ 0) : 0 < sgn x * x := by unfold sgn; split <;> omega
/-- what undoes a beginning, not yet in lowest terms -/
def ivp (p : Bg.P) : Bg.P := (sgn (Bg.gt p.2 0 ^ p.2.length) * Bg.gt p.2 0 ^ p.2.length, (List.range p.2.length).map fun i => sgn (Bg.gt p.2 0 ^ p.2.length) * p.1 * Bg.iw (Bg.gt p.2 0) (Bg.gt p.2) p.2.length i)
theorem ivp_len (p : Bg.P) : (ivp p).2.length = p.2.length := by unfold ivp; simp
theorem cpow_ne {c : Int} (h : c ≠ 0) : ∀ n : Nat, c ^ n ≠ 0
  | 0 => by rw [Int.pow_zero]; decide
  | n + 1 => by rw [Int.pow_succ]; exact Int.mul_ne_zero (cpow_ne h n) h
theorem ivp_pos {p : Bg.P} (h : Bg.gt p.2 0 ≠ 0) : 0 < (ivp p).1 := by
  exact sgn_pos (cpow_ne h _)
theorem sgn_abs (x : Int) : (sgn x).natAbs = 1 := by unfold sgn; split <;> rfl
theorem iw_bits {xs : List Int} {e : Nat} (hb : Bg.Bd e xs) {i : Nat} (hi : i < xs.length) : (Bg.iu (Bg.gt xs 0) (Bg.gt xs) i).natAbs < 2 ^ (xs.length * (e + 1) + 1) := by
  have h1 := Bg.iu_bits (c := Bg.gt xs 0) (t := Bg.gt xs) (e := e) (Nat.le_of_lt (hb.gt 0)) (fun i => Nat.le_of_lt (hb.gt i)) i i (Nat.le_refl _)
  refine Nat.lt_of_le_of_lt h1 (Nat.pow_lt_pow_right (by decide) ?_)
  have := Nat.mul_le_mul_right (e + 1) (Nat.le_of_lt hi)
  omega
theorem cpow_bits {c : Int} {e n m : Nat} (hc : c.natAbs < 2 ^ e) (h : m ≤ n) : (c ^ m).natAbs < 2 ^ (n * e + 1) := by
  refine Nat.lt_of_lt_of_le (log2_powB hc m) (Nat.pow_le_pow_right (by decide) ?_)
  have := Nat.mul_le_mul_left e h
  rw [Nat.mul_comm e n] at this
  omega
theorem ivp_Bd {p : Bg.P} {e w : Nat} (hb : Bg.Bd e p.2) (hw : p.1.natAbs < 2 ^ w) : Bg.Bd (w + p.2.length * (2 * e + 1) + 2) (ivp p).2 := by
  intro t ht
  unfold ivp at ht
  obtain ⟨i, hi, rfl⟩ := List.mem_map.mp ht
  have hi := List.mem_range.mp hi
  have b1 := iw_bits hb hi
  have b2 := cpow_bits (hb.gt 0) (show p.2.length - 1 - i ≤ p.2.length by omega)
  have be : p.2.length * (2 * e + 1) = p.2.length * (e + 1) + p.2.length * e := by rw [← Nat.mul_add]; congr 1; omega
  rw [Int.natAbs_mul, Int.natAbs_mul, sgn_abs, Nat.one_mul]
  unfold Bg.iw
  rw [Int.natAbs_mul, show w + p.2.length * (2 * e + 1) + 2 = w + ((p.2.length * (e + 1) + 1) + (p.2.length * e + 1)) by omega, Nat.pow_add, Nat.pow_add _ (p.2.length * (e + 1) + 1)]
  exact Nat.mul_lt_mul'' hw (Nat.mul_lt_mul'' b1 b2)
theorem v_power_negR {p r : Bg.P} {k e w e' w' : Nat} (hp : Bn p) (hb : Bg.Bd e p.2) (hw : p.1.natAbs < 2 ^ w) (hc : Bg.gt p.2 0 ≠ 0) (hk : 0 < k) (h0 : k < 10000) (hr : Bg.R (ivp p) = r) (hb' : Bg.Bd e' r.2) (hw' : r.1.natAbs < 2 ^ w')
    (h4 : p.2.length * e + 1 ≤ 8000 ∨ (w' ≤ 4000 ∧ e' ≤ 4000)) (h5 : w ≤ 8000) (h6 : p.2.length * (2 * e + 1) + e + w + 20 < 800000) (h7 : e * (4 * p.2.length + 4) + 2 < 900000)
    (h1 : 2 * (k * (e' + 10) + 1) < 900000) (h2 : w' * (4 * k + 4) + 2 < 900000) (h3 : w' * k + 1 ≤ 8000) :
    g_power [D p, .int (-(k : Int))] = some (.sh (D (Bg.R (r.1 ^ k, Bg.pw r.2 k)))) := by
  have pl := hp.len
  have pl0 := hp.len0
  have nd := v_need1 hp
  have ip := ivp_pos hc
  have ib := ivp_Bd hb hw
  have iw1 : (ivp p).1.natAbs < 2 ^ (p.2.length * e + 1) := by
    show (sgn _ * _).natAbs < _
    rw [Int.natAbs_mul, sgn_abs, Nat.one_mul]
    exact cpow_bits (hb.gt 0) (Nat.le_refl _)
  have ibn : Bn (ivp p) := ⟨ip, by rw [ivp_len]; exact pl0, by rw [ivp_len]; exact pl⟩
  obtain ⟨c1, c2, c3⟩ := powC (p := r) (k := k) (hr ▸ ibn.R) hb' hw' h0 h1 h2 h3
  have bo := v_beginning_ofG (ivp p) ip iw1 (h4.imp id fun z => by rw [hr]; exact ⟨Nat.lt_of_lt_of_le hw' (Nat.pow_le_pow_right (by decide) z.1), hb'.mono z.2⟩) (by rw [ivp_len]; omega)
  have si := v_series_inverse (d := .tuple (p.2.map PyData.int)) (.inl rfl) pl0 pl hb (by omega)
  have pc := v_power_of (b := Bg.gt p.2 0) (n := p.2.length) (hb.gt 0) h7 (by omega)
  have pn : ∀ i, i < p.2.length → g_power_of [.int (Bg.gt p.2 0), .int ((p.2.length - 1 - i : Nat) : Int)] = some (.sh (.int (Bg.gt p.2 0 ^ (p.2.length - 1 - i)))) := fun i hi => v_power_of (hb.gt 0) (by have := Nat.mul_le_mul_left e (show 4 * (p.2.length - 1 - i) + 4 ≤ 4 * p.2.length + 4 by omega); omega) (by omega)
  have a0 : atI (p.2.map PyData.int) (0 : Int) = some (.int (Bg.gt p.2 0)) := at_gt (xs := p.2) (i := 0) (by omega)
  have en := enum_gt (Bg.ivs (Bg.gt p.2 0) (Bg.gt p.2) (p.2.length - 1))
  rw [Bg.ivs_len, show p.2.length - 1 + 1 = p.2.length by omega] at en
  have kn : ¬ ((0 : Int) ≤ -(k : Int)) := by omega
  obtain ⟨c, hcc⟩ : ∃ c, c = Bg.gt p.2 0 := ⟨_, rfl⟩
  obtain ⟨N, hN⟩ : ∃ N, N = p.2.length := ⟨_, rfl⟩
  have cb : c.natAbs < 2 ^ e := by rw [hcc]; exact hb.gt 0
  have f0 := fun i (hi : i < p.2.length) => iw_bits hb hi
  have be : p.2.length * (2 * e + 1) = p.2.length * (e + 1) + p.2.length * e := by rw [← Nat.mul_add]; congr 1; omega
  unfold ivp at bo
  rw [← hcc] at a0 si pc pn en bo hc f0
  rw [← hN] at bo si pc pn en f0 be h4 h6 h7 pl pl0
  obtain ⟨le, hle⟩ : ∃ le, le = c ^ N := ⟨_, rfl⟩
  have leb : le.natAbs < 2 ^ (N * e + 1) := by rw [hle]; exact cpow_bits cb (Nat.le_refl _)
  rw [← hle] at pc bo
  obtain ⟨sg, hsg⟩ : ∃ sg, sg = sgn le := ⟨_, rfl⟩
  have sga : sg.natAbs < 2 ^ 1 := by rw [hsg, sgn_abs]; decide
  rw [← hsg] at bo
  have k6 := lcK_map (vs := [10, 11]) (tg := tupG (consG 10 (consG 11 nilG))) (el := e1_power) (ρ := [some (.sh (D p)), some (.sh (.int (-(k : Int)))), some (.sh (.int p.1)), some (.sh (.tuple (p.2.map PyData.int))), some (.sh (.int c)), some (.sh (.int (N : Int))), none, none, none, none, none, none])
    (inj := fun i : Nat => PyData.tuple [.int (i : Int), .int (Bg.gt (Bg.ivs c (Bg.gt p.2) (N - 1)) i)]) (e := fun i : Nat => PyData.int (Bg.iw c (Bg.gt p.2) N i)) (xs := List.range N) rfl (by simp; omega) (fun i hi => by
      have hi := List.mem_range.mp hi
      have p1 := pn i hi
      have fi := f0 i hi
      rw [Bg.ivs_gt c _ _ _ (show i ≤ N - 1 by omega)]
      have b2 := cpow_bits cb (show N - 1 - i ≤ N by omega)
      have m1 : mulS (.int (Bg.iu c (Bg.gt p.2) i)) (.int (c ^ (N - 1 - i))) = some (.sh (.int (Bg.iw c (Bg.gt p.2) N i))) := mulS_bits fi b2 (by omega)
      have ei : (N : Int) - 1 - (i : Int) = ((N - 1 - i : Nat) : Int) := by omega
      obtain ⟨q, hq⟩ : ∃ q, q = N - 1 - i := ⟨_, rfl⟩
      rw [← hq] at p1 m1 ei
      obtain ⟨v1, hv1⟩ : ∃ v, v = Bg.iu c (Bg.gt p.2) i := ⟨_, rfl⟩
      obtain ⟨v2, hv2⟩ : ∃ v, v = Bg.iw c (Bg.gt p.2) N i := ⟨_, rfl⟩
      obtain ⟨v3, hv3⟩ : ∃ v, v = c ^ q := ⟨_, rfl⟩
      rw [← hv1, ← hv2, ← hv3] at m1
      rw [← hv3] at p1
      rw [← hv1, ← hv2]
      exact ⟨_, Gv.eq (by simp; exact rfl), ⟨_, Gv.eq (by simp [e1_power, ei, p1, m1]; exact rfl), rfl⟩, rfl⟩)
  have k9 := lcK_map (vs := [11]) (tg := nameG 11) (el := e2_power) (ρ := [some (.sh (D p)), some (.sh (.int (-(k : Int)))), some (.sh (.int p.1)), some (.sh (.tuple (p.2.map PyData.int))), some (.sh (.int c)), some (.sh (.int (N : Int))), some (.sh (.list ((List.range N).map fun i => PyData.int (Bg.iw c (Bg.gt p.2) N i)))), some (.sh (.int le)), some (.sh (.int sg)), none, none, none])
    (inj := fun i : Nat => PyData.int (Bg.iw c (Bg.gt p.2) N i)) (e := fun i : Nat => PyData.int (sg * p.1 * Bg.iw c (Bg.gt p.2) N i)) (xs := List.range N) rfl (by simp; omega) (fun i hi => by
      have hi := List.mem_range.mp hi
      have fi := f0 i hi
      have b2 := cpow_bits cb (show N - 1 - i ≤ N by omega)
      have b3 : (Bg.iw c (Bg.gt p.2) N i).natAbs < 2 ^ ((N * (e + 1) + 1) + (N * e + 1)) := by
        unfold Bg.iw
        rw [Int.natAbs_mul, Nat.pow_add]
        exact Nat.mul_lt_mul'' fi b2
      have m1 : mulS (.int sg) (.int p.1) = some (.sh (.int (sg * p.1))) := mulS_bits sga hw (by omega)
      have b4 : (sg * p.1).natAbs < 2 ^ (1 + w) := by rw [Int.natAbs_mul, Nat.pow_add]; exact Nat.mul_lt_mul'' sga hw
      have m2 : mulS (.int (sg * p.1)) (.int (Bg.iw c (Bg.gt p.2) N i)) = some (.sh (.int (sg * p.1 * Bg.iw c (Bg.gt p.2) N i))) := mulS_bits b4 b3 (by omega)
      obtain ⟨v2, hv2⟩ : ∃ v, v = Bg.iw c (Bg.gt p.2) N i := ⟨_, rfl⟩
      rw [← hv2] at m2 ⊢
      exact ⟨_, Gv.eq (by simp; exact rfl), ⟨_, Gv.eq (by simp [e2_power, m1, m2]; exact rfl), rfl⟩, rfl⟩)
  have ml : mulS (.int sg) (.int le) = some (.sh (.int (sg * le))) := mulS_bits sga leb (by omega)
  rw [List.map_map] at bo
  have bo : g_beginning_of [.int (sg * le), .list ((List.range N).map fun i => PyData.int (sg * p.1 * Bg.iw c (Bg.gt p.2) N i))] = _ := bo
  obtain ⟨iv, hiv⟩ : ∃ iv, iv = r := ⟨_, rfl⟩
  have e9 : Bg.R (sg * le, (List.range N).map fun i => sg * p.1 * Bg.iw c (Bg.gt p.2) N i) = iv := by
    rw [hiv, ← hr, hsg, hle, hcc, hN]; rfl
  have bo : g_beginning_of [.int (sg * le), .list ((List.range N).map fun i => PyData.int (sg * p.1 * Bg.iw c (Bg.gt p.2) N i))] = some (.sh (D iv)) := by rw [bo, ← e9]
  rw [← hiv] at c1 c2 c3 ⊢
  obtain ⟨b, hb'⟩ : ∃ b, b = iv.1 ^ k := ⟨_, rfl⟩
  rw [← hb'] at c1 c3 ⊢
  refine bodyG_eq rfl (WS.seq (by simp [startE, nd]; exact rfl) (WS.seqW (WS.ifF (by simp; exact rfl) (WS.nx ?_))))
  dsimp only
  refine WS.seq (ρ' := [some (.sh (D p)), some (.sh (.int (-(k : Int)))), some (.sh (.int p.1)), some (.sh (.tuple (p.2.map PyData.int))), none, none, none, none, none, none, none, none]) (by simp [D]; exact rfl) ?_
  refine WS.seqW (WS.ifF (by simp [-Int.neg_nonneg, kn]; exact rfl) (WS.nx ?_))
  dsimp only
  refine WS.seqW (WS.ifF (by simp [a0, hc]; exact rfl) (WS.nx ?_))
  dsimp only
  refine WS.seq (ρ' := [some (.sh (D p)), some (.sh (.int (-(k : Int)))), some (.sh (.int p.1)), some (.sh (.tuple (p.2.map PyData.int))), some (.sh (.int c)), some (.sh (.int (N : Int))), none, none, none, none, none, none]) (by simp [a0, ← hN]; exact rfl) ?_
  refine WS.seq (ρ' := [some (.sh (D p)), some (.sh (.int (-(k : Int)))), some (.sh (.int p.1)), some (.sh (.tuple (p.2.map PyData.int))), some (.sh (.int c)), some (.sh (.int (N : Int))), some (.ls ((List.range N).map fun i => PyData.int (Bg.iw c (Bg.gt p.2) N i))), none, none, none, none, none]) (by simp [si, en, k6, flat_ints]; exact rfl) ?_
  refine WS.seq (ρ' := [some (.sh (D p)), some (.sh (.int (-(k : Int)))), some (.sh (.int p.1)), some (.sh (.tuple (p.2.map PyData.int))), some (.sh (.int c)), some (.sh (.int (N : Int))), some (.ls ((List.range N).map fun i => PyData.int (Bg.iw c (Bg.gt p.2) N i))), some (.sh (.int le)), none, none, none, none]) (by simp [pc]; exact rfl) ?_
  refine WS.seq (ρ' := [some (.sh (D p)), some (.sh (.int (-(k : Int)))), some (.sh (.int p.1)), some (.sh (.tuple (p.2.map PyData.int))), some (.sh (.int c)), some (.sh (.int (N : Int))), some (.ls ((List.range N).map fun i => PyData.int (Bg.iw c (Bg.gt p.2) N i))), some (.sh (.int le)), some (.sh (.int sg)), none, none, none]) (by
    rw [hsg]
    unfold sgn
    by_cases z : le < 0
    · simp [z]; exact rfl
    · simp [z]; exact rfl) ?_
  refine WS.seq (ρ' := [some (.sh (D p)), some (.sh (.int (-(k : Int)))), some (.sh (.int p.1)), some (.sh (.tuple (p.2.map PyData.int))), some (.sh (.int c)), some (.sh (.int (N : Int))), some (.sh (.list ((List.range N).map fun i => PyData.int (Bg.iw c (Bg.gt p.2) N i)))), some (.sh (.int le)), some (.sh (.int sg)), some (.sh (D iv)), none, none]) (by simp [ml, k9, bo]; exact rfl) ?_
  have gi0 : gIx (D iv) (.int 0) = some (.sh (.int iv.1)) := rfl
  have gi1 : gIx (D iv) (.int 1) = some (.sh (.tuple (iv.2.map PyData.int))) := rfl
  refine WS.end (by simp [gi0, gi1, c1, c2, c3, flat_ints]; exact rfl) ?_
  exact rfl
end K11
namespace K11
open PySem PyProof.Rows L2 Dn
/-! the program's powers are the whole powers -/
theorem ivp_L {m : Nat} {p : Bg.P} (h : Bg.L m p) (hc : Bg.gt p.2 0 ≠ 0) : Bg.L m (ivp p) := ⟨ivp_pos hc, by rw [ivp_len]; exact h.len⟩
theorem ivp_I {m : Nat} {p : Bg.P} (h : Bg.L m p) (hc : Bg.gt p.2 0 ≠ 0) : Bg.I m p (ivp p) := by
  have hl := h.len
  refine Bg.Q_ext (by rw [(h.mul (ivp_L h hc)).len, (Bg.L.one m).len]) fun i x y hx hy => ?_
  have hi : i < m := by
    have := (List.getElem?_eq_some_iff.mp hx).1
    rwa [(h.mul (ivp_L h hc)).len] at this
  have e1 := Bg.cv_get (xs := p.2) (ys := (ivp p).2) (i := i) (by rw [ivp_len, hl]; omega)
  have hx : (Bg.cv p.2 (ivp p).2)[i]? = some x := hx
  rw [e1] at hx
  cases hx
  have e2 : Bg.gt (Bg.one m) i = y := Bg.gt_of hy
  rw [Bg.one_gt hi] at e2
  subst e2
  obtain ⟨s, hs⟩ : ∃ s, s = sgn (Bg.gt p.2 0 ^ m) := ⟨_, rfl⟩
  have e3 : Bg.conv (Bg.gt p.2) (Bg.gt (ivp p).2) i = s * p.1 * Bg.conv (Bg.gt p.2) (Bg.iw (Bg.gt p.2 0) (Bg.gt p.2) m) i := by
    rw [← Bg.conv_mulR]
    refine Bg.conv_congr i (fun _ _ => rfl) fun j hj => ?_
    refine Bg.gt_of ?_
    unfold ivp
    rw [hl, ← hs, List.getElem?_map, List.getElem?_range (by omega)]
    rfl
  rw [e3, Bg.iw_conv _ _ rfl hi]
  show s * p.1 * (if i = 0 then _ else 0) * 1 = (if i = 0 then 1 else 0) * (p.1 * (sgn (Bg.gt p.2 0 ^ p.2.length) * Bg.gt p.2 0 ^ p.2.length))
  rw [hl, ← hs]
  by_cases z : i = 0
  · rw [if_pos z, if_pos z, Int.mul_one, Int.one_mul, Int.mul_comm s p.1, Int.mul_assoc]
  · rw [if_neg z, if_neg z, Int.mul_zero, Int.zero_mul, Int.zero_mul]
/-- what can be undone has a first term -/
theorem I_first {m : Nat} {p v : Bg.P} (hp : Bg.L m p) (hv : Bg.L m v) (h : Bg.I m p v) (m1 : 1 ≤ m) : Bg.gt p.2 0 ≠ 0 := fun z => by
  have := Bg.Q_gt h 0
  rw [show (Bg.mul p v).2 = Bg.cv p.2 v.2 from rfl, Bg.cv_gt (by rw [hp.len, hv.len]; omega)] at this
  have e : Bg.conv (Bg.gt p.2) (Bg.gt v.2) 0 = Bg.gt p.2 0 * Bg.gt v.2 0 := rfl
  rw [e, z, Int.zero_mul, Int.zero_mul, show (Bg.one1 m).2 = Bg.one m from rfl, Bg.one_gt (by omega), if_pos rfl, Int.one_mul] at this
  have := Bg.mul_pos hp.pos hv.pos
  omega
theorem v_pow_zp {m : Nat} {p v q : Bg.P} {z : Int} {e w e' w' : Nat} (hp : Bg.L m p) (hv : Bg.L m v) (m1 : 1 ≤ m) (m2 : m ≤ 120) (hq : Bg.L m q) (hQ : Bg.Q q p) (he : Bg.Bd e q.2) (he2 : e ≤ 100) (hw : q.1.natAbs < 2 ^ w) (hw2 : w ≤ 100) (hz0 : z.natAbs ≤ 24)
    (hz : 0 ≤ z ∨ (Bg.I m p v ∧ Bg.Bd e' (Bg.R v).2 ∧ e' ≤ 2000 ∧ (Bg.R v).1.natAbs < 2 ^ w' ∧ w' ≤ 1000 ∧ w' * z.natAbs ≤ 7990)) :
    g_power [D q, .int z] = some (.sh (D (Bg.R (Bg.zp p v z)))) := by
  have bq : Bn q := ⟨hq.pos, by rw [hq.len]; exact m1, by rw [hq.len]; omega⟩
  by_cases z0 : 0 ≤ z
  · obtain ⟨k, rfl⟩ := Int.eq_ofNat_of_zero_le z0
    have k24 : k ≤ 24 := by omega
    have a1 : k * (e + 10) ≤ 24 * 110 := Nat.mul_le_mul k24 (by omega)
    have a2 : w * (4 * k + 4) ≤ 100 * 100 := Nat.mul_le_mul hw2 (by omega)
    have a3 : w * k ≤ 100 * 24 := Nat.mul_le_mul hw2 k24
    rw [Bg.zp_nat, v_power_pos (k := k) bq he hw (by omega) (by omega) (by omega) (by omega)]
    rw [show (q.1 ^ k, Bg.pw q.2 k) = Bg.pwP q k from rfl, Bg.R_of (hq.pwP k).pos (hp.pwP k).pos (Bg.pwP_Q hq hp hQ k)]
  · obtain ⟨hI, b1, b2, c1, c2, c3⟩ := hz.resolve_left z0
    obtain ⟨k, hk⟩ := Int.eq_ofNat_of_zero_le (show 0 ≤ -z by omega)
    have hzk : z = -(k : Int) := by omega
    subst hzk
    have k24 : k ≤ 24 := by omega
    have kk : (-(k : Int)).natAbs = k := by omega
    rw [kk] at c3
    have hIq : Bg.I m q v := Bg.I.of hp hq hv hv hI hQ (Bg.Q.rfl' v)
    have hc := I_first hq hv hIq m1
    have iL := ivp_L hq hc
    have qv : Bg.Q (ivp q) v := Bg.I.uniq hq iL hv (ivp_I hq hc) hIq
    have hr : Bg.R (ivp q) = Bg.R v := Bg.R_of iL.pos hv.pos qv
    have a1 : k * (e' + 10) ≤ 24 * 2010 := Nat.mul_le_mul k24 (by omega)
    have a2 : w' * (4 * k + 4) = 4 * (w' * k) + 4 * w' := by
      rw [Nat.mul_add, Nat.mul_left_comm, Nat.mul_comm w' 4]
    have a3 : m * (2 * e + 1) ≤ 120 * 201 := Nat.mul_le_mul m2 (by omega)
    have a4 : e * (4 * m + 4) ≤ 100 * 484 := Nat.mul_le_mul he2 (by omega)
    have ql := hq.len
    rw [Bg.zp_neg hp hv, v_power_negR (k := k) (e := e) (w := w) bq he hw hc (by omega) (by omega) hr b1 c1 (.inr ⟨by omega, by omega⟩) (by omega) (by rw [ql]; omega) (by rw [ql]; omega) (by omega) (by omega) (by omega)]
    rw [show ((Bg.R v).1 ^ k, Bg.pw (Bg.R v).2 k) = Bg.pwP (Bg.R v) k from rfl, Bg.R_of (hv.R.pwP k).pos (hv.pwP k).pos (Bg.pwP_Q hv.R hv (Bg.R_Q v) k)]
/-! what is refused -/
theorem v_refused {p : Bg.P} {k : Int} {t : Int} (hp : Bn p) (h0 : Bg.gt p.2 0 = 0) (hk : k < 0) : g_l_is_refused [D p, .int k, .int t] = some (.sh (.bool true)) := by
  have nd := v_need1 hp
  have pl := hp.len0
  have a0 : atI (p.2.map PyData.int) (0 : Int) = some (.int 0) := by
    have := at_gt (xs := p.2) (i := 0) (by omega)
    rwa [h0] at this
  have kn : ¬ ((0 : Int) ≤ k) := by omega
  have gx : x_power [D p, .int k] = some ((("DividedByZero" : Str), []) : Exn) := by
    show Option.map (fun u : Exn × Dn.Env => u.1) (dx_power [some (.sh (D p)), some (.sh (.int k)), none, none, none, none, none, none, none, none, none, none]) = _
    have nd2 : g_need_beginnings [PyData.tuple [PyData.tuple [.int p.1, .tuple (p.2.map PyData.int)]]] = some (.sh .none) := nd
    simp [dx_power, seqX, ifX, raiseX, nd2, kn, D, a0]
  refine bodyG_eq rfl (WS.end (o := .rt (.sh (.bool true)) [some (.sh (D p)), some (.sh (.int k)), some (.sh (.int t))]) ?_ rfl)
  have q : (tryS (ifS (truE (binE (eqS false) (nameE [] 2) (cst (.int 0)))) (exprS (callF g_power (consA (nameE [] 0) (consA (nameE [] 1) nilA)))) (exprS (callFk g_power 2 [1, 0] (consA (nameE [] 1) (consA (nameE [] 0) nilA))))) (ifX (truE (binE (eqS false) (nameE [] 2) (cst (.int 0)))) (callX x_power (consA (nameE [] 0) (consA (nameE [] 1) nilA))) (callXk x_power 2 [1, 0] (consA (nameE [] 1) (consA (nameE [] 0) nilA)))) ["DividedByZero"] (retS (cst (.bool true)))) [some (.sh (D p)), some (.sh (.int k)), some (.sh (.int t))] = some (.rt (.sh (.bool true)) [some (.sh (D p)), some (.sh (.int k)), some (.sh (.int t))]) := by
    by_cases z : t = 0
    · simp [tryS, ifX, callX, callXk, z, gx]
    · simp [tryS, ifX, callX, callXk, z, gx]
  show (seqS _ _) _ = _
  unfold seqS
  rw [show startE 3 [D p, .int k, .int t] = [some (.sh (D p)), some (.sh (.int k)), some (.sh (.int t))] from rfl]
  rw [q]
  rfl
end K11
namespace K11
open PySem PyProof.Rows L2 Dn
/-! the law's own lowest terms, products and powers -/
theorem lg_bits {x y M : Nat} (hx : x < 2 ^ M) (hy : y < 2 ^ M) (hM : M ≤ 8000) : lg x y < 1000000000000 := by
  unfold lg
  split
  · omega
  · by_cases z : x * y = 0
    · rw [z]; simp; split <;> omega
    · have : x * y < 2 ^ (M + M) := by
        rw [Nat.pow_add]
        exact Nat.mul_lt_mul'' hx hy
      have := (Nat.log2_lt z).mpr this
      split <;> omega
theorem v_l_reduced {d : PyData} (p : Bg.P) (hd : d = .list (p.2.map PyData.int) ∨ d = .tuple (p.2.map PyData.int)) {M : Nat} (hb : 0 < p.1) (hb2 : p.1.natAbs < 2 ^ M) (hM : M ≤ 8000) (hl : p.2.length ≤ 1000) (ht : Bg.Bd M p.2) :
    g_l_reduced [.int p.1, d] = some (.sh (D (Bg.R p))) := by
  have g0 := Bg.G_pos (b := p.1.natAbs) (by omega) p.2
  have g1 := Bg.G_le (b := p.1.natAbs) (by omega) p.2
  have c1 : (0 : Int) < (Bg.G p.1.natAbs p.2 : Int) := by omega
  have fd : ∀ a : Int, gInt (fun _ j => decide (0 < j) && decide (j.natAbs.log2 < 9000)) (fun i j => i / j) (.int a) (.int (Bg.G p.1.natAbs p.2 : Nat)) = some (.sh (.int (a / (Bg.G p.1.natAbs p.2 : Nat)))) := fun a => fdiv_bits c1 (by rw [Int.natAbs_natCast]; omega) hM
  have it : ∀ ρ : Dn.Env, ρ[1]? = some (some (.sh d)) → anyI (nameE [3] 1) ρ = some (p.2.map PyData.int, ρ) := fun ρ h => by rcases hd with rfl | rfl <;> simp [h]
  refine bodyG_eq rfl (WS.seq (by simp [startE]; exact rfl) (WS.seqW ?_))
  refine WS.forI (ρ' := [some (.sh (.int p.1)), some (.sh d), some (.sh (.int p.1)), none, none, none]) (it _ rfl) (fun i ρ => ∃ (c : Nat) (o : Option PyData) (o4 o5 : Option S), 0 < c ∧ c ≤ p.1.natAbs ∧ ρ = [some (.sh (.int p.1)), some (.sh d), some (.sh (.int c)), o.map .sh, o4, o5] ∧ Bg.G c (p.2.drop i) = Bg.G p.1.natAbs p.2) ⟨p.1.natAbs, none, none, none, by omega, Nat.le_refl _, by rw [show ((p.1.natAbs : Nat) : Int) = p.1 by omega]; rfl, by simp⟩ ?_ ?_
  · rintro i e ρ he ⟨c, o, o4, o5, hc, hc2, rfl, hG⟩
    rw [List.getElem?_map] at he
    obtain ⟨t, htt, rfl⟩ := Option.map_eq_some_iff.mp he
    have hdrop : p.2.drop i = t :: p.2.drop (i + 1) := by
      obtain ⟨h5, h6⟩ := List.getElem?_eq_some_iff.mp htt
      rw [List.drop_eq_getElem_cons h5, h6]
    have bt := ht t (List.mem_of_getElem? htt)
    have gp : 0 < Nat.gcd c t.natAbs := Nat.gcd_pos_of_pos_left _ hc
    have gl : Nat.gcd c t.natAbs ≤ c := Nat.le_of_dvd hc (Nat.gcd_dvd_left _ _)
    have ea : (if t < 0 then -t else t) = (t.natAbs : Int) := by split <;> omega
    refine ⟨_, Gv.eq (by simp; exact rfl), ?_⟩
    refine WS.seq (ρ' := [some (.sh (.int p.1)), some (.sh d), some (.sh (.int c)), some (.sh (.int t)), some (.sh (.int c)), some (.sh (.int (t.natAbs : Nat)))]) (by simp [ea]; exact rfl) (WS.seqW ?_)
    refine WS.whileM (t := t1_l_reduced) (f := w2_l_reduced) (fun ρ => ∃ x y : Nat, x < 2 ^ M ∧ y < 2 ^ M ∧ ρ = [some (.sh (.int p.1)), some (.sh d), some (.sh (.int c)), some (.sh (.int t)), some (.sh (.int (x : Nat))), some (.sh (.int (y : Nat)))] ∧ Nat.gcd x y = Nat.gcd c t.natAbs)
      (fun ρ => match ρ with | [_, _, _, _, some (.sh (.int x)), some (.sh (.int y))] => lg x.natAbs y.natAbs | _ => 0) ⟨c, t.natAbs, by omega, by omega, rfl, rfl⟩ ?_ ?_
    · rintro ρ ⟨x, y, h1, h2, rfl, _⟩
      show lg (x : Int).natAbs (y : Int).natAbs < _
      rw [Int.natAbs_natCast, Int.natAbs_natCast]
      exact lg_bits h1 h2 hM
    · rintro ρ ⟨x, y, hx, hy, rfl, h⟩
      refine ⟨_, _, Gv.eq (by simp [t1_l_reduced]; exact rfl), fun hy0 => ?_, fun hy0 => ?_⟩
      · have h0 : 0 < y := by
          rcases Nat.eq_zero_or_pos y with z | z
          · subst z; simp at hy0
          · exact z
        have f1 := modS_nat (i := x) h0
        have rl := Nat.mod_lt x h0
        have de := lg_dec (x := x) h0
        have ge : Nat.gcd y (x % y) = Nat.gcd x y := by rw [Nat.gcd_comm x y, Nat.gcd_rec y x, Nat.gcd_comm]
        generalize x % y = r at *
        refine WS.end (by simp [w2_l_reduced, f1]; exact rfl) ?_
        exact ⟨⟨y, r, hy, by omega, rfl, by rw [ge, h]⟩, by show lg (y : Int).natAbs (r : Int).natAbs < lg (x : Int).natAbs (y : Int).natAbs; simpa using de⟩
      · have h0 : y = 0 := by simpa using hy0
        subst h0
        rw [Nat.gcd_zero_right] at h
        subst h
        dsimp only
        refine WS.end (by simp; exact rfl) ?_
        refine ⟨Nat.gcd c t.natAbs, some (.int t), _, _, gp, by omega, rfl, ?_⟩
        rw [← hG, hdrop, Bg.G_cons]
  · rintro ρ ⟨c, o, o4, o5, hc, hc2, rfl, hG⟩
    rw [List.length_map, List.drop_length, Bg.G_nil] at hG
    subst hG
    have k : lcLK 3 (nameG 3) yesB e4_l_reduced (p.2.map PyData.int) [some (.sh (.int p.1)), some (.sh d), some (.sh (.int (Bg.G p.1.natAbs p.2 : Nat))), o.map .sh, o4, o5] = some (.ls (p.2.map fun t => PyData.int (t / (Bg.G p.1.natAbs p.2 : Nat))), [some (.sh (.int p.1)), some (.sh d), some (.sh (.int (Bg.G p.1.natAbs p.2 : Nat))), o.map .sh, o4, o5]) := by
      have inner := lcGo_map (vs := [3]) (tg := nameG 3) (el := e4_l_reduced) (ρ := [some (.sh (.int p.1)), some (.sh d), some (.sh (.int (Bg.G p.1.natAbs p.2 : Nat))), none, o4, o5]) (inj := PyData.int) (e := fun t => PyData.int (t / (Bg.G p.1.natAbs p.2 : Nat))) (xs := p.2)
        (fun x _ => ⟨_, Gv.eq (by simp; exact rfl), ⟨_, Gv.eq (by simp [e4_l_reduced, fd]; exact rfl), rfl⟩, rfl⟩)
      cases o with
      | none => exact lcLK_dead rfl (by rw [List.length_map]; omega) inner
      | some x => exact lcLK_live (v := 3) (ds := p.2.map PyData.int) (ρ := [some (.sh (.int p.1)), some (.sh d), some (.sh (.int (Bg.G p.1.natAbs p.2 : Nat))), some (.sh x), o4, o5]) rfl (by decide) (by rw [List.length_map]; omega) inner
    refine WS.end (by simp only [ev_retS, ev_tupE, ev_consA, ev_nilA, ev_bin, ev_nameE, ev_callE, ev_lcL, eg0, eg1, eg2, eg3, it, k, view_sh, view_ls, viewL_cons, viewL_nil, Option.bind_some, Option.map_some, fd, gTuple_list, frozeL_ev, frozeR_cons, frozeR_nil, froze_sh, List.reverse_cons, List.reverse_nil, List.nil_append, List.cons_append, List.length_cons, List.length_nil, Nat.reduceAdd, Nat.reduceLeDiff, if_true, retE_sh]; exact rfl) ?_
    show Gv (some _) _
    simp [Gv, D, Bg.R]
theorem sumc : ∀ (n : Nat) (f g : Nat → Int), ((List.range (n + 1)).map fun i => f i * g (n - i)).sum = Bg.conv f g n
  | 0, f, g => by simp [Bg.conv]
  | n + 1, f, g => by
    rw [List.range_succ_eq_map, List.map_cons, List.sum_cons, List.map_map, Bg.conv, ← sumc n (fun j => f (j + 1)) g]
    congr 2
    refine List.map_congr_left fun i hi => ?_
    show f (i + 1) * g (n + 1 - (i + 1)) = _
    rw [show n + 1 - (i + 1) = n - i by omega]
theorem rng0 (n : Nat) : rngD 0 n = (List.range n).map fun i : Nat => PyData.int (i : Int) := by
  rw [rngD_map]
  refine List.map_congr_left fun i _ => ?_
  rw [Int.zero_add]
theorem v_l_multiplied {m : Nat} {p q : Bg.P} {e f g h : Nat} (hp : Bg.L m p) (hq : Bg.L m q) (m2 : m ≤ 400) (h1 : Bg.Bd e p.2) (h2 : Bg.Bd f q.2) (hef : e + f + 10 ≤ 8000) (h3 : p.1.natAbs < 2 ^ g) (h4 : q.1.natAbs < 2 ^ h) (hgh : g + h ≤ 8000) : g_l_multiplied [D p, D q] = some (.sh (D (Bg.R (Bg.mul p q)))) := by
  have pl : p.2.length ≤ 400 := by rw [hp.len]; exact m2
  have ql : q.2.length ≤ 400 := by rw [hq.len]; exact m2
  have L0 : 0 < p.1 * q.1 := Int.mul_pos hp.pos hq.pos
  have mb : (p.1 * q.1).natAbs < 2 ^ (g + h) := by rw [Int.natAbs_mul, Nat.pow_add]; exact Nat.mul_lt_mul'' h3 h4
  have m1 : mulS (.int p.1) (.int q.1) = some (.sh (.int (p.1 * q.1))) := mulS_bits h3 h4 (by omega)
  have b1' := fun i => h1.gt i
  have b2' := fun i => h2.gt i
  obtain ⟨n, hn⟩ : ∃ n : Nat, n = min p.2.length q.2.length := ⟨_, rfl⟩
  have e0 : (p.2.length : Int) = (n : Int) := by rw [hn, hp.len, hq.len, Nat.min_self]
  obtain ⟨M, hM⟩ : ∃ M, M = max (e + f + 10) (g + h) := ⟨_, rfl⟩
  have vr := v_l_reduced (d := .list ((Bg.mul p q).2.map PyData.int)) (Bg.mul p q) (.inl rfl) (M := M) L0 (Nat.lt_of_lt_of_le mb (Nat.pow_le_pow_right (by decide) (by omega))) (by omega) (by show (Bg.cv _ _).length ≤ _; rw [Bg.cv_len]; omega) ((Bg.cv_Bd (by omega) h1 h2).mono (by omega))
  have vr : g_l_reduced [.int (p.1 * q.1), .list ((Bg.cv p.2 q.2).map PyData.int)] = some (.sh (D (Bg.R (Bg.mul p q)))) := vr
  have k := lcK_map (vs := [4]) (tg := nameG 4) (el := e2_l_multiplied) (ρ := [some (.sh (D p)), some (.sh (D q)), some (.sh (.int (n : Int))), none, none, none]) (inj := fun i : Nat => PyData.int (i : Int)) (e := fun i => PyData.int (Bg.conv (Bg.gt p.2) (Bg.gt q.2) i)) (xs := List.range n) rfl (by simp; omega) (fun i hi => by
    have hi := List.mem_range.mp hi
    have j := lcK_map (vs := [5]) (tg := nameG 5) (el := e1_l_multiplied) (ρ := [some (.sh (D p)), some (.sh (D q)), some (.sh (.int (n : Int))), none, some (.sh (.int (i : Int))), none]) (inj := fun i : Nat => PyData.int (i : Int)) (e := fun m => PyData.int (Bg.gt p.2 m * Bg.gt q.2 (i - m))) (xs := List.range (i + 1)) rfl (by simp; omega) (fun m hm => by
      have hm := List.mem_range.mp hm
      have mm : mulS (.int (Bg.gt p.2 m)) (.int (Bg.gt q.2 (i - m))) = some (.sh (.int (Bg.gt p.2 m * Bg.gt q.2 (i - m)))) := mulS_bits (b1' m) (b2' (i - m)) (by omega)
      have es : (i : Int) - (m : Int) = ((i - m : Nat) : Int) := by omega
      refine ⟨_, Gv.eq (by simp; exact rfl), ⟨_, Gv.eq (by
        simp (disch := omega) only [e1_l_multiplied, ev_bin, ev_nameE, ev_cst, D, eg0, eg1, eg4, eg5, view_sh, gIx_tup, at20, at21, Option.bind_some, Option.map_some, gInt0_int, es, at_gt (show m < p.2.length by omega), at_gt (show i - m < q.2.length by omega), mm]
        exact rfl), rfl⟩, rfl⟩)
    have r1 : rng1K ((i : Int) + 1) [some (.sh (D p)), some (.sh (D q)), some (.sh (.int (n : Int))), none, some (.sh (.int (i : Int))), none] = some ((List.range (i + 1)).map (fun i : Nat => PyData.int (i : Int)), [some (.sh (D p)), some (.sh (D q)), some (.sh (.int (n : Int))), none, some (.sh (.int (i : Int))), none]) := by
      rw [rng1K_ok (by omega) (by omega), ← rng0, show ((i : Int) + 1).toNat = i + 1 by omega]
    refine ⟨_, Gv.eq (by simp; exact rfl), ⟨_, Gv.eq (by
      simp only [e2_l_multiplied, ev_callE, ev_consA, ev_nilA, ev_lcE, ev_rng1, ev_bin, ev_nameE, ev_cst, eg4, view_sh, viewL_cons, viewL_nil, view_ls, Option.bind_some, Option.map_some, addS_int, r1, j, gSum_list]
      rw [show (fun m => PyData.int (Bg.gt p.2 m * Bg.gt q.2 (i - m))) = PyData.int ∘ fun m => Bg.gt p.2 m * Bg.gt q.2 (i - m) from rfl, intsOf_comp, Option.map_some, sumc]
      exact rfl), rfl⟩, rfl⟩)
  have ec : (List.range n).map (fun i => PyData.int (Bg.conv (Bg.gt p.2) (Bg.gt q.2) i)) = (Bg.cv p.2 q.2).map PyData.int := by
    unfold Bg.cv
    rw [← hn, List.map_map]; rfl
  rw [ec] at k
  have r0 : rng1K (n : Int) [some (.sh (D p)), some (.sh (D q)), some (.sh (.int (n : Int))), none, none, none] = some ((List.range n).map (fun i : Nat => PyData.int (i : Int)), [some (.sh (D p)), some (.sh (D q)), some (.sh (.int (n : Int))), none, none, none]) := by
    rw [rng1K_ok (by omega) (by omega), ← rng0, show ((n : Int)).toNat = n by omega]
  refine bodyG_eq rfl (WS.seq (ρ' := [some (.sh (D p)), some (.sh (D q)), some (.sh (.int (n : Int))), none, none, none]) (by simp [startE, D, e0]; exact rfl) ?_)
  refine WS.seq (by simp only [ev_asgS, ev_lcE, ev_rng1, ev_consA, ev_nilA, ev_nameE, eg2, view_sh, viewL_cons, viewL_nil, Option.bind_some, Option.map_some, r0, k, ownE_ls]; simp; exact rfl) ?_
  refine WS.end (by simp [D, m1, vr, flat_ints]; exact rfl) ?_
  exact rfl
theorem addS_tup {xs ys : List PyData} (h : xs.length + ys.length < 1000000) : addS (.tuple xs) (.tuple ys) = some (.sh (.tuple (xs ++ ys))) := by
  cases xs with
  | nil => show (if _ then _ else _) = _; rw [if_pos (by simpa using h)]; rfl
  | cons x xs => show (if _ then _ else _) = _; rw [if_pos (by rw [List.length_cons] at h; omega)]
theorem R_one1 (m : Nat) : Bg.R (Bg.one1 m) = Bg.one1 m := by
  show ((1 : Int) / ((Bg.G (1 : Int).natAbs (Bg.one m) : Nat) : Int), _) = _
  have : Bg.G (1 : Int).natAbs (Bg.one m) = 1 := Bg.G_one _
  unfold Bg.one1
  refine Prod.ext ?_ ?_
  · show (1 : Int) / ((Bg.G (1 : Int).natAbs (Bg.one m) : Nat) : Int) = 1
    rw [this]; rfl
  · show (Bg.one m).map (fun t => t / ((Bg.G (1 : Int).natAbs (Bg.one m) : Nat) : Int)) = Bg.one m
    rw [this]
    simp
theorem R_R {m : Nat} {p : Bg.P} (h : Bg.L m p) : Bg.R (Bg.R p) = Bg.R p := Bg.R_of h.R.pos h.pos (Bg.R_Q p)
theorem v_l_power {m : Nat} {p : Bg.P} {e w : Nat} {k : Nat} (hp : Bg.L m p) (m1 : 1 ≤ m) (m2 : m ≤ 400) (hb : Bg.Bd e p.2) (he : e ≤ 20) (hw : p.1.natAbs < 2 ^ w) (hw2 : w ≤ 20) (hk : k ≤ 24) : g_l_power [D p, .int (k : Int)] = some (.sh (D (Bg.R (Bg.pwP p k)))) := by
  have hl := hp.len
  have mt : mulT (.tuple [.int 0]) (.int ((m : Int) - 1)) = some (.sh (.tuple (List.replicate (m - 1) (.int 0)))) := by
    rw [mulT_ok (by omega) (by omega), show ((m : Int) - 1).toNat = m - 1 by omega]
  have a2 : addS (.tuple [.int 1]) (.tuple (List.replicate (m - 1) (.int 0))) = some (.sh (.tuple (.int 1 :: List.replicate (m - 1) (.int 0)))) := by
    rw [addS_tup (by simp; omega)]; rfl
  have d1 : PyData.tuple [.int 1, .tuple (.int 1 :: List.replicate (m - 1) (.int 0))] = D (Bg.R (Bg.pwP p 0)) := by
    rw [Bg.pwP_zero hp, R_one1, one_list m m1]; rfl
  have hll : (p.2.length : Int) - 1 = (m : Int) - 1 := by rw [hl]
  refine bodyG_eq rfl ?_
  refine WS.seq (ρ' := [some (.sh (D p)), some (.sh (.int (k : Int))), some (.sh (D (Bg.R (Bg.pwP p 0)))), none]) (by rw [← d1]; simp [startE, D, hll, mt, a2, flat_ints]; exact rfl) (WS.seqW ?_)
  have r0 : ∀ ρ : Dn.Env, rng1K (k : Int) ρ = some (rngD 0 k, ρ) := fun ρ => by
    rw [rng1K_ok (by omega) (by omega), show ((k : Int)).toNat = k by omega]
  refine WS.forI (ds := rngD 0 k) (by simp [r0]; exact rfl) (fun i ρ => ∃ o : Option S, ρ = [some (.sh (D p)), some (.sh (.int (k : Int))), some (.sh (D (Bg.R (Bg.pwP p i)))), o]) ⟨none, rfl⟩ ?_ ?_
  · rintro i d ρ hd ⟨o, rfl⟩
    have hi : i < k := by
      have := (List.getElem?_eq_some_iff.mp hd).1
      rwa [rngD_length] at this
    have i24 : i ≤ 24 := by omega
    have a1 : i * (e + 10) ≤ 24 * 30 := Nat.mul_le_mul i24 (by omega)
    have a3 : w * i ≤ 20 * 24 := Nat.mul_le_mul hw2 i24
    have v := v_l_multiplied (p := Bg.R (Bg.pwP p i)) (q := p) (hp.pwP i).R hp m2 (R_Bd (Bg.pw_Bd (by omega) hb i) (hp.pwP i).pos) hb (by omega) (R_bits (log2_powB hw i) (hp.pwP i).pos) hw (by omega)
    have ev : Bg.R (Bg.mul (Bg.R (Bg.pwP p i)) p) = Bg.R (Bg.pwP p (i + 1)) := by
      refine Bg.R_of ((hp.pwP i).R.mul hp).pos (hp.pwP (i + 1)).pos ?_
      rw [Bg.pwP_add p i 1, Bg.pwP_one]
      exact Bg.mul_Q (Bg.R_Q _) (Bg.Q.rfl' p)
    rw [ev] at v
    obtain ⟨a, ha⟩ : ∃ a, a = D (Bg.R (Bg.pwP p i)) := ⟨_, rfl⟩
    obtain ⟨b, hb⟩ : ∃ b, b = D (Bg.R (Bg.pwP p (i + 1))) := ⟨_, rfl⟩
    have fb : flatD b = true := by rw [hb]; exact flat_D _
    rw [← ha, ← hb] at v
    rw [← ha, ← hb]
    rw [rngD_get _ _ _ hi] at hd
    cases hd
    refine ⟨_, Gv.eq (by simp; exact rfl), ?_⟩
    refine WS.end (by simp [w1_l_power, v, fb]; exact rfl) ?_
    exact ⟨_, rfl⟩
  · rintro ρ ⟨o, rfl⟩
    rw [rngD_length]
    refine WS.end (by simp; exact rfl) ?_
    exact rfl
end K11
namespace K11
open PySem PyProof.Rows L2 Dn
theorem lc_step {vs : List Nat} {tg : GE} {el : EE} {E : Nat → Dn.Env → Prop} {Pe : PyData → Prop} : ∀ (ds : List PyData) (k : Nat) (ρ : Dn.Env), E k ρ →
    (∀ d j ρ, d ∈ ds → j < k + ds.length → E j ρ → ∃ ρ1 r ρ2 y ρ3, tg d ρ = some ρ1 ∧ el ρ1 = some (r, ρ2) ∧ froze ρ2 r = some (y, ρ3) ∧ Pe y ∧ E (j + 1) (wipeE ρ3 vs)) →
    ∃ es ρ', lcGo vs tg yesB el ds ρ = some (es, ρ') ∧ es.length = ds.length ∧ (∀ y ∈ es, Pe y) ∧ E (k + ds.length) ρ'
  | [], k, ρ, h, _ => ⟨[], ρ, rfl, rfl, (by intro y hy; cases hy), h⟩
  | d :: ds, k, ρ, h, hs => by
    obtain ⟨ρ1, r, ρ2, y, ρ3, h1, h2, h3, h4, h5⟩ := hs d k ρ List.mem_cons_self (by simp) h
    obtain ⟨es, ρ', e1, e2, e3, e4⟩ := lc_step ds (k + 1) _ h5 fun d j ρ hd hj => hs d j ρ (List.mem_cons_of_mem _ hd) (by rw [List.length_cons]; omega)
    refine ⟨y :: es, ρ', ?_, by simp [e2], fun z hz => ?_, ?_⟩
    · rw [lcGo, h1, Option.bind_some, ev_yesB, Option.bind_some, if_pos rfl, h2, Option.bind_some, h3, Option.bind_some, e1]; rfl
    · rcases List.mem_cons.mp hz with q | q
      · rw [q]; exact h4
      · exact e3 z q
    · rw [List.length_cons, show k + (ds.length + 1) = k + 1 + ds.length by omega]; exact e4
theorem ints_of {es : List PyData} (h : ∀ y ∈ es, ∃ r : Int, y = .int r ∧ -1000000000000000000000000000000 < r ∧ r < 1000000000000000000000000000000) : ∃ ts : List Int, es = ts.map PyData.int ∧ ∀ t ∈ ts, -1000000000000000000000000000000 < t ∧ t < 1000000000000000000000000000000 := by
  induction es with
  | nil => exact ⟨[], rfl, by intro t ht; cases ht⟩
  | cons e es ih =>
    obtain ⟨r, rfl, r0, r1⟩ := h e List.mem_cons_self
    obtain ⟨ts, rfl, k⟩ := ih fun y hy => h y (List.mem_cons_of_mem _ hy)
    exact ⟨r :: ts, rfl, fun t ht => by
      rcases List.mem_cons.mp ht with q | q
      · rw [q]; exact ⟨r0, r1⟩
      · exact k t q⟩
/-! the greatest of a row -/
def ab (x : Int) : Int := if x < 0 then -x else x
def gr (p : Bg.P) : Int := maxI (p.2.map ab ++ [p.1])
theorem gMax_ne {l : List Int} (h : l ≠ []) : gMax [.list (l.map PyData.int)] = some (.sh (.int (maxI l))) := by
  cases l with
  | nil => exact absurd rfl h
  | cons x xs =>
    show ((intsOf (.int x :: xs.map PyData.int)).map _) = _
    have := intsOf_map (x :: xs)
    rw [List.map_cons] at this
    rw [this]; rfl
theorem gr_lt {p : Bg.P} {n : Int} (h : gr p < n) : p.1 < n ∧ ∀ t ∈ p.2, -n < t ∧ t < n := by
  obtain ⟨h1, h2⟩ := maxI_spec (p.2.map ab ++ [p.1]) (by simp)
  refine ⟨by have := h2 p.1 (by simp); unfold gr at h; omega, fun t ht => ?_⟩
  have e : ab t ≤ gr p := h2 (ab t) (List.mem_append_left _ (List.mem_map.mpr ⟨t, ht, rfl⟩))
  generalize gr p = m at *
  unfold ab at e
  split at e <;> omega
theorem gr_list (ts : List Int) (b : Int) : ts.map (fun t => PyData.int (ab t)) ++ [PyData.int b] = (ts.map ab ++ [b]).map PyData.int := by
  rw [List.map_append, List.map_map]; rfl
def shortB (p : Bg.P) : Bool := decide (gr p < 1000000000000000000000000000000)
theorem v_l_is_short {p : Bg.P} (hl : p.2.length ≤ 1000) : g_l_is_short [D p] = some (.sh (.bool (shortB p))) := by
  have k := lcK_map (vs := [1]) (tg := nameG 1) (el := e1_l_is_short) (ρ := [some (.sh (.tuple [.int p.1, .tuple (p.2.map PyData.int)])), none]) (inj := PyData.int) (e := fun t => PyData.int (ab t)) (xs := p.2) rfl (by omega) (fun x _ => ⟨_, Gv.eq (by simp; exact rfl), ⟨_, Gv.eq (by simp [e1_l_is_short]; exact rfl), rfl⟩, rfl⟩)
  have g := gMax_ne (l := p.2.map ab ++ [p.1]) (by simp)
  rw [← gr_list] at g
  refine bodyG_eq rfl (WS.end (by
    simp (disch := omega) [d_l_is_short, startE, D, k]
    rw [if_pos (by omega)]
    simp [g]
    exact rfl) ?_)
  exact rfl
theorem repr_of {d : PyData} {n w : Nat} (h : RP d n w) (hn : n ≤ 50) (hw : w ≤ 20000) : gRepr [d] = some (.sh (.str d.shown)) := gRepr_ok (h.ok hn hw)
/-! sums of rows with numbers -/
@[simp] theorem ev_reprQ {neg : Bool} {fa fb : EE} {ρ : Dn.Env} : reprQ neg fa fb ρ = (fa ρ).bind fun p => (view p.2 p.1).bind fun d => if reprOk d = true then (fb p.2).bind fun q => (view q.2 q.1).bind fun e => if reprOk e = true then some (.sh (.bool (neg != (eqP d e || decide (d.shown = e.shown)))), q.2) else none else none := rfl
theorem rp_Dx {p : Bg.P} (h : Bg.Bd 600 p.2) (h1 : p.1.natAbs < 2 ^ 600) (h2 : p.2.length ≤ 400) : RP (D p) 2 402 := by
  have a : RP (.int p.1) 1 0 := (RP.int0 h1).mono (by omega) (by omega)
  have b : RPL (p.2.map PyData.int) 0 ((p.2.map PyData.int).length * (0 + 1)) := RPL.all fun x hx => by
    obtain ⟨t, ht, rfl⟩ := List.mem_map.mp hx
    exact RP.int0 (h t ht)
  have c := RP.tup b
  rw [List.length_map] at c
  exact (RP.tup (RPL.cons a (RPL.cons c RPL.nil))).mono (by omega) (by omega)
theorem ok_D {p : Bg.P} (h : Bg.Bd 600 p.2) (h1 : p.1.natAbs < 2 ^ 600) (h2 : p.2.length ≤ 400) : reprOk (D p) = true := (rp_Dx h h1 h2).ok (by omega) (by omega)
theorem lay_ints : ∀ ts : List Int, PyData.canLayAll0 (ts.map PyData.int) = true ∧ PyData.depthAll (ts.map PyData.int) = 0
  | [] => ⟨rfl, rfl⟩
  | t :: ts => by
    obtain ⟨h1, h2⟩ := lay_ints ts
    constructor
    · show (PyData.canLay0 (.int t) && PyData.canLayAll0 (ts.map PyData.int)) = true
      rw [h1]; rfl
    · show max (PyData.depth (.int t)) (PyData.depthAll (ts.map PyData.int)) = 0
      rw [h2]; rfl
theorem eqS_D (p : Bg.P) : eqS false (D p) (D p) = some (.sh (.bool true)) := by
  obtain ⟨h1, h2⟩ := lay_ints p.2
  have c : PyData.canLay0 (D p) = true := by
    show (PyData.canLay0 (.int p.1) && (PyData.canLayAll0 (p.2.map PyData.int) && true)) = true
    rw [h1]; rfl
  have d : PyData.depth (D p) = 2 := by
    show max (PyData.depth (.int p.1)) (max (PyData.depthAll (p.2.map PyData.int) + 1) 0) + 1 = 2
    rw [h2]; rfl
  have sh : SeqAt.shaped (D p) = true := by
    show (PyData.canLay0 (D p) && decide (PyData.depth (D p) ≤ 64)) = true
    rw [c, d]; rfl
  have e : eqS false (D p) (D p) = if (SeqAt.shaped (D p) && SeqAt.shaped (D p)) = true then some (.sh (.bool (false != PyData.eqv (D p) (D p)))) else none := rfl
  rw [e, sh, SeqAt.eqv_refl _ c]
  rfl
theorem v_l_is_lowest {m : Nat} {p : Bg.P} {M : Nat} (hp : Bg.L m p) (m2 : m ≤ 400) (hr : Bg.R p = p) (hb2 : p.1.natAbs < 2 ^ M) (hM : M ≤ 8000) (ht : Bg.Bd M p.2) : g_l_is_lowest [D p, .int (m : Int)] = some (.sh (.bool true)) := by
  have hl := hp.len
  have h0 := hp.pos
  have c1 : ¬ p.1 < 1 := by omega
  have vr := v_l_reduced (d := .tuple (p.2.map PyData.int)) p (.inr rfl) hp.pos hb2 hM (by omega) ht
  rw [hr] at vr
  have k := lcK_pure (vs := [2]) (tg := nameG 2) (tt := t1_l_is_lowest) (el := e2_l_is_lowest) (ρ := [some (.sh (D p)), some (.sh (.int (m : Int))), none]) (inj := PyData.int) (e := PyData.int) (t := fun _ => false) (xs := p.2 ++ [p.1]) rfl (by simp; omega) (fun x hx => ⟨_, Gv.eq (by simp; exact rfl), Gv.eq (by simp [t1_l_is_lowest]; exact rfl), fun h => (by cases h), rfl⟩)
  have a2 : addS (.tuple (p.2.map PyData.int)) (.tuple [.int p.1]) = some (.sh (.tuple ((p.2 ++ [p.1]).map PyData.int))) := by
    rw [addS_tup (by simp; omega), List.map_append]; rfl
  have cu : gCut none (some 1) (D p) = some (.sh (.tuple [.int p.1])) := rfl
  have hl2 : (p.2.length : Int) = (m : Int) := by rw [hl]
  rw [show (p.2 ++ [p.1]).filter (fun _ => false) = [] from by simp] at k
  obtain ⟨row, hrow⟩ : ∃ row, row = (p.2 ++ [p.1]).map PyData.int := ⟨_, rfl⟩
  rw [← hrow] at k a2
  refine bodyG_eq rfl (WS.seqW (WS.ifF (by simp [startE, D, hl2]; exact rfl) (WS.nx ?_)))
  dsimp only
  have k : lcK [2] (nameG 2) t1_l_is_lowest e2_l_is_lowest row [some (.sh (.tuple [.int p.1, .tuple (p.2.map PyData.int)])), some (.sh (.int (m : Int))), none] = some (.ls [], [some (.sh (.tuple [.int p.1, .tuple (p.2.map PyData.int)])), some (.sh (.int (m : Int))), none]) := k
  have cu : gCut none (some 1) (.tuple [.int p.1, .tuple (p.2.map PyData.int)]) = some (.sh (.tuple [.int p.1])) := rfl
  have en : eqS true (.list []) (.list []) = some (.sh (.bool false)) := rfl
  refine WS.seqW (WS.ifF (by simp [a2, cu, k, c1, en]; exact rfl) (WS.nx ?_))
  dsimp only
  have eD := eqS_D p
  simp only [D] at eD
  refine WS.end (by simp [vr, D, flat_ints, eD]; exact rfl) ?_
  simp [Gv]
theorem v_l_is_undone {m : Nat} {p v : Bg.P} {k : Nat} {e w w' : Nat} (hp : Bg.L m p) (hv : Bg.L m v) (hI : Bg.I m p v) (m1 : 1 ≤ m) (m2 : m ≤ 400) (hb : Bg.Bd e p.2) (he : e ≤ 20) (hw : p.1.natAbs < 2 ^ w) (hw2 : w ≤ 20) (hk : k ≤ 24)
    (hb' : Bg.Bd 4000 (Bg.R (Bg.zp p v (-(k : Int)))).2) (hw' : (Bg.R (Bg.zp p v (-(k : Int)))).1.natAbs < 2 ^ 4000) : g_l_is_undone [D p, .int (k : Int), D (Bg.R (Bg.zp p v (-(k : Int))))] = some (.sh (.bool true)) := by
  have zL := hp.zp hv (-(k : Int))
  have a1 : k * (e + 10) ≤ 24 * 30 := Nat.mul_le_mul hk (by omega)
  have a3 : w * k ≤ 20 * 24 := Nat.mul_le_mul hw2 hk
  have lw := v_l_is_lowest (M := 4000) zL.R m2 (R_R zL) hw' (by omega) hb'
  have vp := v_l_power hp m1 m2 hb he hw hw2 hk
  have v0 := v_l_power (k := 0) hp m1 m2 hb he hw hw2 (by omega)
  have vm := v_l_multiplied (q := Bg.R (Bg.pwP p k)) zL.R (hp.pwP k).R m2 hb' (R_Bd (Bg.pw_Bd (by rw [hp.len]; omega) hb k) (hp.pwP k).pos) (by omega) hw' (R_bits (log2_powB hw k) (hp.pwP k).pos) (by omega)
  have ev : Bg.R (Bg.mul (Bg.R (Bg.zp p v (-(k : Int)))) (Bg.R (Bg.pwP p k))) = Bg.one1 m := by
    rw [← R_one1 m]
    refine Bg.R_of (zL.R.mul (hp.pwP k).R).pos (Bg.L.one m).pos ?_
    refine Bg.Q.trans (zL.mul (hp.pwP k)).pos (Bg.mul_Q (Bg.R_Q _) (Bg.R_Q _)) ?_
    have := (Bg.zp_inv hp hv hI (k : Int)).symm
    rw [Bg.zp_nat] at this
    exact this
  rw [ev] at vm
  rw [Bg.pwP_zero hp, R_one1] at v0
  have ok : reprOk (D (Bg.one1 m)) = true := ok_D ((Bg.one_Bd m).mono (by omega)) (show (1 : Int).natAbs < 2 ^ 600 from Nat.one_lt_two_pow (by omega)) (by rw [(Bg.L.one m).len]; exact m2)
  have hl : atI [PyData.int p.1, PyData.tuple (p.2.map PyData.int)] (1 : Int) = some (.tuple (p.2.map PyData.int)) := rfl
  have g1 : gIx (D p) (.int 1) = some (.sh (.tuple (p.2.map PyData.int))) := rfl
  have hll : (p.2.length : Int) = (m : Int) := by rw [hp.len]
  obtain ⟨T, hT⟩ : ∃ T, T = D (Bg.R (Bg.zp p v (-(k : Int)))) := ⟨_, rfl⟩
  obtain ⟨E, hE⟩ : ∃ E, E = D (Bg.one1 m) := ⟨_, rfl⟩
  obtain ⟨W, hW⟩ : ∃ W, W = D (Bg.R (Bg.pwP p k)) := ⟨_, rfl⟩
  obtain ⟨O, hO⟩ : ∃ O, O = D p := ⟨_, rfl⟩
  have fE : flatD E = true := by rw [hE]; exact flat_D _
  have fW : flatD W = true := by rw [hW]; exact flat_D _
  rw [← hT] at lw vm
  rw [← hE] at vm v0 ok
  rw [← hW] at vm vp
  rw [← hO] at vp v0 g1
  rw [← hT, ← hO]
  have v0 : g_l_power [O, .int 0] = some (.sh E) := v0
  refine bodyG_eq rfl (WS.seqW (WS.ifF (by simp [startE, g1, hll, lw]; exact rfl) (WS.nx ?_)))
  dsimp only
  refine WS.end (by simp [vp, vm, v0, fW, fE, ok]; exact rfl) ?_
  simp [Gv]
end K11
namespace K11
open PySem PyProof.Rows L2 Dn
/-! a drawn beginning -/
theorem ints_ofB {b : Int} {es : List PyData} (h : ∀ y ∈ es, ∃ r : Int, y = .int r ∧ -b ≤ r ∧ r ≤ b) : ∃ ts : List Int, es = ts.map PyData.int ∧ ∀ t ∈ ts, -b ≤ t ∧ t ≤ b := by
  induction es with
  | nil => exact ⟨[], rfl, fun t ht => by cases ht⟩
  | cons y es ih =>
    obtain ⟨ts, rfl, ht⟩ := ih fun y hy => h y (List.mem_cons_of_mem _ hy)
    obtain ⟨r, rfl, r0, r1⟩ := h y List.mem_cons_self
    refine ⟨r :: ts, rfl, fun t hm => ?_⟩
    rcases List.mem_cons.mp hm with rfl | hm
    · exact ⟨r0, r1⟩
    · exact ht t hm
theorem v_l_beginning (st : Dn.Deck) (n many : Int) (h : DeckOk true n st) (hn : n ≤ 800000) (hm : 1 ≤ many) (hm2 : many ≤ 120) :
    ∃ s st', g_l_beginning st [.int many] = some (s, st') ∧ ∃ p : Bg.P, s = .sh (D p) ∧ 0 < p.1 ∧ p.1 ≤ 9 ∧ 1 ≤ p.2.length ∧ (p.2.length : Int) ≤ many ∧ (∀ t ∈ p.2, -12 ≤ t ∧ t ≤ 12) ∧ DeckOk true (n + 300) st' := by
  refine bodyK_of rfl ?_
  obtain ⟨s1, st1, e1, thin, rfl, w0, w1, d1⟩ := draw_ok st n 3 h (by omega) (by omega) (by omega)
  obtain ⟨s2, st2, e2, f, rfl, f0, f1, d2⟩ := draw_ok st1 (n + 1) 3 d1 (by omega) (by omega) (by omega)
  refine WS.seq (by simp [startK, e1, e2]; exact rfl) ?_
  obtain ⟨s3, st3, e3, b, rfl, hb, d3⟩ := pickl_ok st2 _ [1, 1, 2, 3] d2 (by omega) (by simp) (by simp)
  simp only [List.map_cons, List.map_nil] at e3
  have hb : b = 1 ∨ b = 2 ∨ b = 3 := by
    simp only [List.mem_cons, List.not_mem_nil, or_false] at hb
    omega
  refine WS.seq (by simp [e3]; exact rfl) ?_
  clear e1 e2 e3
  have hs : ∃ (l : Int) (st4 : Dn.Deck), 1 ≤ l ∧ l ≤ many ∧ DeckOk true (n + 10) st4 ∧ Gv (asgS 5 (ifE (truE (binE (gIntB fun i j => decide (j < i)) (nameE [7, 8] 1) (cst (.int 60)))) (nameE [7, 8] 1) (binE addS (cst (.int 1)) (callK g_l_draw (consA (nameE [7, 8] 0) (consA (nameE [7, 8] 1) nilA))))) [some (.deck st3), some (.sh (.int many)), some (.sh (.int thin)), some (.sh (.int (1 + f))), some (.sh (.int b)), none, none, none, none])
      (.nx [some (.deck st4), some (.sh (.int many)), some (.sh (.int thin)), some (.sh (.int (1 + f))), some (.sh (.int b)), some (.sh (.int l)), none, none, none]) := by
    by_cases c : 60 < many
    · exact ⟨many, st3, hm, Int.le_refl _, d3.mono (by omega), by simp [c]; exact rfl⟩
    · obtain ⟨s4, st4, e4, l, rfl, l0, l1, d4⟩ := draw_ok st3 _ many d3 (by omega) (by omega) (by omega)
      exact ⟨1 + l, st4, by omega, by omega, d4.mono (by omega), by simp [c, e4]; exact rfl⟩
  obtain ⟨l, st4, l0, l1, d4, e4⟩ := hs
  refine WS.seq e4 ?_
  clear e4
  obtain ⟨es, ρ', k1, k2, k3, st5, rfl, d5⟩ := lc_step (vs := [7]) (tg := nameG 7) (el := e1_l_beginning) (Pe := fun y => ∃ r : Int, y = .int r ∧ -3 ≤ r ∧ r ≤ 3)
    (E := fun i ρ => ∃ st' : Dn.Deck, ρ = [some (.deck st'), some (.sh (.int many)), some (.sh (.int thin)), some (.sh (.int (1 + f))), some (.sh (.int b)), some (.sh (.int l)), none, none, none] ∧ DeckOk true (n + 10 + 2 * (i : Int)) st') (rngD 0 l.toNat) 0 [some (.deck st4), some (.sh (.int many)), some (.sh (.int thin)), some (.sh (.int (1 + f))), some (.sh (.int b)), some (.sh (.int l)), none, none, none] ⟨st4, rfl, d4.mono (by omega)⟩ (by
      rintro d k ρ hd hk ⟨st', rfl, dk⟩
      rw [rngD_length] at hk
      obtain ⟨i, rfl⟩ : ∃ i : Nat, d = .int (i : Int) := by
        rw [rng0] at hd
        obtain ⟨i, hi, rfl⟩ := List.mem_map.mp hd
        exact ⟨i, rfl⟩
      obtain ⟨s6, st6, e6, r, rfl, r0, r1, d6⟩ := draw_ok st' _ 7 dk (by omega) (by omega) (by omega)
      obtain ⟨s7, st7, e7, u, rfl, u0, u1, d7⟩ := draw_ok st6 _ 3 d6 (by omega) (by omega) (by omega)
      have m1 : mulS (.int (r - 3)) (.int 0) = some (.sh (.int ((r - 3) * 0))) := mulS_ok (by omega) (by omega) (by omega) (by omega)
      have m2 : mulS (.int (r - 3)) (.int 1) = some (.sh (.int ((r - 3) * 1))) := mulS_ok (by omega) (by omega) (by omega) (by omega)
      by_cases c : u < thin
      · exact ⟨[some (.deck st'), some (.sh (.int many)), some (.sh (.int thin)), some (.sh (.int (1 + f))), some (.sh (.int b)), some (.sh (.int l)), none, some (.sh (.int (i : Int))), none], .sh (.int ((r - 3) * 0)), [some (.deck st7), some (.sh (.int many)), some (.sh (.int thin)), some (.sh (.int (1 + f))), some (.sh (.int b)), some (.sh (.int l)), none, some (.sh (.int (i : Int))), none], .int ((r - 3) * 0), [some (.deck st7), some (.sh (.int many)), some (.sh (.int thin)), some (.sh (.int (1 + f))), some (.sh (.int b)), some (.sh (.int l)), none, some (.sh (.int (i : Int))), none], by simp, by simp [e1_l_beginning, e6, e7, c, m1], rfl, ⟨(r - 3) * 0, rfl, by omega, by omega⟩, st7, rfl, d7.mono (by omega)⟩
      · exact ⟨[some (.deck st'), some (.sh (.int many)), some (.sh (.int thin)), some (.sh (.int (1 + f))), some (.sh (.int b)), some (.sh (.int l)), none, some (.sh (.int (i : Int))), none], .sh (.int ((r - 3) * 1)), [some (.deck st7), some (.sh (.int many)), some (.sh (.int thin)), some (.sh (.int (1 + f))), some (.sh (.int b)), some (.sh (.int l)), none, some (.sh (.int (i : Int))), none], .int ((r - 3) * 1), [some (.deck st7), some (.sh (.int many)), some (.sh (.int thin)), some (.sh (.int (1 + f))), some (.sh (.int b)), some (.sh (.int l)), none, some (.sh (.int (i : Int))), none], by simp, by simp [e1_l_beginning, e6, e7, c, m2], rfl, ⟨(r - 3) * 1, rfl, by omega, by omega⟩, st7, rfl, d7.mono (by omega)⟩)
  rw [rngD_length] at k2 d5
  obtain ⟨ts, rfl, tb⟩ := ints_ofB k3
  rw [List.length_map] at k2
  have kk : lcK [7] (nameG 7) yesB e1_l_beginning (rngD 0 l.toNat) [some (.deck st4), some (.sh (.int many)), some (.sh (.int thin)), some (.sh (.int (1 + f))), some (.sh (.int b)), some (.sh (.int l)), none, none, none] = some (.ls (ts.map PyData.int), [some (.deck st5), some (.sh (.int many)), some (.sh (.int thin)), some (.sh (.int (1 + f))), some (.sh (.int b)), some (.sh (.int l)), none, none, none]) := lcK_of rfl (by rw [rngD_length]; omega) k1
  have r0 : ∀ ρ : Dn.Env, rng1K l ρ = some (rngD 0 l.toNat, ρ) := fun ρ => rng1K_ok (by omega) (by omega)
  refine WS.seq (by simp [r0, kk]; exact rfl) ?_
  have tl0 : 1 ≤ ts.length := by omega
  have tl1 : (ts.length : Int) ≤ many := by omega
  clear k1 k3 kk k2 r0
  obtain ⟨s8, st8, e8, g, rfl, g0, g1, d8⟩ := draw_ok st5 _ 9 d5 (by omega) (by omega) (by omega)
  obtain ⟨s9, st9, e9, x, rfl, hx, d9⟩ := pickl_ok st8 _ [b, -b, b, 0, g - 4] d8 (by omega) (by simp) (by simp)
  simp only [List.map_cons, List.map_nil] at e9
  have hx : -4 ≤ x ∧ x ≤ 4 := by
    simp only [List.mem_cons, List.not_mem_nil, or_false] at hx
    omega
  have st0 : (ts.map PyData.int).set 0 (.int x) = (ts.set 0 x).map PyData.int := by rw [List.map_set]
  refine WS.seq (ρ' := [some (.deck st9), some (.sh (.int many)), some (.sh (.int thin)), some (.sh (.int (1 + f))), some (.sh (.int b)), some (.sh (.int l)), some (.ls ((ts.set 0 x).map PyData.int)), none, none]) (by
    have ix : ixN ts.length 0 = some 0 := ixN_nat (n := ts.length) (k := 0) (by omega)
    simp [e8, e9, ix, st0, -List.map_set]
    exact rfl) ?_
  obtain ⟨us, hus⟩ : ∃ us, us = ts.set 0 x := ⟨_, rfl⟩
  have ul : us.length = ts.length := by rw [hus, List.length_set]
  have ub : ∀ t ∈ us, -4 ≤ t ∧ t ≤ 4 := fun t ht => by
    rw [hus] at ht
    rcases List.mem_or_eq_of_mem_set ht with q | q
    · have := tb t q; omega
    · rw [q]; exact hx
  rw [← hus]
  clear st0 hus e8 e9
  have m : mulS (.int (1 + f)) (.int b) = some (.sh (.int ((1 + f) * b))) := mulS_ok (by omega) (by omega) (by omega) (by omega)
  have fl : f = 0 ∨ f = 1 ∨ f = 2 := by omega
  have k3 := lcK_map (vs := [8]) (tg := nameG 8) (el := e2_l_beginning) (ρ := [some (.deck st9), some (.sh (.int many)), some (.sh (.int thin)), some (.sh (.int (1 + f))), some (.sh (.int b)), some (.sh (.int l)), some (.sh (.list (us.map PyData.int))), none, none]) (inj := PyData.int) (e := fun t => PyData.int ((1 + f) * t)) (xs := us) rfl (by omega) (fun x hx => by
    have bx := ub x hx
    have m2 : mulS (.int (1 + f)) (.int x) = some (.sh (.int ((1 + f) * x))) := mulS_ok (by omega) (by omega) (by omega) (by omega)
    exact ⟨_, Gv.eq (by simp; exact rfl), ⟨_, Gv.eq (by simp [e2_l_beginning, m2]; exact rfl), rfl⟩, rfl⟩)
  refine WS.end (by simp [m, k3]; exact rfl) ?_
  refine ⟨.sh (D ((1 + f) * b, us.map fun t => (1 + f) * t)), st9, by simp [D]; exact rfl, _, rfl, Int.mul_pos (by omega) (by omega), ?_, by simp; omega, by simp; omega, fun t ht => ?_, d9.mono (by omega)⟩
  · show (1 + f) * b ≤ 9
    rcases fl with rfl | rfl | rfl <;> omega
  · obtain ⟨x, hx, rfl⟩ := List.mem_map.mp ht
    have := ub x hx
    rcases fl with rfl | rfl | rfl <;> omega
end K11
namespace K11
open PySem PyProof.Rows L2 Dn
/-! drawn beginnings and their powers -/
structure Bq (m : Nat) (p : Bg.P) : Prop where
  l : Bg.L m p
  m1 : 1 ≤ m
  m2 : m ≤ 120
  b : Bg.Bd 4 p.2
  w : p.1.natAbs < 2 ^ 4
theorem Bq.bn {m : Nat} {p : Bg.P} (h : Bq m p) : Bn p := ⟨h.l.pos, by rw [h.l.len]; exact h.m1, by rw [h.l.len]; exact Nat.le_trans h.m2 (by decide)⟩
def inv (p : Bg.P) : Bg.P := if Bg.gt p.2 0 = 0 then Bg.one1 p.2.length else ivp p
theorem inv_L {m : Nat} {p : Bg.P} (h : Bg.L m p) : Bg.L m (inv p) := by
  unfold inv
  split
  · rw [h.len]; exact Bg.L.one m
  · exact ivp_L h ‹_›
theorem inv_I {m : Nat} {p : Bg.P} (h : Bg.L m p) (hc : Bg.gt p.2 0 ≠ 0) : Bg.I m p (inv p) := by
  unfold inv
  rw [if_neg hc]
  exact ivp_I h hc
theorem cpow4 {c : Int} (h : c.natAbs ≤ 2 ^ 4) (n : Nat) : (c ^ n).natAbs ≤ 2 ^ (4 * n) := by
  rw [Int.natAbs_pow, Nat.pow_mul]
  exact Nat.pow_le_pow_left h n
theorem ivp_Bd4 {m : Nat} {p : Bg.P} (h : Bq m p) : Bg.Bd (5 * m) (ivp p).2 := by
  intro t ht
  unfold ivp at ht
  obtain ⟨i, hi, rfl⟩ := List.mem_map.mp ht
  have hi := List.mem_range.mp hi
  rw [h.l.len] at hi ⊢
  have b1 := Bg.iu_bits (c := Bg.gt p.2 0) (t := Bg.gt p.2) (e := 4) (Nat.le_of_lt (h.b.gt 0)) (fun i => Nat.le_of_lt (h.b.gt i)) i i (Nat.le_refl _)
  have b2 := cpow4 (Nat.le_of_lt (h.b.gt 0)) (m - 1 - i)
  rw [Int.natAbs_mul, Int.natAbs_mul, sgn_abs, Nat.one_mul]
  unfold Bg.iw
  rw [Int.natAbs_mul]
  have b3 : (Bg.iu (Bg.gt p.2 0) (Bg.gt p.2) i).natAbs * (Bg.gt p.2 0 ^ (m - 1 - i)).natAbs ≤ 2 ^ (i * (4 + 1)) * 2 ^ (4 * (m - 1 - i)) := Nat.mul_le_mul b1 b2
  rw [← Nat.pow_add] at b3
  have b4 : 2 ^ (i * (4 + 1) + 4 * (m - 1 - i)) ≤ 2 ^ (5 * (m - 1)) := Nat.pow_le_pow_right (by decide) (by omega)
  have b5 := Nat.le_trans b3 b4
  have p5 : (0 : Nat) < 2 ^ (5 * (m - 1)) := Nat.pow_pos (by decide)
  have b6 : 2 ^ (5 * m) = 32 * 2 ^ (5 * (m - 1)) := by
    rw [show 5 * m = 5 + 5 * (m - 1) by have := h.m1; omega, Nat.pow_add]
  have hw := h.w
  generalize (Bg.iu (Bg.gt p.2 0) (Bg.gt p.2) i).natAbs * (Bg.gt p.2 0 ^ (m - 1 - i)).natAbs = x at *
  generalize 2 ^ (5 * (m - 1)) = y at *
  have : p.1.natAbs * x ≤ 16 * y := Nat.mul_le_mul (by omega) b5
  omega
theorem ivp_w4 {m : Nat} {p : Bg.P} (h : Bq m p) : (ivp p).1.natAbs < 2 ^ (4 * m + 1) := by
  show (sgn _ * _).natAbs < _
  rw [Int.natAbs_mul, sgn_abs, Nat.one_mul, h.l.len, Nat.mul_comm 4 m]
  exact cpow_bits (h.b.gt 0) (Nat.le_refl _)
theorem inv_Bd {m : Nat} {p : Bg.P} (h : Bq m p) : Bg.Bd (5 * m) (inv p).2 := by
  unfold inv
  split
  · exact (Bg.one_Bd _).mono (by have := h.m1; omega)
  · exact ivp_Bd4 h
theorem inv_w {m : Nat} {p : Bg.P} (h : Bq m p) : (inv p).1.natAbs < 2 ^ (4 * m + 1) := by
  unfold inv
  split
  · exact Nat.one_lt_two_pow (by omega)
  · exact ivp_w4 h
theorem v_pow {m : Nat} {p : Bg.P} {z : Int} (h : Bq m p) (h0 : 0 ≤ z ∨ Bg.gt p.2 0 ≠ 0) (hz : z.natAbs ≤ 24) (hz2 : (4 * m + 1) * z.natAbs ≤ 7990) : g_power [D p, .int z] = some (.sh (D (Bg.R (Bg.zp p (inv p) z)))) := by
  have m2 := h.m2
  have vL := inv_L h.l
  exact v_pow_zp (e' := 5 * m) (w' := 4 * m + 1) h.l vL h.m1 h.m2 h.l (Bg.Q.rfl' p) h.b (by omega) h.w (by omega) hz
    (h0.imp id fun q => ⟨inv_I h.l q, R_Bd (inv_Bd h) vL.pos, by omega, R_bits (inv_w h) vL.pos, by omega, hz2⟩)
/-- how large the powers are -/
theorem zb {m : Nat} {p : Bg.P} (h : Bq m p) (z : Int) {E : Nat} (hE : z.natAbs * (5 * m + 10) + 1 ≤ E) : Bg.Bd E (Bg.R (Bg.zp p (inv p) z)).2 ∧ (Bg.R (Bg.zp p (inv p) z)).1.natAbs < 2 ^ E := by
  have m1 := h.m1
  have m2 := h.m2
  have vL := inv_L h.l
  have zL := h.l.zp vL z
  by_cases hz : 0 ≤ z
  · obtain ⟨k, rfl⟩ := Int.eq_ofNat_of_zero_le hz
    rw [Int.natAbs_natCast] at hE
    rw [Bg.zp_nat] at zL ⊢
    have a1 : k * (4 + 10) ≤ k * (5 * m + 10) := Nat.mul_le_mul_left _ (by omega)
    have a2 : 4 * k ≤ k * (5 * m + 10) := by rw [Nat.mul_comm]; exact Nat.mul_le_mul_left _ (by omega)
    exact ⟨(R_Bd (Bg.pw_Bd (by rw [h.l.len]; omega) h.b k) zL.pos).mono (by omega), Nat.lt_of_lt_of_le (R_bits (log2_powB h.w k) zL.pos) (Nat.pow_le_pow_right (by decide) (by omega))⟩
  · obtain ⟨k, hk⟩ := Int.eq_ofNat_of_zero_le (show 0 ≤ -z by omega)
    have hzk : z = -(k : Int) := by omega
    subst hzk
    have kk : (-(k : Int)).natAbs = k := by omega
    rw [kk] at hE
    rw [Bg.zp_neg h.l vL] at zL ⊢
    have a2 : (4 * m + 1) * k ≤ k * (5 * m + 10) := by rw [Nat.mul_comm]; exact Nat.mul_le_mul_left _ (by omega)
    exact ⟨(R_Bd (Bg.pw_Bd (by rw [vL.len]; omega) (inv_Bd h) k) zL.pos).mono (by omega), Nat.lt_of_lt_of_le (R_bits (log2_powB (inv_w h) k) zL.pos) (Nat.pow_le_pow_right (by decide) (by omega))⟩
/-- the first one undone -/
theorem zb1 {m : Nat} {p : Bg.P} (h : Bq m p) : Bg.Bd 600 (Bg.R (Bg.zp p (inv p) (-1))).2 ∧ (Bg.R (Bg.zp p (inv p) (-1))).1.natAbs < 2 ^ 600 := by
  have m2 := h.m2
  have vL := inv_L h.l
  have e : Bg.zp p (inv p) (-1) = inv p := by
    have := Bg.zp_neg h.l vL 1
    rw [Bg.pwP_one] at this
    exact this
  rw [e]
  exact ⟨(R_Bd (inv_Bd h) vL.pos).mono (by omega), Nat.lt_of_lt_of_le (R_bits (inv_w h) vL.pos) (Nat.pow_le_pow_right (by decide) (by omega))⟩
theorem n30 : (1000000000000000000000000000000 : Nat) < 2 ^ 100 := by decide
theorem short_Bd {p : Bg.P} (h : shortB p = true) (h0 : 0 < p.1) : Bg.Bd 100 p.2 ∧ p.1.natAbs < 2 ^ 100 := by
  obtain ⟨h1, h2⟩ := gr_lt (of_decide_eq_true h)
  refine ⟨fun t ht => Nat.lt_trans (show t.natAbs < 1000000000000000000000000000000 from ?_) n30, Nat.lt_trans (show p.1.natAbs < 1000000000000000000000000000000 from ?_) n30⟩
  · have := h2 t ht; omega
  · omega
theorem ok_mul {m : Nat} {p q : Bg.P} (hp : Bg.L m p) (hq : Bg.L m q) (m2 : m ≤ 120) (h1 : Bg.Bd 100 p.2) (h2 : p.1.natAbs < 2 ^ 100) (h3 : Bg.Bd 100 q.2) (h4 : q.1.natAbs < 2 ^ 100) : reprOk (D (Bg.R (Bg.mul p q))) = true := by
  have L0 := hp.mul hq
  have mb : (p.1 * q.1).natAbs < 2 ^ (100 + 100) := by rw [Int.natAbs_mul, Nat.pow_add]; exact Nat.mul_lt_mul'' h2 h4
  refine ok_D ((R_Bd (Bg.cv_Bd (by rw [hp.len]; omega) h1 h3) L0.pos).mono (by omega)) (Nat.lt_of_lt_of_le (R_bits mb L0.pos) (Nat.pow_le_pow_right (by decide) (by omega))) (by rw [L0.R.len]; omega)
end K11
namespace K11
open PySem PyProof.Rows L2 Dn
/-! powers go together -/
theorem zbn {m : Nat} {p : Bg.P} (h : Bq m p) {k : Nat} (hk : k ≤ 24) : Bg.Bd 400 (Bg.R (Bg.zp p (inv p) (k : Int))).2 ∧ (Bg.R (Bg.zp p (inv p) (k : Int))).1.natAbs < 2 ^ 400 := by
  have m2 := h.m2
  rw [Bg.zp_nat]
  have zL := h.l.pwP k
  exact ⟨(R_Bd (Bg.pw_Bd (by rw [h.l.len]; omega) h.b k) zL.pos).mono (by omega), Nat.lt_of_lt_of_le (R_bits (log2_powB h.w k) zL.pos) (Nat.pow_le_pow_right (by decide) (by omega))⟩
theorem v_together {m F : Nat} {p o : Bg.P} {j k : Int} (hp : Bq m p) (ho : Bq m o) (hF : (F = 2 ∧ m ≤ 12) ∨ F = 1) (h : (0 ≤ j ∧ 0 ≤ k ∧ j ≤ 2 * (F : Int) ∧ k ≤ 2 * (F : Int)) ∨ (Bg.gt p.2 0 ≠ 0 ∧ Bg.gt o.2 0 ≠ 0 ∧ -(F : Int) ≤ j ∧ j ≤ F ∧ -(F : Int) ≤ k ∧ k ≤ F)) :
    g_l_are_together [D p, D o, .int j, .int k] = some (.sh (.bool true)) := by
  have m1 := hp.m1
  have m2 := hp.m2
  have vL := inv_L hp.l
  have uL := inv_L ho.l
  have j4 : j.natAbs ≤ 4 := by omega
  have k4 : k.natAbs ≤ 4 := by omega
  have jk : (j * k).natAbs ≤ 16 := by rw [Int.natAbs_mul]; exact Nat.mul_le_mul j4 k4
  have c4 : ∀ z : Int, z.natAbs ≤ 16 → (4 * m + 1) * z.natAbs ≤ 7990 ∧ z.natAbs ≤ 24 := fun z hz => by
    have := Nat.mul_le_mul (show 4 * m + 1 ≤ 481 by omega) hz
    omega
  have pos : ∀ z : Int, z = j ∨ z = k ∨ z = j + k ∨ z = j * k → 0 ≤ z ∨ Bg.gt p.2 0 ≠ 0 := fun z hz => by
    rcases h with ⟨h1, h2, _⟩ | ⟨h1, _⟩
    · refine .inl ?_
      have := Int.mul_nonneg h1 h2
      omega
    · exact .inr h1
  have pw : ∀ z : Int, z = j ∨ z = k ∨ z = j + k ∨ z = j * k → g_power [D p, .int z] = some (.sh (D (Bg.R (Bg.zp p (inv p) z)))) := fun z hz => by
    have z16 : z.natAbs ≤ 16 := by omega
    exact v_pow hp (pos z hz) (c4 z z16).2 (c4 z z16).1
  obtain ⟨N, hN⟩ : ∃ N, N = Bg.R (Bg.zp p (inv p) j) := ⟨_, rfl⟩
  obtain ⟨Fa, hFa⟩ : ∃ N, N = Bg.R (Bg.zp p (inv p) k) := ⟨_, rfl⟩
  have pj := pw j (.inl rfl)
  have pk := pw k (.inr (.inl rfl))
  have ps := pw (j + k) (.inr (.inr (.inl rfl)))
  have pm := pw (j * k) (.inr (.inr (.inr rfl)))
  rw [← hN] at pj
  rw [← hFa] at pk
  have zj := hp.l.zp vL j
  have zk := hp.l.zp vL k
  have NL : Bg.L m N := by rw [hN]; exact zj.R
  have FL : Bg.L m Fa := by rw [hFa]; exact zk.R
  have NQ : Bg.Q N (Bg.zp p (inv p) j) := by rw [hN]; exact Bg.R_Q _
  have FQ : Bg.Q Fa (Bg.zp p (inv p) k) := by rw [hFa]; exact Bg.R_Q _
  have bn : ∀ {q : Bg.P}, Bg.L m q → Bn q := fun q => ⟨q.pos, by rw [q.len]; exact m1, by rw [q.len]; omega⟩
  have sN := v_l_is_short (p := N) (by rw [NL.len]; omega)
  have sF := v_l_is_short (p := Fa) (by rw [FL.len]; omega)
  -- the product of two powers
  have q1 : shortB N = true → shortB Fa = true → ∃ E, g_multiplied [D N, D Fa] = some (.sh E) ∧ g_power [D p, .int (j + k)] = some (.sh E) ∧ reprOk E = true ∧ flatD E = true := fun a b => by
    obtain ⟨n1, n2⟩ := short_Bd a NL.pos
    obtain ⟨f1, f2⟩ := short_Bd b FL.pos
    refine ⟨D (Bg.R (Bg.mul N Fa)), v_multipliedB (bn NL) (bn FL) n1 f1 (by omega) n2 f2 (by omega), ?_, ok_mul NL FL m2 n1 n2 f1 f2, flat_D _⟩
    rw [ps]
    have : Bg.R (Bg.zp p (inv p) (j + k)) = Bg.R (Bg.mul N Fa) := Bg.R_of (hp.l.zp vL _).pos (NL.mul FL).pos (Bg.Q.symm (Bg.Q.trans (zj.mul zk).pos (Bg.mul_Q NQ FQ) (Bg.zp_add hp.l vL (h.elim (fun q => .inl ⟨q.1, q.2.1⟩) fun q => .inr (inv_I hp.l q.1)))))
    rw [this]
  -- the power of a power
  have q2 : shortB N = true → ∃ E, g_power [D N, .int k] = some (.sh E) ∧ g_power [D p, .int (j * k)] = some (.sh E) ∧ reprOk E = true ∧ flatD E = true := fun a => by
    obtain ⟨n1, n2⟩ := short_Bd a NL.pos
    have zj' := hp.l.zp vL (-j)
    refine ⟨_, v_pow_zp (e' := 700) (w' := 700) (p := Bg.zp p (inv p) j) (v := Bg.zp p (inv p) (-j)) zj zj' m1 m2 NL NQ n1 (by omega) n2 (by omega) (by omega) ?_, ?_, ?_, flat_D _⟩
    · rcases h with ⟨_, h2, _⟩ | ⟨h1, _, h3⟩
      · exact .inl h2
      · refine .inr ⟨Bg.zp_inv hp.l vL (inv_I hp.l h1) j, ?_⟩
        have hE : (-j).natAbs * (5 * m + 10) + 1 ≤ 700 := by
          rcases hF with ⟨rfl, hm⟩ | rfl
          · have := Nat.mul_le_mul (show (-j).natAbs ≤ 2 by omega) (show 5 * m + 10 ≤ 70 by omega)
            omega
          · have := Nat.mul_le_mul (show (-j).natAbs ≤ 1 by omega) (show 5 * m + 10 ≤ 610 by omega)
            omega
        obtain ⟨z1, z2⟩ := zb hp (-j) hE
        exact ⟨z1, by omega, z2, by omega, by omega⟩
    · rw [Bg.zp_zp hp.l vL]; exact pm
    · rw [Bg.zp_zp hp.l vL]
      have ze : Bg.Bd 600 (Bg.R (Bg.zp p (inv p) (j * k))).2 ∧ (Bg.R (Bg.zp p (inv p) (j * k))).1.natAbs < 2 ^ 600 := by
        by_cases z0 : 0 ≤ j * k
        · obtain ⟨i, hi⟩ := Int.eq_ofNat_of_zero_le z0
          rw [hi]
          obtain ⟨z1, z2⟩ := zbn hp (k := i) (by omega)
          exact ⟨z1.mono (by omega), Nat.lt_of_lt_of_le z2 (Nat.pow_le_pow_right (by decide) (by omega))⟩
        · have h3 := h.resolve_left fun q => z0 (Int.mul_nonneg q.1 q.2.1)
          rcases hF with ⟨rfl, hm⟩ | rfl
          · have ja : (j * k).natAbs ≤ 4 := by rw [Int.natAbs_mul]; exact Nat.mul_le_mul (show j.natAbs ≤ 2 by omega) (show k.natAbs ≤ 2 by omega)
            have := Nat.mul_le_mul ja (show 5 * m + 10 ≤ 70 by omega)
            exact zb hp (j * k) (by omega)
          · have ja : (j * k).natAbs ≤ 1 := by rw [Int.natAbs_mul]; exact Nat.mul_le_mul (show j.natAbs ≤ 1 by omega) (show k.natAbs ≤ 1 by omega)
            rw [show j * k = -1 by omega]
            exact zb1 hp
      exact ok_D ze.1 ze.2 (by rw [(hp.l.zp vL _).R.len]; omega)
  -- the power of a product
  obtain ⟨B, hB⟩ : ∃ B, B = Bg.R (Bg.mul p o) := ⟨_, rfl⟩
  obtain ⟨La, hLa⟩ : ∃ B, B = Bg.R (Bg.zp o (inv o) j) := ⟨_, rfl⟩
  have pb := v_multipliedB (bn hp.l) (bn ho.l) hp.b ho.b (by omega) hp.w ho.w (by omega)
  rw [← hB] at pb
  have pl := v_pow (z := j) ho (by rcases h with h | h; exact .inl h.1; exact .inr h.2.1) (by omega) (c4 j (by omega)).1
  rw [← hLa] at pl
  have BL0 := hp.l.mul ho.l
  have BL : Bg.L m B := by rw [hB]; exact BL0.R
  have lj := ho.l.zp uL j
  have LL : Bg.L m La := by rw [hLa]; exact lj.R
  have LQ : Bg.Q La (Bg.zp o (inv o) j) := by rw [hLa]; exact Bg.R_Q _
  have BQ : Bg.Q B (Bg.mul p o) := by rw [hB]; exact Bg.R_Q _
  have sB := v_l_is_short (p := B) (by rw [BL.len]; omega)
  have sL := v_l_is_short (p := La) (by rw [LL.len]; omega)
  have q3 : shortB B = true → shortB N = true → shortB La = true → ∃ E, g_multiplied [D N, D La] = some (.sh E) ∧ g_power [D B, .int j] = some (.sh E) ∧ reprOk E = true ∧ flatD E = true := fun b a c => by
    obtain ⟨n1, n2⟩ := short_Bd a NL.pos
    obtain ⟨f1, f2⟩ := short_Bd c LL.pos
    obtain ⟨b1, b2⟩ := short_Bd b BL.pos
    refine ⟨D (Bg.R (Bg.mul N La)), v_multipliedB (bn NL) (bn LL) n1 f1 (by omega) n2 f2 (by omega), ?_, ok_mul NL LL m2 n1 n2 f1 f2, flat_D _⟩
    have vu := vL.mul uL
    have wb : ((Bg.mul (inv p) (inv o)).1).natAbs < 2 ^ ((4 * m + 1) + (4 * m + 1)) := by
      show ((inv p).1 * (inv o).1).natAbs < _
      rw [Int.natAbs_mul, Nat.pow_add]; exact Nat.mul_lt_mul'' (inv_w hp) (inv_w ho)
    rw [v_pow_zp (e' := 5 * m + 5 * m + 10) (w' := (4 * m + 1) + (4 * m + 1)) (p := Bg.mul p o) (v := Bg.mul (inv p) (inv o)) BL0 vu m1 m2 BL BQ b1 (by omega) b2 (by omega) (by omega) (by
      rcases h with ⟨h1, _⟩ | ⟨h1, h2, h3⟩
      · exact .inl h1
      · refine .inr ⟨Bg.I.mul hp.l vL ho.l uL (inv_I hp.l h1) (inv_I ho.l h2), R_Bd (Bg.cv_Bd (by rw [vL.len]; omega) (inv_Bd hp) (inv_Bd ho)) vu.pos, by omega, R_bits wb vu.pos, by omega, ?_⟩
        have := Nat.mul_le_mul (show (4 * m + 1) + (4 * m + 1) ≤ 962 by omega) j4
        omega), Bg.zp_mul hp.l vL ho.l uL]
    have : Bg.R (Bg.mul (Bg.zp p (inv p) j) (Bg.zp o (inv o) j)) = Bg.R (Bg.mul N La) := Bg.R_of (zj.mul lj).pos (NL.mul LL).pos (Bg.mul_Q NQ.symm LQ.symm)
    rw [this]
  -- the run
  have g1 : gIx (D p) (.int 1) = some (.sh (.tuple (p.2.map PyData.int))) := rfl
  have g2 : gIx (D o) (.int 1) = some (.sh (.tuple (o.2.map PyData.int))) := rfl
  have hlp : (p.2.length : Int) = (m : Int) := by rw [hp.l.len]
  have hlo : (o.2.length : Int) = (m : Int) := by rw [ho.l.len]
  obtain ⟨s, hs⟩ : ∃ s, s = j + k := ⟨_, rfl⟩
  obtain ⟨u, hu⟩ : ∃ u, u = j * k := ⟨_, rfl⟩
  have mm : mulS (.int j) (.int k) = some (.sh (.int u)) := by rw [hu]; exact mulS_ok (by omega) (by omega) (by omega) (by omega)
  have cs : (if s < 0 then -s else s) < 25 := by split <;> omega
  have cu : (if u < 0 then -u else u) < 25 := by split <;> omega
  have es : j + k = s := hs.symm
  rw [es] at q1
  rw [← hu] at q2
  obtain ⟨dp, hdp⟩ : ∃ x, x = D p := ⟨_, rfl⟩
  obtain ⟨do', hdo⟩ : ∃ x, x = D o := ⟨_, rfl⟩
  obtain ⟨dN, hdN⟩ : ∃ x, x = D N := ⟨_, rfl⟩
  obtain ⟨dF, hdF⟩ : ∃ x, x = D Fa := ⟨_, rfl⟩
  obtain ⟨dB, hdB⟩ : ∃ x, x = D B := ⟨_, rfl⟩
  obtain ⟨dL, hdL⟩ : ∃ x, x = D La := ⟨_, rfl⟩
  have fN : flatD dN = true := by rw [hdN]; exact flat_D _
  have fF : flatD dF = true := by rw [hdF]; exact flat_D _
  have fB : flatD dB = true := by rw [hdB]; exact flat_D _
  have fL : flatD dL = true := by rw [hdL]; exact flat_D _
  rw [← hdp, ← hdo] at pb ⊢
  rw [← hdp] at pj pk g1 q1 q2
  rw [← hdo] at pl g2
  rw [← hdN] at pj sN q1 q2 q3
  rw [← hdF] at pk sF q1
  rw [← hdB] at pb sB q3
  rw [← hdL] at pl sL q3
  clear pw pm ps hdp hdo hdN hdF hdB hdL
  obtain ⟨a, ha⟩ : ∃ a, a = shortB N := ⟨_, rfl⟩
  obtain ⟨b, hb⟩ : ∃ a, a = shortB Fa := ⟨_, rfl⟩
  obtain ⟨c, hc⟩ : ∃ a, a = shortB B := ⟨_, rfl⟩
  obtain ⟨d, hd⟩ : ∃ a, a = shortB La := ⟨_, rfl⟩
  rw [← ha] at sN q1 q2 q3
  rw [← hb] at sF q1
  rw [← hc] at sB q3
  rw [← hd] at sL q3
  clear ha hb hc hd NQ FQ LQ BQ NL FL LL BL BL0 zj zk lj
  refine bodyG_eq rfl (WS.seq (ρ' := [some (.sh dp), some (.sh do'), some (.sh (.int j)), some (.sh (.int k)), some (.sh dN), some (.sh dF), none, none]) (by simp [startE, pj, pk, fN, fF]; exact rfl) ?_)
  refine WS.seqW (WS.ifF (by
    cases a with
    | false => simp [sN]; exact rfl
    | true =>
      cases b with
      | false => simp [sN, sF]; exact rfl
      | true =>
        obtain ⟨E, e1, e2, e3, e4⟩ := q1 rfl rfl
        simp [sN, sF, es, cs, e1, e2, e3, e4]; exact rfl) (WS.nx ?_))
  dsimp only
  refine WS.seqW (WS.ifF (by
    cases a with
    | false => simp [sN]; exact rfl
    | true =>
      obtain ⟨E, e1, e2, e3, e4⟩ := q2 rfl
      simp [sN, mm, cu, e1, e2, e3, e4]; exact rfl) (WS.nx ?_))
  dsimp only
  refine WS.seq (ρ' := [some (.sh dp), some (.sh do'), some (.sh (.int j)), some (.sh (.int k)), some (.sh dN), some (.sh dF), some (.sh dB), none]) (by simp [pb, fB]; exact rfl) ?_
  cases c with
  | false =>
    refine WS.seqW (WS.ifT (by simp [g1, g2, hlp, hlo, sB]; exact rfl) ?_)
    refine WS.end (by simp; exact rfl) ?_
    exact rfl
  | true =>
    refine WS.seqW (WS.ifF (by simp [g1, g2, hlp, hlo, sB]; exact rfl) (WS.nx ?_))
    dsimp only
    refine WS.seq (ρ' := [some (.sh dp), some (.sh do'), some (.sh (.int j)), some (.sh (.int k)), some (.sh dN), some (.sh dF), some (.sh dB), some (.sh dL)]) (by simp [pl, fL]; exact rfl) ?_
    by_cases z : a = true ∧ d = true
    · obtain ⟨rfl, rfl⟩ := z
      obtain ⟨E, e1, e2, e3, e4⟩ := q3 rfl rfl rfl
      refine WS.seqW (WS.ifF (by simp [sN, sL]; exact rfl) (WS.nx ?_))
      dsimp only
      refine WS.end (by simp [e1, e2, e3, e4]; exact rfl) ?_
      simp [Gv]
    · refine WS.seqW (WS.ifT (by
        cases a with
        | false => simp [sN]; exact rfl
        | true =>
          cases d with
          | false => simp [sN, sL]; exact rfl
          | true => exact absurd ⟨rfl, rfl⟩ z) ?_)
      refine WS.end (by simp; exact rfl) ?_
      exact rfl
end K11
namespace K11
open PySem PyProof.Rows L2 Dn
/-! one turn -/
theorem cut_hi {xs : List PyData} {k : Nat} (h : k ≤ xs.length) : Dn.cutD xs (some (k : Int)) none = xs.drop k := by
  unfold Dn.cutD
  rw [HT.sIx_none, HT.sIx_nat, Nat.min_eq_left h, List.take_of_length_le (by rw [List.length_drop]; omega)]
theorem turn_ok (ns : List Int) (st : Dn.Deck) (n many t : Int) (hm : many = 120 ∨ many = 60 ∨ many = 12) (ht : 0 ≤ t) (ht2 : t = 0 ∨ many = 12) (hd : DeckOk true n st) (hn : n ≤ 100000) (o4 o5 o6 o7 o8 o9 o10 o11 o12 : Option S) :
    WS w2_law [some (.scr ns), some (.deck st), some (.sh (.int many)), some (.sh (.int t)), o4, o5, o6, o7, o8, o9, o10, o11, o12, none] fun o =>
      ∃ (st' : Dn.Deck) (q4 q5 q6 q7 q8 q9 q10 q11 q12 : Option S), o = .nx [some (.scr ns), some (.deck st'), some (.sh (.int many)), some (.sh (.int t)), q4, q5, q6, q7, q8, q9, q10, q11, q12, none] ∧ DeckOk true (n + 500) st' := by
  obtain ⟨s1, st1, e1, p, rfl, p0, p1, pl0, pl1, pt, d1⟩ := v_l_beginning st n many hd (by omega) (by omega) (by omega)
  obtain ⟨m, hmm⟩ : ∃ m, m = p.2.length := ⟨_, rfl⟩
  rw [← hmm] at pl0 pl1
  have hp : Bq m p := ⟨⟨p0, hmm.symm⟩, pl0, by omega, fun t ht => by have := pt t ht; show t.natAbs < 16; omega, by show p.1.natAbs < 16; omega⟩
  obtain ⟨y, hy⟩ : ∃ y, y = Builtin.bitAnd t 1 := ⟨_, rfl⟩
  refine WS.seq (ρ' := [some (.scr ns), some (.deck st1), some (.sh (.int many)), some (.sh (.int t)), some (.sh (D p)), some (.sh (.int y)), o6, o7, o8, o9, o10, o11, o12, none]) (by simp [e1, ← hy]; exact rfl) ?_
  clear e1
  obtain ⟨w, hw⟩ : ∃ w : Int, w = if many < 60 ∧ t = 0 then 25 else if many < 120 then 7 else 4 := ⟨_, rfl⟩
  have w1 : 1 ≤ w ∧ w ≤ 25 ∧ (60 ≤ many → w ≤ 7) ∧ (120 ≤ many → w ≤ 4) := by
    rw [hw]
    split
    · omega
    · split <;> omega
  obtain ⟨s2, st2, e2, k, rfl, k0, k1, d2⟩ := draw_ok st1 _ w d1 (by omega) (by omega) (by omega)
  obtain ⟨k, rfl⟩ := Int.eq_ofNat_of_zero_le k0
  have k24 : k ≤ 24 := by omega
  have kw : (4 * m + 1) * k ≤ 7990 ∧ k * (5 * m + 10) + 1 ≤ 2000 := by
    rcases hm with rfl | rfl | rfl
    · have h1 := Nat.mul_le_mul (show 4 * m + 1 ≤ 481 by omega) (show k ≤ 3 by omega)
      have h2 := Nat.mul_le_mul (show k ≤ 3 by omega) (show 5 * m + 10 ≤ 610 by omega)
      omega
    · have h1 := Nat.mul_le_mul (show 4 * m + 1 ≤ 241 by omega) (show k ≤ 6 by omega)
      have h2 := Nat.mul_le_mul (show k ≤ 6 by omega) (show 5 * m + 10 ≤ 310 by omega)
      omega
    · have h1 := Nat.mul_le_mul (show 4 * m + 1 ≤ 49 by omega) k24
      have h2 := Nat.mul_le_mul k24 (show 5 * m + 10 ≤ 70 by omega)
      omega
  refine WS.seq (ρ' := [some (.scr ns), some (.deck st2), some (.sh (.int many)), some (.sh (.int t)), some (.sh (D p)), some (.sh (.int y)), some (.sh (.int (k : Int))), o7, o8, o9, o10, o11, o12, none]) (by
    by_cases c1 : many < 60
    · by_cases c2 : t = 0
      · rw [if_pos ⟨c1, c2⟩] at hw
        subst hw
        simp [c1, c2, e2]; exact rfl
      · rw [if_neg (fun z => c2 z.2), if_pos (by omega)] at hw
        subst hw
        simp [c1, c2, e2, show many < 120 by omega]; exact rfl
    · rw [if_neg (fun z => c1 z.1)] at hw
      by_cases c2 : many < 120
      · rw [if_pos c2] at hw
        subst hw
        simp [c1, c2, e2]; exact rfl
      · rw [if_neg c2] at hw
        subst hw
        simp [c1, c2, e2]; exact rfl) ?_
  clear e2 hw w1
  -- what the powers are
  have vL := inv_L hp.l
  have pk := v_pow (z := (k : Int)) hp (.inl (by omega)) (by omega) (by rw [Int.natAbs_natCast]; exact kw.1)
  have P0 := v_pow (z := ((0 : Nat) : Int)) hp (.inl (by omega)) (by omega) (by show (4 * m + 1) * 0 ≤ 7990; omega)
  have P1 := v_pow (z := ((1 : Nat) : Int)) hp (.inl (by omega)) (by omega) (by show (4 * m + 1) * 1 ≤ 7990; have := hp.m2; omega)
  rw [Bg.zp_nat] at pk P0 P1
  rw [Bg.pwP_one] at P1
  have lk := v_l_power (k := k) hp.l hp.m1 (by have := hp.m2; omega) hp.b (by omega) hp.w (by omega) k24
  have L0 := v_l_power (k := 0) hp.l hp.m1 (by have := hp.m2; omega) hp.b (by omega) hp.w (by omega) (by omega)
  have lr := v_l_reduced (d := .tuple (p.2.map PyData.int)) p (.inr rfl) p0 hp.w (by omega) (by have := hp.m2; omega) hp.b
  have ok : ∀ i, i ≤ 24 → RP (D (Bg.R (Bg.pwP p i))) 2 402 := fun i hi => by
    have z := zbn hp hi
    rw [Bg.zp_nat] at z
    exact rp_Dx (z.1.mono (by omega)) (Nat.lt_of_lt_of_le z.2 (Nat.pow_le_pow_right (by decide) (by omega))) (by rw [((hp.l.pwP i).R).len]; have := hp.m2; omega)
  have okk := (ok k k24).ok (by omega) (by omega)
  have ok0 := ok 0 (by omega)
  have ok1 := ok 1 (by omega)
  rw [Bg.pwP_one] at ok1
  have ok2 : reprOk (.tuple [D (Bg.R (Bg.pwP p 0)), D (Bg.R p)]) = true := (RP.tup (RPL.cons ok0 (RPL.cons ok1 RPL.nil))).ok (by omega) (by omega)
  have rf : Bg.gt p.2 0 = 0 → ∀ z : Int, z < 0 → g_l_is_refused [D p, .int z, .int y] = some (.sh (.bool true)) := fun h0 z hz => v_refused hp.bn h0 hz
  have g0 : gIx (D p) (.int 0) = some (.sh (.int p.1)) := rfl
  have g1 : gIx (D p) (.int 1) = some (.sh (.tuple (p.2.map PyData.int))) := rfl
  have a0 : atI (p.2.map PyData.int) (0 : Int) = some (.int (Bg.gt p.2 0)) := at_gt (xs := p.2) (i := 0) (by omega)
  have un : Bg.gt p.2 0 ≠ 0 → ∃ V, g_power [D p, .int (-(k : Int))] = some (.sh V) ∧ flatD V = true ∧ g_l_is_undone [D p, .int (k : Int), V] = some (.sh (.bool true)) := fun hc => by
    have kk : (-(k : Int)).natAbs = k := by omega
    have z := zb hp (-(k : Int)) (E := 2000) (by rw [kk]; exact kw.2)
    exact ⟨_, v_pow hp (.inr hc) (by omega) (by rw [kk]; exact kw.1), flat_D _, v_l_is_undone (w' := 0) hp.l vL (inv_I hp.l hc) hp.m1 (by have := hp.m2; omega) hp.b (by omega) hp.w (by omega) k24 (z.1.mono (by omega)) (Nat.lt_of_lt_of_le z.2 (Nat.pow_le_pow_right (by decide) (by omega)))⟩
  obtain ⟨T, hT⟩ : ∃ T, T = D (Bg.R (Bg.pwP p k)) := ⟨_, rfl⟩
  obtain ⟨T0, hT0⟩ : ∃ T, T = D (Bg.R (Bg.pwP p 0)) := ⟨_, rfl⟩
  obtain ⟨T1, hT1⟩ : ∃ T, T = D (Bg.R p) := ⟨_, rfl⟩
  have fT : flatD T = true := by rw [hT]; exact flat_D _
  have fT0 : flatD T0 = true := by rw [hT0]; exact flat_D _
  have fT1 : flatD T1 = true := by rw [hT1]; exact flat_D _
  rw [← hT] at pk lk okk
  rw [← hT0] at P0 L0 ok2
  rw [← hT1] at P1 lr ok2
  have P0 : g_power [D p, .int 0] = some (.sh T0) := P0
  have P1 : g_power [D p, .int 1] = some (.sh T1) := P1
  have L0 : g_l_power [D p, .int 0] = some (.sh T0) := L0
  obtain ⟨c, hc⟩ : ∃ c, c = Bg.gt p.2 0 := ⟨_, rfl⟩
  rw [← hc] at rf a0 un
  refine WS.seq (ρ' := [some (.scr ns), some (.deck st2), some (.sh (.int many)), some (.sh (.int t)), some (.sh (D p)), some (.sh (.int y)), some (.sh (.int (k : Int))), some (.sh T), o8, o9, o10, o11, o12, none]) (by
    by_cases z : y = 0
    · simp [z, pk, fT]; exact rfl
    · simp [z, pk, fT]; exact rfl) ?_
  refine WS.seqW (WS.ifF (by simp [lk, okk, fT]; exact rfl) (WS.nx ?_))
  dsimp only
  refine WS.seqW (WS.ifF (by simp [P0, P1, L0, g0, g1, lr, ok2, fT0, fT1]; exact rfl) (WS.nx ?_))
  dsimp only
  refine WS.seqW (WS.ifF (by
    by_cases z : c = 0
    · have r := rf z (-1 - (k : Int) / 2) (by omega)
      simp [g1, a0, z, r]; exact rfl
    · simp [g1, a0, z]; exact rfl) (WS.nx ?_))
  dsimp only
  obtain ⟨B, hB⟩ : ∃ B : Bool, B = decide ((if c < 0 then -c else c) = p.1) := ⟨_, rfl⟩
  refine WS.seq (ρ' := [some (.scr ns), some (.deck st2), some (.sh (.int many)), some (.sh (.int t)), some (.sh (D p)), some (.sh (.int y)), some (.sh (.int (k : Int))), some (.sh T), some (.sh (.bool B)), o9, o10, o11, o12, none]) (by simp [g0, g1, a0, ← hB]; exact rfl) ?_
  have Bc : B = true → c ≠ 0 := fun h => by
    rw [hB] at h
    have := of_decide_eq_true h
    split at this <;> omega
  refine WS.seqW (WS.ifF (ρ' := [some (.scr ns), some (.deck st2), some (.sh (.int many)), some (.sh (.int t)), some (.sh (D p)), some (.sh (.int y)), some (.sh (.int (k : Int))), some (.sh T), some (.sh (.bool B)), o9, o10, o11, o12, none]) (by
    cases B with
    | false => simp; exact rfl
    | true =>
      obtain ⟨V, v1, v2, v3⟩ := un (Bc rfl)
      by_cases z : y = 0
      · simp [if_pos z, v1, v2, v3]; exact rfl
      · simp [if_neg z, v1, v2, v3]; exact rfl) (WS.nx ?_))
  dsimp only
  clear un rf ok ok0 ok1 ok2 okk pk lk P0 P1 L0 lr fT fT0 fT1 hT hT0 hT1
  -- the other beginning
  obtain ⟨es, ρ', k1', k2', k3', st3, rfl, d3⟩ := lc_step (vs := [13]) (tg := nameG 13) (el := e1_law) (Pe := fun y => ∃ r : Int, y = .int r ∧ -2 ≤ r ∧ r ≤ 2)
    (E := fun i ρ => ∃ st' : Dn.Deck, ρ = [some (.scr ns), some (.deck st'), some (.sh (.int many)), some (.sh (.int t)), some (.sh (D p)), some (.sh (.int y)), some (.sh (.int (k : Int))), some (.sh T), some (.sh (.bool B)), o9, o10, o11, o12, none] ∧ DeckOk true (n + 301 + (i : Int)) st') (p.2.map PyData.int) 0 [some (.scr ns), some (.deck st2), some (.sh (.int many)), some (.sh (.int t)), some (.sh (D p)), some (.sh (.int y)), some (.sh (.int (k : Int))), some (.sh T), some (.sh (.bool B)), o9, o10, o11, o12, none] ⟨st2, rfl, d2.mono (by omega)⟩ (by
      rintro d i ρ hd hk ⟨st', rfl, dk⟩
      rw [List.length_map] at hk
      obtain ⟨x, hx, rfl⟩ := List.mem_map.mp hd
      obtain ⟨s7, st7, e7, r, rfl, r0, r1, d7⟩ := draw_ok st' _ 5 dk (by omega) (by omega) (by omega)
      exact ⟨[some (.scr ns), some (.deck st'), some (.sh (.int many)), some (.sh (.int t)), some (.sh (D p)), some (.sh (.int y)), some (.sh (.int (k : Int))), some (.sh T), some (.sh (.bool B)), o9, o10, o11, o12, some (.sh (.int x))], .sh (.int (r - 2)),
        [some (.scr ns), some (.deck st7), some (.sh (.int many)), some (.sh (.int t)), some (.sh (D p)), some (.sh (.int y)), some (.sh (.int (k : Int))), some (.sh T), some (.sh (.bool B)), o9, o10, o11, o12, some (.sh (.int x))], .int (r - 2),
        [some (.scr ns), some (.deck st7), some (.sh (.int many)), some (.sh (.int t)), some (.sh (D p)), some (.sh (.int y)), some (.sh (.int (k : Int))), some (.sh T), some (.sh (.bool B)), o9, o10, o11, o12, some (.sh (.int x))], by simp, by simp [e1_law, e7], rfl, ⟨r - 2, rfl, by omega, by omega⟩, st7, rfl, d7.mono (by omega)⟩)
  rw [List.length_map] at k2' d3
  obtain ⟨us, rfl, ub⟩ := ints_ofB k3'
  rw [List.length_map] at k2'
  have kk : lcK [13] (nameG 13) yesB e1_law (p.2.map PyData.int) [some (.scr ns), some (.deck st2), some (.sh (.int many)), some (.sh (.int t)), some (.sh (D p)), some (.sh (.int y)), some (.sh (.int (k : Int))), some (.sh T), some (.sh (.bool B)), o9, o10, o11, o12, none] = some (.ls (us.map PyData.int), [some (.scr ns), some (.deck st3), some (.sh (.int many)), some (.sh (.int t)), some (.sh (D p)), some (.sh (.int y)), some (.sh (.int (k : Int))), some (.sh T), some (.sh (.bool B)), o9, o10, o11, o12, none]) := lcK_of rfl (by rw [List.length_map]; omega) k1'
  clear k1' k3'
  refine WS.seq (ρ' := [some (.scr ns), some (.deck st3), some (.sh (.int many)), some (.sh (.int t)), some (.sh (D p)), some (.sh (.int y)), some (.sh (.int (k : Int))), some (.sh T), some (.sh (.bool B)), some (.sh (.tuple (us.map PyData.int))), o10, o11, o12, none]) (by simp [g1, kk]; exact rfl) ?_
  clear kk
  obtain ⟨s4, st4, e4, x, rfl, hx, d4⟩ := pickl_ok st3 _ [p.1, -p.1] d3 (by omega) (by simp) (by simp)
  simp only [List.map_cons, List.map_nil] at e4
  have hx : x = p.1 ∨ x = -p.1 := by simpa using hx
  have c1 : cutD (us.map PyData.int) (some 1) none = (us.map PyData.int).tail := by
    have := cut_hi (xs := us.map PyData.int) (k := 1) (by rw [List.length_map]; omega)
    rw [List.drop_one] at this
    exact this
  have a1 : addS (.tuple [.int x]) (.tuple (us.map PyData.int).tail) = some (.sh (.tuple (.int x :: us.tail.map PyData.int))) := by
    rw [addS_tup (by simp; omega), List.map_tail]; rfl
  obtain ⟨o, ho⟩ : ∃ o : Bg.P, o = (p.1, x :: us.tail) := ⟨_, rfl⟩
  have eo : PyData.tuple [.int p.1, .tuple (.int x :: us.tail.map PyData.int)] = D o := by rw [ho]; rfl
  have go : Bg.gt o.2 0 = x := by rw [ho]; rfl
  have bo : Bq m o := by
    refine ⟨⟨by rw [ho]; exact p0, by rw [ho, hmm, ← k2']; simp; omega⟩, hp.m1, hp.m2, fun z hz => ?_, by rw [ho]; exact hp.w⟩
    rw [ho] at hz
    rcases List.mem_cons.mp hz with q | q
    · show z.natAbs < 16
      omega
    · have := ub z (List.mem_of_mem_tail q)
      show z.natAbs < 16
      omega
  refine WS.seq (ρ' := [some (.scr ns), some (.deck st4), some (.sh (.int many)), some (.sh (.int t)), some (.sh (D p)), some (.sh (.int y)), some (.sh (.int (k : Int))), some (.sh T), some (.sh (.bool B)), some (.sh (.tuple (us.map PyData.int))), some (.sh (D o)), o11, o12, none]) (by rw [← eo]; simp [g0, e4, c1, a1, flat_ints, -List.map_tail]; exact rfl) ?_
  clear e4 a1 eo ho
  obtain ⟨f, hf⟩ : ∃ f : Nat, f = if many < 60 then 2 else 1 := ⟨_, rfl⟩
  have hF : (f = 2 ∧ m ≤ 12) ∨ f = 1 := by rw [hf]; split <;> omega
  refine WS.seq (ρ' := [some (.scr ns), some (.deck st4), some (.sh (.int many)), some (.sh (.int t)), some (.sh (D p)), some (.sh (.int y)), some (.sh (.int (k : Int))), some (.sh T), some (.sh (.bool B)), some (.sh (.tuple (us.map PyData.int))), some (.sh (D o)), some (.sh (.int (f : Int))), o12, none]) (by
    by_cases z : many < 60
    · rw [if_pos z] at hf
      subst hf
      simp [z]; exact rfl
    · rw [if_neg z] at hf
      subst hf
      simp [z]; exact rfl) ?_
  obtain ⟨s5, st5, e5, j, rfl, j0, j1, d5⟩ := draw_ok st4 _ (2 * (f : Int) + 1) d4 (by omega) (by omega) (by omega)
  obtain ⟨s6, st6, e6, l, rfl, l0, l1, d6⟩ := draw_ok st5 _ (2 * (f : Int) + 1) d5 (by omega) (by omega) (by omega)
  have m5 : mulS (.int 2) (.int (f : Int)) = some (.sh (.int (2 * (f : Int)))) := mulS_ok (by omega) (by omega) (by omega) (by omega)
  refine WS.seq (ρ' := [some (.scr ns), some (.deck st6), some (.sh (.int many)), some (.sh (.int t)), some (.sh (D p)), some (.sh (.int y)), some (.sh (.int l)), some (.sh T), some (.sh (.bool B)), some (.sh (.tuple (us.map PyData.int))), some (.sh (D o)), some (.sh (.int (f : Int))), some (.sh (.int j)), none]) (by simp [m5, e5, e6]; exact rfl) ?_
  clear e5 e6
  obtain ⟨i1, hi1⟩ : ∃ i1, i1 = if B = true then j - (f : Int) else j := ⟨_, rfl⟩
  obtain ⟨i2, hi2⟩ : ∃ i2, i2 = if B = true then l - (f : Int) else l := ⟨_, rfl⟩
  refine WS.seq (ρ' := [some (.scr ns), some (.deck st6), some (.sh (.int many)), some (.sh (.int t)), some (.sh (D p)), some (.sh (.int y)), some (.sh (.int i2)), some (.sh T), some (.sh (.bool B)), some (.sh (.tuple (us.map PyData.int))), some (.sh (D o)), some (.sh (.int (f : Int))), some (.sh (.int i1)), none]) (by
    cases B with
    | false =>
      rw [if_neg (by decide)] at hi1 hi2
      subst hi1 hi2
      simp; exact rfl
    | true =>
      rw [if_pos rfl] at hi1 hi2
      subst hi1 hi2
      simp; exact rfl) ?_
  have tg := v_together (F := f) (j := i1) (k := i2) hp bo hF (by
    cases B with
    | false =>
      rw [if_neg (by decide)] at hi1 hi2
      exact .inl ⟨by omega, by omega, by omega, by omega⟩
    | true =>
      rw [if_pos rfl] at hi1 hi2
      exact .inr ⟨by rw [← hc]; exact Bc rfl, by rw [go]; omega, by omega, by omega, by omega, by omega⟩)
  refine WS.ifF (by simp [tg]; exact rfl) (WS.nx ?_)
  exact ⟨st6, _, _, _, _, _, _, _, _, _, rfl, d6.mono (by have := hp.m2; omega)⟩
end K11
namespace K11
open PySem PyProof.Rows L2 Dn
theorem math : ∀ ns : List Int, ns.length ≤ 63 → g_law ns = some (.sh (.bool true)) := by
  intro ns hn
  obtain ⟨st0, e0, hd0⟩ := deck_ok ns hn
  obtain ⟨s, st1, e1, many, rfl, hm, hd1⟩ := pickl_ok st0 0 (120 :: (List.replicate 3 60 ++ List.replicate 28 12)) hd0 (by omega) (by simp) (by simp)
  have m1 : many = 120 ∨ many = 60 ∨ many = 12 := by
    simp only [List.mem_cons, List.mem_append, List.mem_replicate] at hm
    omega
  have main : ∃ s, g_law ns = some s ∧ s = .sh (.bool true) := by
    refine bodyN_of ?_
    refine WS.seq (by simp [startN, e0]; exact rfl) ?_
    have ev : ∀ ρ : Dn.Env, (binE addS (binE addS (lstE (consA (cst (.int 120)) nilA)) (binE mulS (lstE (consA (cst (.int 60)) nilA)) (cst (.int 3)))) (binE mulS (lstE (consA (cst (.int 12)) nilA)) (cst (.int 28)))) ρ = some (.ls ((120 :: (List.replicate 3 60 ++ List.replicate 28 12)).map PyData.int), ρ) := fun ρ => rfl
    refine WS.seq (ρ' := [some (.scr ns), some (.deck st1), some (.sh (.int many)), none, none, none, none, none, none, none, none, none, none, none]) (by
      generalize (binE addS (binE addS (lstE (consA (cst (.int 120)) nilA)) (binE mulS (lstE (consA (cst (.int 60)) nilA)) (cst (.int 3)))) (binE mulS (lstE (consA (cst (.int 12)) nilA)) (cst (.int 28)))) = L at ev ⊢
      generalize (120 :: (List.replicate 3 60 ++ List.replicate 28 12)).map PyData.int = M at ev e1
      simp [ev, e1]; exact rfl) ?_
    obtain ⟨t, ht⟩ : ∃ t : Int, t = if many < 60 then 3 else 1 := ⟨_, rfl⟩
    have t1 : (t = 1 ∧ many ≠ 12) ∨ (t = 3 ∧ many = 12) := by rw [ht]; split <;> omega
    refine WS.seqW ?_
    refine WS.forI (ds := rngD 0 t.toNat) (by
      by_cases c : many < 60
      · rw [if_pos c] at ht
        subst ht
        simp (disch := omega) [c]; exact rfl
      · rw [if_neg c] at ht
        subst ht
        simp (disch := omega) [c]; exact rfl) (fun i ρ => ∃ (st : Dn.Deck) (o3 o4 o5 o6 o7 o8 o9 o10 o11 o12 : Option S),
        ρ = [some (.scr ns), some (.deck st), some (.sh (.int many)), o3, o4, o5, o6, o7, o8, o9, o10, o11, o12, none] ∧ DeckOk true (1 + 500 * (i : Int)) st) ⟨st1, none, none, none, none, none, none, none, none, none, none, rfl, hd1.mono (by omega)⟩ ?_ ?_
    · rintro i d ρ hd ⟨st, o3, o4, o5, o6, o7, o8, o9, o10, o11, o12, rfl, dk⟩
      have hi : i < t.toNat := by
        have := (List.getElem?_eq_some_iff.mp hd).1
        rwa [rngD_length] at this
      rw [rngD_get _ _ _ hi] at hd
      cases hd
      refine ⟨_, Gv.eq (by simp; exact rfl), ?_⟩
      have tk := turn_ok ns st _ many (i : Int) m1 (by omega) (by omega) dk (by omega) o4 o5 o6 o7 o8 o9 o10 o11 o12
      refine tk.mono ?_
      rintro o ⟨st', q4, q5, q6, q7, q8, q9, q10, q11, q12, rfl, h2⟩
      exact ⟨st', _, _, _, _, _, _, _, _, _, _, rfl, h2.mono (by omega)⟩
    · rintro ρ ⟨st, o3, o4, o5, o6, o7, o8, o9, o10, o11, o12, rfl, dk⟩
      refine WS.end (by simp; exact rfl) ?_
      exact ⟨_, by simp; exact rfl, rfl⟩
  obtain ⟨s, h, rfl⟩ := main
  exact h
end K11
namespace K11
open PySem PyProof.Rows L2 Dn
/-- a def of the top, as the head has left it -/
inductive IsDef (K : PySem.W.Frag) (x : Str) (st : Stmt) : Prop
  | mk {f : Addr} {od an : Option Addr} {sl : Array (Option Value)} {oc kV dc pm cd ct : Value} (a : PySem.W.nsIn K mainGlobals x = some (some (.ref f)))
      (l : K.lookup f = some ⟨oc, od, .func (PySem.W.fnOf x x (defArgs st) (defBody st) (defScope st) .none kV dc pm an cd ct), sl⟩)
      (c : PySem.W.codeIn K cd x = true) (k : PySem.W.keepIn K (.ref f) = true) : IsDef K x st
theorem all_mk {l : PySem.W.OpenLaw} {w : World} {K : PySem.W.Frag} {h : Heap} {mg : Str → Option Value} {fa : Addr} {t_MOST_TERMS : Tok} (X : K.In h) (G : h.Ns mainGlobals mg) (hfa : mg "law" = some (.ref fa))
    (i_l_deck : IsDef K "_law_deck" s_l_deck)
    (i_l_draw : IsDef K "_law_draw" s_l_draw)
    (i_l_pick : IsDef K "_law_pick" s_l_pick)
    (i_l_beginning : IsDef K "_law_beginning" s_l_beginning)
    (i_is_integer : IsDef K "is_integer" s_is_integer)
    (i_is_beginning : IsDef K "is_beginning" s_is_beginning)
    (i_need_beginnings : IsDef K "need_beginnings" s_need_beginnings)
    (i_power_of : IsDef K "power_of" s_power_of)
    (i_common_divisor : IsDef K "common_divisor" s_common_divisor)
    (i_beginning_of : IsDef K "beginning_of" s_beginning_of)
    (i_series_product : IsDef K "series_product" s_series_product)
    (i_series_power : IsDef K "series_power" s_series_power)
    (i_series_inverse : IsDef K "series_inverse" s_series_inverse)
    (i_power : IsDef K "power" s_power)
    (i_multiplied : IsDef K "multiplied" s_multiplied)
    (i_l_is_short : IsDef K "_law_is_short" s_l_is_short)
    (i_l_are_together : IsDef K "_law_are_together" s_l_are_together)
    (i_l_reduced : IsDef K "_law_reduced" s_l_reduced)
    (i_l_multiplied : IsDef K "_law_multiplied" s_l_multiplied)
    (i_l_power : IsDef K "_law_power" s_l_power)
    (i_l_is_refused : IsDef K "_law_is_refused" s_l_is_refused)
    (i_l_is_lowest : IsDef K "_law_is_lowest" s_l_is_lowest)
    (i_l_is_undone : IsDef K "_law_is_undone" s_l_is_undone)
    (i_law : IsDef K "law" s_law)
    (z_abs : PySem.W.nsIn K mainGlobals "abs" = some none)
    (z_all : PySem.W.nsIn K mainGlobals "all" = some none)
    (z_bool : PySem.W.nsIn K mainGlobals "bool" = some none)
    (z_enumerate : PySem.W.nsIn K mainGlobals "enumerate" = some none)
    (z_int : PySem.W.nsIn K mainGlobals "int" = some none)
    (z_isinstance : PySem.W.nsIn K mainGlobals "isinstance" = some none)
    (z_len : PySem.W.nsIn K mainGlobals "len" = some none)
    (z_list : PySem.W.nsIn K mainGlobals "list" = some none)
    (z_max : PySem.W.nsIn K mainGlobals "max" = some none)
    (z_min : PySem.W.nsIn K mainGlobals "min" = some none)
    (z_range : PySem.W.nsIn K mainGlobals "range" = some none)
    (z_repr : PySem.W.nsIn K mainGlobals "repr" = some none)
    (z_sum : PySem.W.nsIn K mainGlobals "sum" = some none)
    (z_tuple : PySem.W.nsIn K mainGlobals "tuple" = some none)
    (m_MOST_TERMS : PySem.W.nsIn K mainGlobals "MOST_TERMS" = some (some (.int (400) t_MOST_TERMS)))
    (m_gcd : PySem.W.nsIn K mainGlobals "gcd" = some (some (.builtin "math.gcd")))
    (e_DividedByZero : Dn.IsCls K "DividedByZero")
    : ∃ fd : FuncData, (∀ (s : Shared) (v : Value), BindsTo s fd ⟨[v], []⟩ [("_law_script", v)]) ∧ ∀ base : Heap, K.In base → base.Ns mainGlobals mg → FnG l.prog w K mg base 6 fa fd ["_law_script"] (spTrue K 63) := by
  obtain ⟨a_l_deck, l_l_deck, c_l_deck, k_l_deck⟩ := i_l_deck
  have F_l_deck := fun_mk (st := s_l_deck) l_l_deck c_l_deck k_l_deck
  have b_l_deck := F_l_deck.binds (ps := ["_law_script"]) fun _ _ _ _ _ _ us hl => match us, hl with | [_], _ => rfl
  obtain ⟨a_l_draw, l_l_draw, c_l_draw, k_l_draw⟩ := i_l_draw
  have F_l_draw := fun_mk (st := s_l_draw) l_l_draw c_l_draw k_l_draw
  have b_l_draw := F_l_draw.binds (ps := ["_law_deck_here", "_law_many"]) fun _ _ _ _ _ _ us hl => match us, hl with | [_, _], _ => rfl
  obtain ⟨a_l_pick, l_l_pick, c_l_pick, k_l_pick⟩ := i_l_pick
  have F_l_pick := fun_mk (st := s_l_pick) l_l_pick c_l_pick k_l_pick
  have b_l_pick := F_l_pick.binds (ps := ["_law_deck_here", "_law_some"]) fun _ _ _ _ _ _ us hl => match us, hl with | [_, _], _ => rfl
  obtain ⟨a_l_beginning, l_l_beginning, c_l_beginning, k_l_beginning⟩ := i_l_beginning
  have F_l_beginning := fun_mk (st := s_l_beginning) l_l_beginning c_l_beginning k_l_beginning
  have b_l_beginning := F_l_beginning.binds (ps := ["_law_deck_here", "_law_many"]) fun _ _ _ _ _ _ us hl => match us, hl with | [_, _], _ => rfl
  obtain ⟨a_is_integer, l_is_integer, c_is_integer, k_is_integer⟩ := i_is_integer
  have F_is_integer := fun_mk (st := s_is_integer) l_is_integer c_is_integer k_is_integer
  have b_is_integer := F_is_integer.binds (ps := ["thing"]) fun _ _ _ _ _ _ us hl => match us, hl with | [_], _ => rfl
  obtain ⟨a_is_beginning, l_is_beginning, c_is_beginning, k_is_beginning⟩ := i_is_beginning
  have F_is_beginning := fun_mk (st := s_is_beginning) l_is_beginning c_is_beginning k_is_beginning
  have b_is_beginning := F_is_beginning.binds (ps := ["thing"]) fun _ _ _ _ _ _ us hl => match us, hl with | [_], _ => rfl
  obtain ⟨a_need_beginnings, l_need_beginnings, c_need_beginnings, k_need_beginnings⟩ := i_need_beginnings
  have F_need_beginnings := fun_mk (st := s_need_beginnings) l_need_beginnings c_need_beginnings k_need_beginnings
  have b_need_beginnings := F_need_beginnings.binds (ps := ["things"]) fun _ _ _ _ _ _ us hl => match us, hl with | [_], _ => rfl
  obtain ⟨a_power_of, l_power_of, c_power_of, k_power_of⟩ := i_power_of
  have F_power_of := fun_mk (st := s_power_of) l_power_of c_power_of k_power_of
  have b_power_of := F_power_of.binds (ps := ["base", "many"]) fun _ _ _ _ _ _ us hl => match us, hl with | [_, _], _ => rfl
  obtain ⟨a_common_divisor, l_common_divisor, c_common_divisor, k_common_divisor⟩ := i_common_divisor
  have F_common_divisor := fun_mk (st := s_common_divisor) l_common_divisor c_common_divisor k_common_divisor
  have b_common_divisor := F_common_divisor.binds (ps := ["numbers", "start"]) fun _ _ _ _ _ _ us hl => match us, hl with | [_, _], _ => rfl
  obtain ⟨a_beginning_of, l_beginning_of, c_beginning_of, k_beginning_of⟩ := i_beginning_of
  have F_beginning_of := fun_mk (st := s_beginning_of) l_beginning_of c_beginning_of k_beginning_of
  have b_beginning_of := F_beginning_of.binds (ps := ["bottom", "tops"]) fun _ _ _ _ _ _ us hl => match us, hl with | [_, _], _ => rfl
  obtain ⟨a_series_product, l_series_product, c_series_product, k_series_product⟩ := i_series_product
  have F_series_product := fun_mk (st := s_series_product) l_series_product c_series_product k_series_product
  have b_series_product := F_series_product.binds (ps := ["one", "other"]) fun _ _ _ _ _ _ us hl => match us, hl with | [_, _], _ => rfl
  obtain ⟨a_series_power, l_series_power, c_series_power, k_series_power⟩ := i_series_power
  have F_series_power := fun_mk (st := s_series_power) l_series_power c_series_power k_series_power
  have b_series_power := F_series_power.binds (ps := ["tops", "k"]) fun _ _ _ _ _ _ us hl => match us, hl with | [_, _], _ => rfl
  obtain ⟨a_series_inverse, l_series_inverse, c_series_inverse, k_series_inverse⟩ := i_series_inverse
  have F_series_inverse := fun_mk (st := s_series_inverse) l_series_inverse c_series_inverse k_series_inverse
  have b_series_inverse := F_series_inverse.binds (ps := ["tops"]) fun _ _ _ _ _ _ us hl => match us, hl with | [_], _ => rfl
  obtain ⟨a_power, l_power, c_power, k_power⟩ := i_power
  have F_power := fun_mk (st := s_power) l_power c_power k_power
  have b_power := F_power.binds (ps := ["beginning", "k"]) fun _ _ _ _ _ _ us hl => match us, hl with | [_, _], _ => rfl
  obtain ⟨a_multiplied, l_multiplied, c_multiplied, k_multiplied⟩ := i_multiplied
  have F_multiplied := fun_mk (st := s_multiplied) l_multiplied c_multiplied k_multiplied
  have b_multiplied := F_multiplied.binds (ps := ["one", "other"]) fun _ _ _ _ _ _ us hl => match us, hl with | [_, _], _ => rfl
  obtain ⟨a_l_is_short, l_l_is_short, c_l_is_short, k_l_is_short⟩ := i_l_is_short
  have F_l_is_short := fun_mk (st := s_l_is_short) l_l_is_short c_l_is_short k_l_is_short
  have b_l_is_short := F_l_is_short.binds (ps := ["_law_one"]) fun _ _ _ _ _ _ us hl => match us, hl with | [_], _ => rfl
  obtain ⟨a_l_are_together, l_l_are_together, c_l_are_together, k_l_are_together⟩ := i_l_are_together
  have F_l_are_together := fun_mk (st := s_l_are_together) l_l_are_together c_l_are_together k_l_are_together
  have b_l_are_together := F_l_are_together.binds (ps := ["_law_one", "_law_other", "_law_j", "_law_k"]) fun _ _ _ _ _ _ us hl => match us, hl with | [_, _, _, _], _ => rfl
  obtain ⟨a_l_reduced, l_l_reduced, c_l_reduced, k_l_reduced⟩ := i_l_reduced
  have F_l_reduced := fun_mk (st := s_l_reduced) l_l_reduced c_l_reduced k_l_reduced
  have b_l_reduced := F_l_reduced.binds (ps := ["_law_bottom", "_law_tops"]) fun _ _ _ _ _ _ us hl => match us, hl with | [_, _], _ => rfl
  obtain ⟨a_l_multiplied, l_l_multiplied, c_l_multiplied, k_l_multiplied⟩ := i_l_multiplied
  have F_l_multiplied := fun_mk (st := s_l_multiplied) l_l_multiplied c_l_multiplied k_l_multiplied
  have b_l_multiplied := F_l_multiplied.binds (ps := ["_law_one", "_law_other"]) fun _ _ _ _ _ _ us hl => match us, hl with | [_, _], _ => rfl
  obtain ⟨a_l_power, l_l_power, c_l_power, k_l_power⟩ := i_l_power
  have F_l_power := fun_mk (st := s_l_power) l_l_power c_l_power k_l_power
  have b_l_power := F_l_power.binds (ps := ["_law_one", "_law_k"]) fun _ _ _ _ _ _ us hl => match us, hl with | [_, _], _ => rfl
  obtain ⟨a_l_is_refused, l_l_is_refused, c_l_is_refused, k_l_is_refused⟩ := i_l_is_refused
  have F_l_is_refused := fun_mk (st := s_l_is_refused) l_l_is_refused c_l_is_refused k_l_is_refused
  have b_l_is_refused := F_l_is_refused.binds (ps := ["_law_one", "_law_k", "_law_way"]) fun _ _ _ _ _ _ us hl => match us, hl with | [_, _, _], _ => rfl
  obtain ⟨a_l_is_lowest, l_l_is_lowest, c_l_is_lowest, k_l_is_lowest⟩ := i_l_is_lowest
  have F_l_is_lowest := fun_mk (st := s_l_is_lowest) l_l_is_lowest c_l_is_lowest k_l_is_lowest
  have b_l_is_lowest := F_l_is_lowest.binds (ps := ["_law_one", "_law_many"]) fun _ _ _ _ _ _ us hl => match us, hl with | [_, _], _ => rfl
  obtain ⟨a_l_is_undone, l_l_is_undone, c_l_is_undone, k_l_is_undone⟩ := i_l_is_undone
  have F_l_is_undone := fun_mk (st := s_l_is_undone) l_l_is_undone c_l_is_undone k_l_is_undone
  have b_l_is_undone := F_l_is_undone.binds (ps := ["_law_one", "_law_k", "_law_told"]) fun _ _ _ _ _ _ us hl => match us, hl with | [_, _, _], _ => rfl
  obtain ⟨a_law, l_law, c_law, k_law⟩ := i_law
  have F_law := fun_mk (st := s_law) l_law c_law k_law
  have b_law := F_law.binds (ps := ["_law_script"]) fun _ _ _ _ _ _ us hl => match us, hl with | [_], _ => rfl
  obtain ⟨C_DividedByZero, E_DividedByZero⟩ := Dn.IsCls.exc X G e_DividedByZero
  have e := hfa.symm.trans (PySem.W.mg_of X G a_law)
  cases e
  have T : Txt K mg ⟨_, _, _, _, _, _, _, _, _, _, _, _, _, _, _, _, _, _, _, _, _, _, _, _, _, _, _, _, _, _, _, _, _, _, _, _, _, _, _, _, _, _, _, _, _, _, _, _, _⟩ := ⟨F_l_deck, PySem.W.mg_of X G a_l_deck, b_l_deck, F_l_draw, PySem.W.mg_of X G a_l_draw, b_l_draw, F_l_pick, PySem.W.mg_of X G a_l_pick, b_l_pick, F_l_beginning, PySem.W.mg_of X G a_l_beginning, b_l_beginning, F_is_integer, PySem.W.mg_of X G a_is_integer, b_is_integer, F_is_beginning, PySem.W.mg_of X G a_is_beginning, b_is_beginning, F_need_beginnings, PySem.W.mg_of X G a_need_beginnings, b_need_beginnings, F_power_of, PySem.W.mg_of X G a_power_of, b_power_of, F_common_divisor, PySem.W.mg_of X G a_common_divisor, b_common_divisor, F_beginning_of, PySem.W.mg_of X G a_beginning_of, b_beginning_of, F_series_product, PySem.W.mg_of X G a_series_product, b_series_product, F_series_power, PySem.W.mg_of X G a_series_power, b_series_power, F_series_inverse, PySem.W.mg_of X G a_series_inverse, b_series_inverse, F_power, PySem.W.mg_of X G a_power, b_power, F_multiplied, PySem.W.mg_of X G a_multiplied, b_multiplied, F_l_is_short, PySem.W.mg_of X G a_l_is_short, b_l_is_short, F_l_are_together, PySem.W.mg_of X G a_l_are_together, b_l_are_together, F_l_reduced, PySem.W.mg_of X G a_l_reduced, b_l_reduced, F_l_multiplied, PySem.W.mg_of X G a_l_multiplied, b_l_multiplied, F_l_power, PySem.W.mg_of X G a_l_power, b_l_power, F_l_is_refused, PySem.W.mg_of X G a_l_is_refused, b_l_is_refused, F_l_is_lowest, PySem.W.mg_of X G a_l_is_lowest, b_l_is_lowest, F_l_is_undone, PySem.W.mg_of X G a_l_is_undone, b_l_is_undone, F_law, PySem.W.mg_of X G a_law, b_law, ⟨fun s ws _ hl => match ws, hl with | [w0, w1], _ => ⟨[w1, w0], rfl, rfl, .of_eq rfl⟩⟩, PySem.W.mg_none_of X G z_abs, PySem.W.mg_none_of X G z_all, PySem.W.mg_none_of X G z_bool, PySem.W.mg_none_of X G z_enumerate, PySem.W.mg_none_of X G z_int, PySem.W.mg_none_of X G z_isinstance, PySem.W.mg_none_of X G z_len, PySem.W.mg_none_of X G z_list, PySem.W.mg_none_of X G z_max, PySem.W.mg_none_of X G z_min, PySem.W.mg_none_of X G z_range, PySem.W.mg_none_of X G z_repr, PySem.W.mg_none_of X G z_sum, PySem.W.mg_none_of X G z_tuple, ⟨_, PySem.W.mg_of X G m_MOST_TERMS⟩, PySem.W.mg_of X G m_gcd, E_DividedByZero⟩
  exact ⟨_, fun s v => .of_eq rfl, fun base _ _ => law_true (ok_law T) math rfl⟩
end K11
open PySem PySem.W PyProof.Rows in
set_option maxRecDepth 100000 in
set_option maxHeartbeats 0 in
theorem PySem.Challenge.cw_firstterms_k11_powers_and_what_undoes_th_holds : PySem.Challenge.rw_firstterms_k11_powers_and_what_undoes_th.Holds := by
  w_on; o_law; k_head; (case hw => w_witness2)
  k_fill
  refine Dn.walkG (l := PySem.Challenge.rw_firstterms_k11_powers_and_what_undoes_th) (n := 63) (k := 6) (x := "_law_script") rfl (by decide) rfl ⟨rfl, by decide, by decide⟩ (fun w h Y => PySem.W.kIn_of Y) ?F
  case F =>
    intro w mg fa h KX G hmg
    refine' K11.all_mk KX G hmg ?i_l_deck ?i_l_draw ?i_l_pick ?i_l_beginning ?i_is_integer ?i_is_beginning ?i_need_beginnings ?i_power_of ?i_common_divisor ?i_beginning_of ?i_series_product ?i_series_power ?i_series_inverse ?i_power ?i_multiplied ?i_l_is_short ?i_l_are_together ?i_l_reduced ?i_l_multiplied ?i_l_power ?i_l_is_refused ?i_l_is_lowest ?i_l_is_undone ?i_law ?z_abs ?z_all ?z_bool ?z_enumerate ?z_int ?z_isinstance ?z_len ?z_list ?z_max ?z_min ?z_range ?z_repr ?z_sum ?z_tuple ?m_MOST_TERMS ?m_gcd ?e_DividedByZero
    (case i_l_deck => refine' K11.IsDef.mk ?a ?l ?c ?k; (case a => k_is); (case l => k_is); (case c => k_is); (case k => k_is))
    (case i_l_draw => refine' K11.IsDef.mk ?a ?l ?c ?k; (case a => k_is); (case l => k_is); (case c => k_is); (case k => k_is))
    (case i_l_pick => refine' K11.IsDef.mk ?a ?l ?c ?k; (case a => k_is); (case l => k_is); (case c => k_is); (case k => k_is))
    (case i_l_beginning => refine' K11.IsDef.mk ?a ?l ?c ?k; (case a => k_is); (case l => k_is); (case c => k_is); (case k => k_is))
    (case i_is_integer => refine' K11.IsDef.mk ?a ?l ?c ?k; (case a => k_is); (case l => k_is); (case c => k_is); (case k => k_is))
    (case i_is_beginning => refine' K11.IsDef.mk ?a ?l ?c ?k; (case a => k_is); (case l => k_is); (case c => k_is); (case k => k_is))
    (case i_need_beginnings => refine' K11.IsDef.mk ?a ?l ?c ?k; (case a => k_is); (case l => k_is); (case c => k_is); (case k => k_is))
    (case i_power_of => refine' K11.IsDef.mk ?a ?l ?c ?k; (case a => k_is); (case l => k_is); (case c => k_is); (case k => k_is))
    (case i_common_divisor => refine' K11.IsDef.mk ?a ?l ?c ?k; (case a => k_is); (case l => k_is); (case c => k_is); (case k => k_is))
    (case i_beginning_of => refine' K11.IsDef.mk ?a ?l ?c ?k; (case a => k_is); (case l => k_is); (case c => k_is); (case k => k_is))
    (case i_series_product => refine' K11.IsDef.mk ?a ?l ?c ?k; (case a => k_is); (case l => k_is); (case c => k_is); (case k => k_is))
    (case i_series_power => refine' K11.IsDef.mk ?a ?l ?c ?k; (case a => k_is); (case l => k_is); (case c => k_is); (case k => k_is))
    (case i_series_inverse => refine' K11.IsDef.mk ?a ?l ?c ?k; (case a => k_is); (case l => k_is); (case c => k_is); (case k => k_is))
    (case i_power => refine' K11.IsDef.mk ?a ?l ?c ?k; (case a => k_is); (case l => k_is); (case c => k_is); (case k => k_is))
    (case i_multiplied => refine' K11.IsDef.mk ?a ?l ?c ?k; (case a => k_is); (case l => k_is); (case c => k_is); (case k => k_is))
    (case i_l_is_short => refine' K11.IsDef.mk ?a ?l ?c ?k; (case a => k_is); (case l => k_is); (case c => k_is); (case k => k_is))
    (case i_l_are_together => refine' K11.IsDef.mk ?a ?l ?c ?k; (case a => k_is); (case l => k_is); (case c => k_is); (case k => k_is))
    (case i_l_reduced => refine' K11.IsDef.mk ?a ?l ?c ?k; (case a => k_is); (case l => k_is); (case c => k_is); (case k => k_is))
    (case i_l_multiplied => refine' K11.IsDef.mk ?a ?l ?c ?k; (case a => k_is); (case l => k_is); (case c => k_is); (case k => k_is))
    (case i_l_power => refine' K11.IsDef.mk ?a ?l ?c ?k; (case a => k_is); (case l => k_is); (case c => k_is); (case k => k_is))
    (case i_l_is_refused => refine' K11.IsDef.mk ?a ?l ?c ?k; (case a => k_is); (case l => k_is); (case c => k_is); (case k => k_is))
    (case i_l_is_lowest => refine' K11.IsDef.mk ?a ?l ?c ?k; (case a => k_is); (case l => k_is); (case c => k_is); (case k => k_is))
    (case i_l_is_undone => refine' K11.IsDef.mk ?a ?l ?c ?k; (case a => k_is); (case l => k_is); (case c => k_is); (case k => k_is))
    (case i_law => refine' K11.IsDef.mk ?a ?l ?c ?k; (case a => k_is); (case l => k_is); (case c => k_is); (case k => k_is))
    (case z_abs => k_is)
    (case z_all => k_is)
    (case z_bool => k_is)
    (case z_enumerate => k_is)
    (case z_int => k_is)
    (case z_isinstance => k_is)
    (case z_len => k_is)
    (case z_list => k_is)
    (case z_max => k_is)
    (case z_min => k_is)
    (case z_range => k_is)
    (case z_repr => k_is)
    (case z_sum => k_is)
    (case z_tuple => k_is)
    (case m_MOST_TERMS => k_is)
    (case m_gcd => k_is)
    (case e_DividedByZero => refine' Dn.IsCls.mk ?a ?x ?k ?b ?t ?i ?s; (case a => k_is); (case x => k_exc); (case k => k_is); (case b => k_is); (case t => k_is); (case i => k_is); (case s => first | rfl | k_is))
