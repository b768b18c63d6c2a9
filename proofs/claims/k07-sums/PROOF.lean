import PyProof.Rows.All
import Wide.All
import OpenK.AllK
import Wide.FinOn
import HandS.ForMost
import HandS.Wide
import HandS.Style
import HandS.Gcd
import HandS.Conv
import HandS.IsInst
import HandS.Zip
import HandS.Deep
import HandS.TupAny
import KE.KMathG
import PySem.Challenge.RW_firstterms_k07_whole_sums_of_powers_by_b
set_option Elab.async false
set_option linter.all false
set_option maxRecDepth 100000
set_option maxHeartbeats 4000000
namespace Dn
open PySem L2

/-! Part 1: data seen from a shared heap, holders of private objects, the state of a frame -/

def keyD : Key → PyData
  | .inl i => .int i
  | .inr x => .str x

mutual
inductive Sh (K : PySem.W.Frag) (G : Hp) : V → PyData → Prop
  | non : Sh K G .non .none
  | bl (b : Bool) : Sh K G (.bl b) (.bool b)
  | int (i : Int) : Sh K G (.int i) (.int i)
  | str (x : Str) : Sh K G (.str x) (.str x)
  | lst {a : Addr} {xs : List V} {ds : List PyData} : G a = some (.lst xs) → ShL K G xs ds → Sh K G (.ref a) (.list ds)
  | tup {a : Addr} {xs : List V} {ds : List PyData} : SqT K G a xs → ShL K G xs ds → Sh K G (.ref a) (.tuple ds)
  | dkk {a : Addr} {ws : List (Key × V)} {kds : List (PyData × PyData)} : G a = some (.dK ws) → kds.map (·.1) = ws.map (fun p => keyD p.1) → ShL K G (ws.map (·.2)) (kds.map (·.2)) → Sh K G (.ref a) (.dict kds)
  | dtt {a : Addr} {ws : List (List Key × V)} {kds : List (PyData × PyData)} : G a = some (.dT ws) → kds.map (·.1) = ws.map (fun p => PyData.tuple (p.1.map keyD)) → ShL K G (ws.map (·.2)) (kds.map (·.2)) → Sh K G (.ref a) (.dict kds)
inductive ShL (K : PySem.W.Frag) (G : Hp) : List V → List PyData → Prop
  | nil : ShL K G [] []
  | cons {v : V} {vs : List V} {d : PyData} {ds : List PyData} : Sh K G v d → ShL K G vs ds → ShL K G (v :: vs) (d :: ds)
end

abbrev Le (H H' : Hp) : Prop := ∀ a o, H a = some o → H' a = some o
theorem Le.sqT {K : PySem.W.Frag} {G G' : Hp} {a : Addr} {xs : List V} (e : Le G G') (h : SqT K G a xs) : SqT K G' a xs := by
  rcases h with (h | ⟨o, h⟩) | h
  · exact .inl (.inl (e _ _ h))
  · exact .inl (.inr ⟨o, e _ _ h⟩)
  · exact .inr h
theorem Le.sqL {K : PySem.W.Frag} {G G' : Hp} {a : Addr} {xs : List V} (e : Le G G') (h : SqL K G a xs) : SqL K G' a xs := by
  rcases h with (h | ⟨o, h⟩) | h
  · exact .inl (.inl (e _ _ h))
  · exact .inl (.inr ⟨o, e _ _ h⟩)
  · exact .inr h
section
variable {K : PySem.W.Frag} {G G' : Hp}
mutual
theorem Sh.mono (e : Le G G') : ∀ {v : V} {d : PyData}, Sh K G v d → Sh K G' v d
  | _, _, .non => .non
  | _, _, .bl b => .bl b
  | _, _, .int i => .int i
  | _, _, .str x => .str x
  | _, _, .lst h r => .lst (e _ _ h) (ShL.mono e r)
  | _, _, .tup h r => .tup (e.sqT h) (ShL.mono e r)
  | _, _, .dkk h k r => .dkk (e _ _ h) k (ShL.mono e r)
  | _, _, .dtt h k r => .dtt (e _ _ h) k (ShL.mono e r)
theorem ShL.mono (e : Le G G') : ∀ {vs : List V} {ds : List PyData}, ShL K G vs ds → ShL K G' vs ds
  | _, _, .nil => .nil
  | _, _, .cons h r => .cons (Sh.mono e h) (ShL.mono e r)
end
theorem ShL.length : ∀ {vs : List V} {ds : List PyData}, ShL K G vs ds → vs.length = ds.length
  | _, _, .nil => rfl
  | _, _, .cons _ r => congrArg (· + 1) (ShL.length r)
theorem ShL.append : ∀ {vs ws : List V} {ds es : List PyData}, ShL K G vs ds → ShL K G ws es → ShL K G (vs ++ ws) (ds ++ es)
  | _, _, _, _, .nil, q => q
  | _, _, _, _, .cons h r, q => .cons h (ShL.append r q)
theorem ShL.get : ∀ {vs : List V} {ds : List PyData} {i : Nat} {v : V}, ShL K G vs ds → vs[i]? = some v → ∃ d, ds[i]? = some d ∧ Sh K G v d
  | _, _, i, v, .nil, e => by simp at e
  | _, _, 0, v, .cons h r, e => by simp at e; subst e; exact ⟨_, rfl, h⟩
  | _, _, i + 1, v, .cons h r, e => by
    obtain ⟨d, h1, h2⟩ := ShL.get (i := i) r (by simpa using e)
    exact ⟨d, by simpa using h1, h2⟩
theorem ShL.get' : ∀ {vs : List V} {ds : List PyData} {i : Nat} {d : PyData}, ShL K G vs ds → ds[i]? = some d → ∃ v, vs[i]? = some v ∧ Sh K G v d
  | _, _, i, v, .nil, e => by simp at e
  | _, _, 0, v, .cons h r, e => by simp at e; subst e; exact ⟨_, rfl, h⟩
  | _, _, i + 1, v, .cons h r, e => by
    obtain ⟨d, h1, h2⟩ := ShL.get' (i := i) r (by simpa using e)
    exact ⟨d, by simpa using h1, h2⟩
theorem ShL.take : ∀ {vs : List V} {ds : List PyData} (n : Nat), ShL K G vs ds → ShL K G (vs.take n) (ds.take n)
  | _, _, 0, _ => .nil
  | _, _, _ + 1, .nil => .nil
  | _, _, n + 1, .cons h r => .cons h (ShL.take n r)
theorem ShL.drop : ∀ {vs : List V} {ds : List PyData} (n : Nat), ShL K G vs ds → ShL K G (vs.drop n) (ds.drop n)
  | _, _, 0, h => h
  | _, _, _ + 1, .nil => .nil
  | _, _, n + 1, .cons h r => ShL.drop n r
theorem ShL.reverse : ∀ {vs : List V} {ds : List PyData}, ShL K G vs ds → ShL K G vs.reverse ds.reverse
  | _, _, .nil => .nil
  | _, _, .cons h r => by
    rw [List.reverse_cons, List.reverse_cons]
    exact (ShL.reverse r).append (.cons h .nil)
theorem ShL.set {v : V} {d : PyData} (h : Sh K G v d) : ∀ {vs : List V} {ds : List PyData} (i : Nat), ShL K G vs ds → ShL K G (vs.set i v) (ds.set i d)
  | _, _, _, .nil => .nil
  | _, _, 0, .cons _ r => .cons h r
  | _, _, i + 1, .cons q r => .cons q (ShL.set h i r)
theorem ShL.dropLast {vs : List V} {ds : List PyData} (h : ShL K G vs ds) : ShL K G vs.dropLast ds.dropLast := by
  rw [List.dropLast_eq_take, List.dropLast_eq_take, h.length]
  exact h.take _
theorem ShL.repl {v : V} {d : PyData} (h : Sh K G v d) : ∀ n : Nat, ShL K G (List.replicate n v) (List.replicate n d)
  | 0 => .nil
  | n + 1 => .cons h (ShL.repl h n)
theorem shl_ints : ∀ ns : List Int, ShL K G (ns.map V.int) (ns.map PyData.int)
  | [] => .nil
  | n :: ns => .cons (.int n) (shl_ints ns)
theorem ShL.ints : ∀ {vs : List V} {ns : List Int}, ShL K G vs (ns.map PyData.int) → vs = ns.map V.int
  | _, [], .nil => rfl
  | _, n :: ns, .cons h r => by
    cases h
    rw [ShL.ints r] <;> rfl
end

/-- a law's deck: the cells not yet drawn, the mixed number, how many draws there were; ck: whether the cells stand under "cells" or "left" -/
structure Deck where
  ck : Bool
  cells : List Int
  mixed : Int
  draws : Int

/-- what a slot or a place on the way holds: shared data, a private list or dict, the deck, the script, or what slot i holds -/
inductive S where
  | sh (d : PyData)
  | ls (xs : List PyData)
  | dk (kvs : List (Key × PyData))
  | dt (kvs : List (List Key × PyData))
  | deck (st : Deck)
  | scr (ns : List Int)
  | bor (i : Nat)
  /-- nothing of the program: what was shared at some time -/
  | mk (G1 : Hp)

abbrev Env := List (Option S)

def ckS (b : Bool) : Str := if b then "cells" else "left"
def deckKvs (st : Deck) (c : Addr) : List (Key × V) := [(.inr (ckS st.ck), .ref c), (.inr "mixed", .int st.mixed), (.inr "draws", .int st.draws)]

def RelS (K : PySem.W.Frag) (cs : List Nat) (σ : L2.St) (G H : Hp) (v : V) : S → List Addr → Prop
  | .sh d, fp => fp = [] ∧ Sh K G v d
  | .ls ds, fp => ∃ a xs, v = .ref a ∧ fp = [a] ∧ H a = some (.lst xs) ∧ ShL K G xs ds
  | .dk kvs, fp => ∃ a ws, v = .ref a ∧ fp = [a] ∧ H a = some (.dK ws) ∧ ws.map (·.1) = kvs.map (·.1) ∧ ShL K G (ws.map (·.2)) (kvs.map (·.2))
  | .dt kvs, fp => ∃ a ws, v = .ref a ∧ fp = [a] ∧ H a = some (.dT ws) ∧ ws.map (·.1) = kvs.map (·.1) ∧ ShL K G (ws.map (·.2)) (kvs.map (·.2))
  | .deck st, fp => ∃ a c, v = .ref a ∧ fp = [a, c] ∧ a ≠ c ∧ H a = some (.dK (deckKvs st c)) ∧ H c = some (.lst (st.cells.map V.int))
  | .scr ns, fp => fp = [] ∧ ∃ a, v = .ref a ∧ SqL K G a (ns.map V.int)
  | .bor i, fp => fp = [] ∧ i ∉ cs ∧ σ[i]? = some (some v)
  | .mk G1, fp => fp = [] ∧ Le G1 G

theorem RelS.mono {K : PySem.W.Frag} {cs : List Nat} {σ : L2.St} {G H G' H' : Hp} {v : V} {s : S} {fp : List Addr} (r : RelS K cs σ G H v s fp) (e : Le G G') (k : ∀ a ∈ fp, H' a = H a) : RelS K cs σ G' H' v s fp := by
  cases s with
  | sh d => exact ⟨r.1, r.2.mono e⟩
  | ls ds =>
    obtain ⟨a, xs, h1, h2, h3, h4⟩ := r
    exact ⟨a, xs, h1, h2, by rw [k a (by rw [h2]; exact List.mem_cons_self)]; exact h3, h4.mono e⟩
  | dk kvs =>
    obtain ⟨a, xs, h1, h2, h3, h4, h5⟩ := r
    exact ⟨a, xs, h1, h2, by rw [k a (by rw [h2]; exact List.mem_cons_self)]; exact h3, h4, h5.mono e⟩
  | dt kvs =>
    obtain ⟨a, xs, h1, h2, h3, h4, h5⟩ := r
    exact ⟨a, xs, h1, h2, by rw [k a (by rw [h2]; exact List.mem_cons_self)]; exact h3, h4, h5.mono e⟩
  | deck st =>
    obtain ⟨a, c, h1, h2, h3, h4, h5⟩ := r
    refine ⟨a, c, h1, h2, h3, ?_, ?_⟩
    · rw [k a (by rw [h2]; exact List.mem_cons_self)]; exact h4
    · rw [k c (by rw [h2]; exact List.mem_cons_of_mem _ List.mem_cons_self)]; exact h5
  | scr ns =>
    obtain ⟨h1, a, h2, h3⟩ := r
    exact ⟨h1, a, h2, e.sqL h3⟩
  | bor i => exact r
  | mk G1 => exact ⟨r.1, fun a o q => e a o (r.2 a o q)⟩
theorem RelS.slots {K : PySem.W.Frag} {cs : List Nat} {σ σ' : L2.St} {G H : Hp} {v : V} {s : S} {fp : List Addr} (r : RelS K cs σ G H v s fp) (e : ∀ i, i ∉ cs → s = S.bor i → σ'[i]? = σ[i]?) : RelS K cs σ' G H v s fp := by
  cases s with
  | bor i =>
    obtain ⟨h1, h2, h3⟩ := r
    exact ⟨h1, h2, by rw [e i h2 rfl]; exact h3⟩
  | _ => exact r
/-- a private object stands in the heap -/
theorem RelS.there {K : PySem.W.Frag} {cs : List Nat} {σ : L2.St} {G H : Hp} {v : V} {s : S} {fp : List Addr} (r : RelS K cs σ G H v s fp) : ∀ a ∈ fp, H a ≠ none := by
  intro b hb
  cases s with
  | sh d => rw [r.1] at hb; cases hb
  | ls ds =>
    obtain ⟨a, xs, h1, h2, h3, h4⟩ := r
    rw [h2] at hb; rw [List.mem_singleton.mp hb, h3]; simp
  | dk kvs =>
    obtain ⟨a, xs, h1, h2, h3, h4⟩ := r
    rw [h2] at hb; rw [List.mem_singleton.mp hb, h3]; simp
  | dt kvs =>
    obtain ⟨a, xs, h1, h2, h3, h4⟩ := r
    rw [h2] at hb; rw [List.mem_singleton.mp hb, h3]; simp
  | deck st =>
    obtain ⟨a, c, h1, h2, h3, h4, h5⟩ := r
    rw [h2] at hb
    rcases List.mem_cons.mp hb with e | e
    · rw [e, h4]; simp
    · rw [List.mem_singleton.mp e, h5]; simp
  | scr ns => rw [r.1] at hb; cases hb
  | bor i => rw [r.1] at hb; cases hb
  | mk G1 => rw [r.1] at hb; cases hb

structure Hd where
  v : V
  s : S
  fp : List Addr

def isDeck : S → Bool
  | .deck _ => true
  | _ => false
def deckAt (ρ : Env) (i : Nat) : Bool :=
  match ρ[i]? with
  | some (some s) => isDeck s
  | _ => false

/-- what a def found at its entry: the heap, its shared part, what it may change; the slots of its comprehensions' names -/
structure Entry where
  H0 : Hp
  G0 : Hp
  M0 : List Addr
  cs : List Nat

structure Fm (K : PySem.W.Frag) (F : Entry) (G H : Hp) (σ : L2.St) (ρ : Env) (φ : Nat → List Addr) (ts : List Hd) : Prop where
  gh : Le G H
  g0 : Le F.G0 G
  h0 : ∀ a o, F.H0 a = some o → a ∉ F.M0 → H a = some o
  m0 : ∀ a ∈ F.M0, H a ≠ none
  nw : ∀ a, F.H0 a ≠ none → F.G0 a = none → G a = none
  len : σ.length = ρ.length
  sl : ∀ (i : Nat) (s : S), ρ[i]? = some (some s) → ∃ v, σ[i]? = some (some v) ∧ RelS K F.cs σ G H v s (φ i)
  nb : ∀ (i j : Nat), ρ[i]? ≠ some (some (S.bor j))
  ph : ∀ (i : Nat) (a : Addr), a ∈ φ i → G a = none ∧ H a ≠ none ∧ (F.H0 a = none ∨ (a ∈ F.M0 ∧ deckAt ρ i = true))
  dj : ∀ (i j : Nat) (a : Addr), a ∈ φ i → a ∈ φ j → i = j
  tm : ∀ t ∈ ts, RelS K F.cs σ G H t.v t.s t.fp
  tp : ∀ t ∈ ts, ∀ a ∈ t.fp, G a = none ∧ F.H0 a = none ∧ ∀ i, a ∉ φ i
  md : F.M0 ≠ [] → φ 0 = F.M0 ∧ deckAt ρ 0 = true
  tt : ts.Pairwise fun t u => ∀ a ∈ t.fp, a ∉ u.fp

section
variable {K : PySem.W.Frag} {F : Entry} {G G' H H' : Hp} {σ σ' : L2.St} {ρ ρ' : Env} {φ φ' : Nat → List Addr} {ts : List Hd} {t : Hd} {v : V} {s : S} {fp : List Addr}

/-- the shared part and the heap grow, the private objects stay -/
theorem Fm.grow (I : Fm K F G H σ ρ φ ts) (hG : Le G G') (hGH : Le G' H') (kp : ∀ a, G a = none → H a ≠ none → H' a = H a) (hp : ∀ i a, a ∈ φ i → G' a = none) (ht : ∀ t ∈ ts, ∀ a ∈ t.fp, G' a = none)
    (nw : ∀ a, F.H0 a ≠ none → F.G0 a = none → G' a = none) : Fm K F G' H' σ ρ φ ts where
  gh := hGH
  g0 := fun a o e => hG a o (I.g0 a o e)
  h0 := fun a o e hm => by
    have q := I.h0 a o e hm
    cases g : G a with
    | none => rw [kp a g (by rw [q]; simp)]; exact q
    | some u =>
      have q2 := I.gh a u g
      rw [q] at q2; cases q2
      exact hGH a _ (hG a _ g)
  m0 := fun a hm => by
    cases g : G a with
    | none => rw [kp a g (I.m0 a hm)]; exact I.m0 a hm
    | some u => rw [hGH a _ (hG a _ g)]; simp
  nw := nw
  len := I.len
  sl := fun i s e => by
    obtain ⟨v, h1, h2⟩ := I.sl i s e
    exact ⟨v, h1, h2.mono hG fun a ha => kp a (I.ph i a ha).1 (I.ph i a ha).2.1⟩
  nb := I.nb
  ph := fun i a ha => by
    obtain ⟨h1, h2, h3⟩ := I.ph i a ha
    exact ⟨hp i a ha, by rw [kp a h1 h2]; exact h2, h3⟩
  dj := I.dj
  tm := fun t h => (I.tm t h).mono hG fun a ha => kp a (I.tp t h a ha).1 ((I.tm t h).there a ha)
  tp := fun t h a ha => ⟨ht t h a ha, (I.tp t h a ha).2⟩
  tt := I.tt
  md := I.md
/-- what is fresh was not there at the entry -/
theorem Fm.fresh (I : Fm K F G H σ ρ φ ts) {p : Addr} (hp : H p = none) : F.H0 p = none ∧ G p = none ∧ (∀ i, p ∉ φ i) ∧ ∀ t ∈ ts, p ∉ t.fp := by
  have hG : G p = none := by
    cases g : G p with
    | none => rfl
    | some u => rw [I.gh p u g] at hp; cases hp
  refine ⟨?_, hG, fun i hi => (I.ph i p hi).2.1 hp, fun t ht hi => (I.tm t ht).there p hi hp⟩
  cases e : F.H0 p with
  | none => rfl
  | some o =>
    by_cases hm : p ∈ F.M0
    · exact absurd hp (I.m0 p hm)
    · rw [I.h0 p o e hm] at hp; cases hp
/-- a new object, private or not yet held -/
theorem Fm.newP (I : Fm K F G H σ ρ φ ts) {p : Addr} (hp : H p = none) (o : HO) : Fm K F G (upd H p o) σ ρ φ ts :=
  I.grow (fun _ _ e => e) (fun a u e => by rw [upd_ne (fun z => by rw [z, (I.fresh hp).2.1] at e; cases e)]; exact I.gh a u e) (fun a _ hn => by rw [upd_ne (fun z => hn (by rw [z]; exact hp))])
    (fun i a ha => (I.ph i a ha).1) (fun t ht a ha => (I.tp t ht a ha).1) I.nw
/-- a new object, shared at once -/
theorem Fm.newS (I : Fm K F G H σ ρ φ ts) {p : Addr} (hp : H p = none) (o : HO) : Fm K F (upd G p o) (upd H p o) σ ρ φ ts := by
  obtain ⟨h0, hG, hφ, hts⟩ := I.fresh hp
  refine I.grow (fun a u e => ?_) (fun a u e => ?_) (fun a _ hn => ?_) (fun i a ha => ?_) (fun t ht a ha => ?_) fun a h1 h2 => ?_
  · rw [upd_ne (fun z => by rw [z, hG] at e; cases e)]; exact e
  · by_cases z : a = p
    · subst z; rw [upd_same] at e ⊢; exact e
    · rw [upd_ne z] at e ⊢; exact I.gh a u e
  · rw [upd_ne (fun z => hn (by rw [z]; exact hp))]
  · rw [upd_ne (show a ≠ p from fun z => hφ i (by rw [← z]; exact ha))]; exact (I.ph i a ha).1
  · rw [upd_ne (show a ≠ p from fun z => hts t ht (by rw [← z]; exact ha))]; exact (I.tp t ht a ha).1
  · rw [upd_ne (fun z => by rw [z] at h1; exact h1 h0)]; exact I.nw a h1 h2
theorem Fm.drop (I : Fm K F G H σ ρ φ (t :: ts)) : Fm K F G H σ ρ φ ts :=
  ⟨I.gh, I.g0, I.h0, I.m0, I.nw, I.len, I.sl, I.nb, I.ph, I.dj, fun u h => I.tm u (List.mem_cons_of_mem _ h), fun u h => I.tp u (List.mem_cons_of_mem _ h), I.md, (List.pairwise_cons.mp I.tt).2⟩
theorem Fm.push (I : Fm K F G H σ ρ φ ts) (r : RelS K F.cs σ G H v s fp) (p : ∀ a ∈ fp, G a = none ∧ F.H0 a = none ∧ (∀ i, a ∉ φ i) ∧ ∀ t ∈ ts, a ∉ t.fp) : Fm K F G H σ ρ φ (⟨v, s, fp⟩ :: ts) :=
  ⟨I.gh, I.g0, I.h0, I.m0, I.nw, I.len, I.sl, I.nb, I.ph, I.dj, fun u h => by
    rcases List.mem_cons.mp h with e | h
    · subst e; exact r
    · exact I.tm u h, fun u h => by
    rcases List.mem_cons.mp h with e | h
    · subst e; exact fun a ha => ⟨(p a ha).1, (p a ha).2.1, (p a ha).2.2.1⟩
    · exact I.tp u h, I.md, List.pairwise_cons.mpr ⟨fun u h a ha => (p a ha).2.2.2 u h, I.tt⟩⟩
/-- shared data on the way -/
theorem Fm.pushD (I : Fm K F G H σ ρ φ ts) {d : PyData} (r : Sh K G v d) : Fm K F G H σ ρ φ (⟨v, .sh d, []⟩ :: ts) :=
  I.push ⟨rfl, r⟩ fun a ha => by cases ha
/-- what is shared now, noted -/
theorem Fm.mark (I : Fm K F G H σ ρ φ ts) : Fm K F G H σ ρ φ (⟨.non, .mk G, []⟩ :: ts) := I.push ⟨rfl, fun _ _ q => q⟩ fun a ha => by cases ha
theorem Fm.marked {G1 : Hp} (I : Fm K F G H σ ρ φ ts) (h : (⟨.non, .mk G1, []⟩ : Hd) ∈ ts) : Le G1 G := (I.tm _ h).2
theorem Fm.head (I : Fm K F G H σ ρ φ (t :: ts)) : RelS K F.cs σ G H t.v t.s t.fp := I.tm t List.mem_cons_self
/-- a new private list -/
theorem Fm.newL (I : Fm K F G H σ ρ φ ts) {p : Addr} {xs : List V} {ds : List PyData} (hp : H p = none) (r : ShL K G xs ds) : Fm K F G (upd H p (.lst xs)) σ ρ φ (⟨.ref p, .ls ds, [p]⟩ :: ts) := by
  obtain ⟨h0, hG, hφ, hts⟩ := I.fresh hp
  exact (I.newP hp _).push ⟨p, xs, rfl, rfl, upd_same, r⟩ fun a ha => by
    rw [List.mem_singleton.mp ha]; exact ⟨hG, h0, hφ, hts⟩
/-- a new tuple -/
theorem Fm.newT (I : Fm K F G H σ ρ φ ts) {p : Addr} {xs : List V} {ds : List PyData} (hp : H p = none) (r : ShL K G xs ds) : Fm K F (upd G p (.tup xs)) (upd H p (.tup xs)) σ ρ φ (⟨.ref p, .sh (.tuple ds), []⟩ :: ts) := by
  obtain ⟨h0, hG, hφ, hts⟩ := I.fresh hp
  refine (I.newS hp _).pushD (.tup (.inl (.inl upd_same)) (r.mono fun a u e => ?_))
  rw [upd_ne (fun z => by rw [z, hG] at e; cases e)]; exact e
end
end Dn
namespace Dn
open PySem L2
/-! Part 2: looking at a holder's content, sharing it, storing it in a slot, changing it in place -/

/-- the content of what is on the way: a list's items are shared data, the list itself may be private -/
inductive ShW (K : PySem.W.Frag) (G H : Hp) : V → PyData → Prop
  | sc {v : V} {d : PyData} : Sh K G v d → ShW K G H v d
  | ls {a : Addr} {xs : List V} {ds : List PyData} : H a = some (.lst xs) → ShL K G xs ds → ShW K G H (.ref a) (.list ds)

section
variable {K : PySem.W.Frag} {F : Entry} {G G' H H' : Hp} {σ σ' : L2.St} {ρ ρ' : Env} {φ φ' : Nat → List Addr} {ts : List Hd} {t : Hd} {v : V} {s : S} {fp : List Addr} {d : PyData}
theorem ShW.int {i : Int} : ShW K G H v (.int i) → v = .int i
  | .sc (.int _) => rfl
theorem ShW.bl {b : Bool} : ShW K G H v (.bool b) → v = .bl b
  | .sc (.bl _) => rfl
theorem ShW.str {x : Str} : ShW K G H v (.str x) → v = .str x
  | .sc (.str _) => rfl
theorem ShW.non : ShW K G H v .none → v = .non
  | .sc .non => rfl
theorem ShW.list (gh : Le G H) {ds : List PyData} : ShW K G H v (.list ds) → ∃ a xs, v = .ref a ∧ H a = some (.lst xs) ∧ ShL K G xs ds
  | .sc (.lst h r) => ⟨_, _, rfl, gh _ _ h, r⟩
  | .ls h r => ⟨_, _, rfl, h, r⟩
theorem ShW.tup {ds : List PyData} : ShW K G H v (.tuple ds) → ∃ a xs, v = .ref a ∧ SqT K G a xs ∧ ShL K G xs ds
  | .sc (.tup h r) => ⟨_, _, rfl, h, r⟩
theorem ShW.sh (gh : Le G H) : ShW K G H v d → Sh K H v d
  | .sc h => h.mono gh
  | .ls h r => .lst h (r.mono gh)

def view (ρ : Env) : S → Option PyData
  | .sh d => some d
  | .ls xs => some (.list xs)
  | .bor i => match ρ[i]? with
    | some (some (.sh d)) => some d
    | some (some (.ls xs)) => some (.list xs)
    | _ => none
  | _ => none

theorem Fm.slot (I : Fm K F G H σ ρ φ ts) {i : Nat} (r : RelS K F.cs σ G H v (.bor i) fp) (e : ρ[i]? = some (some s)) : RelS K F.cs σ G H v s (φ i) := by
  obtain ⟨v', h1, h2⟩ := I.sl i s e
  have q := r.2.2
  rw [h1] at q
  have q2 : v' = v := Option.some.inj (Option.some.inj q)
  rw [← q2]; exact h2
theorem Fm.view (I : Fm K F G H σ ρ φ ts) (r : RelS K F.cs σ G H v s fp) (e : view ρ s = some d) : ShW K G H v d := by
  cases s with
  | sh d' => cases e; exact .sc r.2
  | ls xs =>
    cases e
    obtain ⟨a, ys, rfl, _, h, q⟩ := r
    exact .ls h q
  | bor i =>
    unfold Dn.view at e
    cases q : ρ[i]? with
    | none => simp only [q] at e; cases e
    | some o =>
      cases o with
      | none => simp only [q] at e; cases e
      | some s' =>
        have r' := I.slot r q
        cases s' with
        | sh d' => simp only [q] at e; cases e; exact .sc r'.2
        | ls xs =>
          simp only [q] at e; cases e
          obtain ⟨a, ys, rfl, _, h, q⟩ := r'
          exact .ls h q
        | _ => simp only [q] at e; cases e
  | _ => cases e

/-- a private object, no slot's, is shared from now on -/
theorem Fm.share (I : Fm K F G H σ ρ φ ts) {a : Addr} {o : HO} (h : H a = some o) (g : G a = none) (h0 : F.H0 a = none) (hs : ∀ i, a ∉ φ i) (ht : ∀ t ∈ ts, a ∉ t.fp) : Fm K F (upd G a o) H σ ρ φ ts := by
  refine I.grow (fun b u e => ?_) (fun b u e => ?_) (fun _ _ _ => rfl) (fun i b hb => ?_) (fun t hm b hb => ?_) fun b h1 h2 => ?_
  · rw [upd_ne (show b ≠ a from fun z => by rw [z, g] at e; cases e)]; exact e
  · by_cases z : b = a
    · subst z; rw [upd_same] at e; cases e; exact h
    · rw [upd_ne z] at e; exact I.gh b u e
  · rw [upd_ne (show b ≠ a from fun z => hs i (by rw [← z]; exact hb))]; exact (I.ph i b hb).1
  · rw [upd_ne (show b ≠ a from fun z => ht t hm (by rw [← z]; exact hb))]; exact (I.tp t hm b hb).1
  · rw [upd_ne (show b ≠ a from fun z => h1 (by rw [z]; exact h0))]; exact I.nw b h1 h2
theorem upd_le {G : Hp} {a : Addr} {o : HO} (g : G a = none) : Le G (upd G a o) := fun b u e => by
  rw [upd_ne (show b ≠ a from fun z => by rw [z, g] at e; cases e)]; exact e

/-- slot i is given other content: a private object of its own may have changed -/
theorem Fm.upAt (I : Fm K F G H σ ρ φ ts) (i : Nat) (s' : S) (hG : Le G G') (hGH : Le G' H') (kp : ∀ a, G a = none → H a ≠ none → a ∉ φ i → H' a = H a) (th : ∀ a ∈ φ i, H' a ≠ none) (hp : ∀ j a, a ∈ φ j → G' a = none)
    (ht : ∀ t ∈ ts, ∀ a ∈ t.fp, G' a = none) (nw : ∀ a, F.H0 a ≠ none → F.G0 a = none → G' a = none) (hv : ∃ v, σ[i]? = some (some v) ∧ RelS K F.cs σ G' H' v s' (φ i)) (hd : isDeck s' = deckAt ρ i) (hb : ∀ j, s' ≠ .bor j) :
    Fm K F G' H' σ (ρ.set i (some s')) φ ts where
  gh := hGH
  g0 := fun a o e => hG a o (I.g0 a o e)
  h0 := fun a o e hm => by
    have q := I.h0 a o e hm
    cases g : G a with
    | none =>
      have na : a ∉ φ i := fun ha => by
        rcases (I.ph i a ha).2.2 with z | ⟨z, _⟩
        · rw [e] at z; cases z
        · exact hm z
      rw [kp a g (by rw [q]; simp) na]; exact q
    | some u =>
      have q2 := I.gh a u g
      rw [q] at q2; cases q2
      exact hGH a _ (hG a _ g)
  m0 := fun a hm => by
    by_cases ha : a ∈ φ i
    · exact th a ha
    · cases g : G a with
      | none => rw [kp a g (I.m0 a hm) ha]; exact I.m0 a hm
      | some u => rw [hGH a _ (hG a _ g)]; simp
  nw := nw
  len := by rw [List.length_set]; exact I.len
  sl := fun j s e => by
    by_cases z : j = i
    · subst z
      have hl : j < ρ.length := by
        have := (List.getElem?_eq_some_iff.mp e).1
        rwa [List.length_set] at this
      rw [List.getElem?_set_self hl] at e
      cases e
      exact hv
    · rw [List.getElem?_set_ne (Ne.symm z)] at e
      obtain ⟨v, h1, h2⟩ := I.sl j s e
      exact ⟨v, h1, h2.mono hG fun a ha => kp a (I.ph j a ha).1 (I.ph j a ha).2.1 fun hi => z (I.dj j i a ha hi)⟩
  nb := fun j k e => by
    by_cases z : j = i
    · subst z
      have hl : j < ρ.length := by
        have := (List.getElem?_eq_some_iff.mp e).1
        rwa [List.length_set] at this
      rw [List.getElem?_set_self hl] at e
      cases e
      exact hb k rfl
    · rw [List.getElem?_set_ne (Ne.symm z)] at e
      exact I.nb j k e
  ph := fun j a ha => by
    obtain ⟨h1, h2, h3⟩ := I.ph j a ha
    refine ⟨hp j a ha, ?_, ?_⟩
    · by_cases hi : a ∈ φ i
      · exact th a hi
      · rw [kp a h1 h2 hi]; exact h2
    · rcases h3 with h3 | ⟨h3, h4⟩
      · exact .inl h3
      · refine .inr ⟨h3, ?_⟩
        by_cases z : j = i
        · subst z
          unfold deckAt at h4 ⊢
          cases q : ρ[j]? with
          | none => simp only [q] at h4; cases h4
          | some o =>
            have hl := (List.getElem?_eq_some_iff.mp q).1
            rw [List.getElem?_set_self hl]
            show isDeck s' = true
            rw [hd]; unfold deckAt; exact h4
        · unfold deckAt at h4 ⊢
          rw [List.getElem?_set_ne (Ne.symm z)]; exact h4
  dj := I.dj
  tm := fun t h => (I.tm t h).mono hG fun a ha => kp a (I.tp t h a ha).1 ((I.tm t h).there a ha) ((I.tp t h a ha).2.2 i)
  tp := fun t h a ha => ⟨ht t h a ha, (I.tp t h a ha).2⟩
  tt := I.tt
  md := fun hm => by
    obtain ⟨h1, h2⟩ := I.md hm
    refine ⟨h1, ?_⟩
    by_cases z : (0 : Nat) = i
    · subst z
      have h2' := h2
      unfold deckAt at h2 ⊢
      cases q : ρ[0]? with
      | none => simp only [q] at h2; cases h2
      | some o =>
        have hl := (List.getElem?_eq_some_iff.mp q).1
        rw [List.getElem?_set_self hl]
        show isDeck s' = true
        rw [hd]; exact h2'
    · unfold deckAt at h2 ⊢
      rw [List.getElem?_set_ne (Ne.symm z)]; exact h2

/-- what is on the way is stored in slot i -/
theorem Fm.set (I : Fm K F G H σ ρ φ (⟨v, s, fp⟩ :: ts)) {i : Nat} (hi : i < ρ.length) (h0 : (i == 0 && deckAt ρ 0) = false) (hs : ∀ j, s ≠ .bor j) (hts : ∀ t ∈ ts, t.s ≠ .bor i) :
    Fm K F G H (σ.set i (some v)) (ρ.set i (some s)) (fun j => if j = i then fp else φ j) ts := by
  have hr := I.head
  have hiσ : i < σ.length := by rw [I.len]; exact hi
  have nd : F.M0 ≠ [] → i ≠ 0 := fun hm z => by
    subst z
    rw [(I.md hm).2] at h0
    cases h0
  have key : ∀ j a, a ∈ (if j = i then fp else φ j) → (j = i ∧ a ∈ fp) ∨ (j ≠ i ∧ a ∈ φ j) := fun j a ha => by
    by_cases z : j = i
    · rw [if_pos z] at ha; exact .inl ⟨z, ha⟩
    · rw [if_neg z] at ha; exact .inr ⟨z, ha⟩
  have htp := I.tp _ (List.mem_cons_self (a := (⟨v, s, fp⟩ : Hd)) (l := ts))
  have htt := List.pairwise_cons.mp I.tt
  refine ⟨I.gh, I.g0, I.h0, I.m0, I.nw, by rw [List.length_set, List.length_set]; exact I.len, fun j s' e => ?_, fun j k e => ?_, fun j a ha => ?_, fun j k a ha hb => ?_, fun t ht => ?_, fun t ht a ha => ?_, fun hm => ?_, htt.2⟩
  · by_cases z : j = i
    · subst z
      rw [List.getElem?_set_self hi] at e
      cases e
      refine ⟨v, List.getElem?_set_self hiσ, ?_⟩
      rw [if_pos rfl]
      exact hr.slots fun k _ e => absurd e (hs k)
    · rw [List.getElem?_set_ne (Ne.symm z)] at e
      obtain ⟨w, h1, h2⟩ := I.sl j s' e
      refine ⟨w, by rw [List.getElem?_set_ne (Ne.symm z)]; exact h1, ?_⟩
      rw [if_neg z]
      exact h2.slots fun k _ e' => absurd (by rw [e, e'] : ρ[j]? = some (some (.bor k))) (I.nb j k)
  · by_cases z : j = i
    · subst z
      rw [List.getElem?_set_self hi] at e
      cases e
      exact hs k rfl
    · rw [List.getElem?_set_ne (Ne.symm z)] at e
      exact I.nb j k e
  · rcases key j a ha with ⟨z, ha⟩ | ⟨z, ha⟩
    · obtain ⟨q1, q2, q3⟩ := htp a ha
      exact ⟨q1, hr.there a ha, .inl q2⟩
    · obtain ⟨q1, q2, q3⟩ := I.ph j a ha
      refine ⟨q1, q2, q3.imp id fun ⟨m, q⟩ => ⟨m, ?_⟩⟩
      unfold deckAt at q ⊢
      rw [List.getElem?_set_ne (Ne.symm z)]; exact q
  · rcases key j a ha with ⟨z, ha⟩ | ⟨z, ha⟩
    · rcases key k a hb with ⟨z', hb⟩ | ⟨z', hb⟩
      · rw [z, z']
      · exact absurd hb ((htp a ha).2.2 k)
    · rcases key k a hb with ⟨z', hb⟩ | ⟨z', hb⟩
      · exact absurd ha ((htp a hb).2.2 j)
      · exact I.dj j k a ha hb
  · exact (I.tm t (List.mem_cons_of_mem _ ht)).slots fun k _ e => List.getElem?_set_ne fun z => hts t ht (by rw [e, z])
  · obtain ⟨q1, q2, q3⟩ := I.tp t (List.mem_cons_of_mem _ ht) a ha
    refine ⟨q1, q2, fun j hj => ?_⟩
    rcases key j a hj with ⟨_, hj⟩ | ⟨_, hj⟩
    · exact htt.1 t ht a hj ha
    · exact q3 j hj
  · obtain ⟨q1, q2⟩ := I.md hm
    have := nd hm
    refine ⟨by rw [if_neg (Ne.symm this)]; exact q1, ?_⟩
    unfold deckAt at q2 ⊢
    rw [List.getElem?_set_ne this]; exact q2
/-- a slot is forgotten -/
theorem Fm.wipeAt (I : Fm K F G H σ ρ φ ts) (i : Nat) (h0 : (i == 0 && deckAt ρ 0) = false) (hσ : ∀ j, j ≠ i → σ'[j]? = σ[j]?) (hl : σ'.length = σ.length) (hts : ∀ t ∈ ts, t.s ≠ .bor i) :
    Fm K F G H σ' (ρ.set i none) (fun j => if j = i then [] else φ j) ts := by
  have nd : F.M0 ≠ [] → i ≠ 0 := fun hm z => by
    subst z
    rw [(I.md hm).2] at h0
    cases h0
  have key : ∀ j a, a ∈ (if j = i then [] else φ j) → (j ≠ i ∧ a ∈ φ j) := fun j a ha => by
    by_cases z : j = i
    · rw [if_pos z] at ha; cases ha
    · rw [if_neg z] at ha; exact ⟨z, ha⟩
  have ent : ∀ j s', (ρ.set i none)[j]? = some (some s') → j ≠ i ∧ ρ[j]? = some (some s') := fun j s' e => by
    by_cases z : j = i
    · subst z
      have hl : j < ρ.length := by
        have := (List.getElem?_eq_some_iff.mp e).1
        rwa [List.length_set] at this
      rw [List.getElem?_set_self hl] at e
      cases e
    · rw [List.getElem?_set_ne (Ne.symm z)] at e
      exact ⟨z, e⟩
  refine ⟨I.gh, I.g0, I.h0, I.m0, I.nw, by rw [List.length_set, hl]; exact I.len, fun j s' e => ?_, fun j k e => ?_, fun j a ha => ?_, fun j k a ha hb => ?_, fun t ht => ?_, fun t ht a ha => ?_, fun hm => ?_, I.tt⟩
  · obtain ⟨z, e⟩ := ent j s' e
    obtain ⟨w, h1, h2⟩ := I.sl j s' e
    refine ⟨w, by rw [hσ j z]; exact h1, ?_⟩
    rw [if_neg z]
    exact h2.slots fun k _ e' => absurd (by rw [e, e'] : ρ[j]? = some (some (.bor k))) (I.nb j k)
  · exact I.nb j k (ent j _ e).2
  · obtain ⟨z, ha⟩ := key j a ha
    obtain ⟨q1, q2, q3⟩ := I.ph j a ha
    refine ⟨q1, q2, q3.imp id fun ⟨m, q⟩ => ⟨m, ?_⟩⟩
    unfold deckAt at q ⊢
    rw [List.getElem?_set_ne (Ne.symm z)]; exact q
  · exact I.dj j k a (key j a ha).2 (key k a hb).2
  · exact (I.tm t ht).slots fun k _ e => hσ k fun z => hts t ht (by rw [e, z])
  · obtain ⟨q1, q2, q3⟩ := I.tp t ht a ha
    exact ⟨q1, q2, fun j hj => q3 j (key j a hj).2⟩
  · obtain ⟨q1, q2⟩ := I.md hm
    have := nd hm
    refine ⟨by rw [if_neg (Ne.symm this)]; exact q1, ?_⟩
    unfold deckAt at q2 ⊢
    rw [List.getElem?_set_ne this]; exact q2

/-- what is on the way becomes shared data -/
def froze (ρ : Env) : S → Option (PyData × Env)
  | .sh d => some (d, ρ)
  | .ls xs => some (.list xs, ρ)
  | .dk kvs => some (.dict (kvs.map fun p => (keyD p.1, p.2)), ρ)
  | .dt kvs => some (.dict (kvs.map fun p => (.tuple (p.1.map keyD), p.2)), ρ)
  | .bor i => match ρ[i]? with
    | some (some (.sh d)) => some (d, ρ)
    | some (some (.ls xs)) => some (.list xs, ρ.set i (some (.sh (.list xs))))
    | some (some (.dk kvs)) => some (.dict (kvs.map fun p => (keyD p.1, p.2)), ρ.set i (some (.sh (.dict (kvs.map fun p => (keyD p.1, p.2))))))
    | some (some (.dt kvs)) => some (.dict (kvs.map fun p => (.tuple (p.1.map keyD), p.2)), ρ.set i (some (.sh (.dict (kvs.map fun p => (.tuple (p.1.map keyD), p.2))))))
    | _ => none
  | _ => none

theorem map_dk {ws : List (Key × V)} {kvs : List (Key × PyData)} (h : ws.map (·.1) = kvs.map (·.1)) : (kvs.map fun p => (keyD p.1, p.2)).map (·.1) = ws.map (fun p => keyD p.1) := by
  rw [List.map_map]
  have e1 : ws.map (fun p => keyD p.1) = (ws.map (·.1)).map keyD := by rw [List.map_map] <;> rfl
  rw [e1, h, List.map_map] <;> rfl
theorem map_dt {ws : List (List Key × V)} {kvs : List (List Key × PyData)} (h : ws.map (·.1) = kvs.map (·.1)) : (kvs.map fun p => (PyData.tuple (p.1.map keyD), p.2)).map (·.1) = ws.map (fun p => PyData.tuple (p.1.map keyD)) := by
  rw [List.map_map]
  have e1 : ws.map (fun p => PyData.tuple (p.1.map keyD)) = (ws.map (·.1)).map (fun k => PyData.tuple (k.map keyD)) := by rw [List.map_map] <;> rfl
  rw [e1, h, List.map_map] <;> rfl
theorem map_sndT (kvs : List (List Key × PyData)) : (kvs.map fun p => (PyData.tuple (p.1.map keyD), p.2)).map (·.2) = kvs.map (·.2) := by
  rw [List.map_map] <;> rfl
theorem map_snd {κ : Type} {f : κ → PyData} (kvs : List (κ × PyData)) : (kvs.map fun p => (f p.1, p.2)).map (·.2) = kvs.map (·.2) := by
  rw [List.map_map] <;> rfl

/-- slot i's private object is shared from now on -/
theorem Fm.shareSlot (I : Fm K F G H σ ρ φ ts) {i : Nat} {a : Addr} {o : HO} (e : ρ[i]? = some (some s)) (hs : isDeck s = false) (hf : φ i = [a]) (h : H a = some o) (hd : ∀ v, σ[i]? = some (some v) → RelS K F.cs σ G H v s (φ i) → Sh K (upd G a o) v d) :
    Fm K F (upd G a o) H σ (ρ.set i (some (.sh d))) (fun j => if j = i then [] else φ j) ts := by
  have hi : i < ρ.length := (List.getElem?_eq_some_iff.mp e).1
  have ndk : deckAt ρ i = false := by unfold deckAt; rw [e]; exact hs
  obtain ⟨g, _, h0⟩ := I.ph i a (by rw [hf]; exact List.mem_cons_self)
  have h0 : F.H0 a = none := by
    rcases h0 with z | ⟨_, z⟩
    · exact z
    · rw [ndk] at z; cases z
  have own : ∀ j b, j ≠ i → b ∈ φ j → b ≠ a := fun j b hj hb z => hj (I.dj j i b hb (by rw [hf, z]; exact List.mem_cons_self))
  have ownT : ∀ t ∈ ts, ∀ b ∈ t.fp, b ≠ a := fun t ht b hb z => (I.tp t ht b hb).2.2 i (by rw [hf, z]; exact List.mem_cons_self)
  have leG : Le G (upd G a o) := upd_le g
  have key : ∀ j b, b ∈ (if j = i then [] else φ j) → (j ≠ i ∧ b ∈ φ j) := fun j b ha => by
    by_cases z : j = i
    · rw [if_pos z] at ha; cases ha
    · rw [if_neg z] at ha; exact ⟨z, ha⟩
  refine ⟨fun b u q => ?_, fun b u q => leG b u (I.g0 b u q), I.h0, I.m0, fun b h1 h2 => ?_, by rw [List.length_set]; exact I.len, fun j s' q => ?_, fun j k q => ?_, fun j b hb => ?_, fun j k b hb hc => ?_, fun t ht => ?_, fun t ht b hb => ?_, fun hm => ?_, I.tt⟩
  · by_cases z : b = a
    · subst z; rw [upd_same] at q; cases q; exact h
    · rw [upd_ne z] at q; exact I.gh b u q
  · rw [upd_ne (show b ≠ a from fun z => h1 (by rw [z]; exact h0))]; exact I.nw b h1 h2
  · by_cases z : j = i
    · subst z
      rw [List.getElem?_set_self hi] at q
      cases q
      obtain ⟨v, h1, h2⟩ := I.sl j s e
      refine ⟨v, h1, ?_⟩
      rw [if_pos rfl]
      exact ⟨rfl, hd v h1 h2⟩
    · rw [List.getElem?_set_ne (Ne.symm z)] at q
      obtain ⟨v, h1, h2⟩ := I.sl j s' q
      refine ⟨v, h1, ?_⟩
      rw [if_neg z]
      exact h2.mono leG fun _ _ => rfl
  · by_cases z : j = i
    · subst z
      rw [List.getElem?_set_self hi] at q
      cases q
    · rw [List.getElem?_set_ne (Ne.symm z)] at q
      exact I.nb j k q
  · obtain ⟨z, hb⟩ := key j b hb
    obtain ⟨q1, q2, q3⟩ := I.ph j b hb
    refine ⟨by rw [upd_ne (own j b z hb)]; exact q1, q2, q3.imp id fun ⟨m, q⟩ => ⟨m, ?_⟩⟩
    unfold deckAt at q ⊢
    rw [List.getElem?_set_ne (Ne.symm z)]; exact q
  · exact I.dj j k b (key j b hb).2 (key k b hc).2
  · exact (I.tm t ht).mono leG fun _ _ => rfl
  · obtain ⟨q1, q2, q3⟩ := I.tp t ht b hb
    exact ⟨by rw [upd_ne (ownT t ht b hb)]; exact q1, q2, fun j hj => q3 j (key j b hj).2⟩
  · obtain ⟨q1, q2⟩ := I.md hm
    have z : (0 : Nat) ≠ i := fun z => by rw [← z, q2] at ndk; cases ndk
    refine ⟨by rw [if_neg z]; exact q1, ?_⟩
    unfold deckAt at q2 ⊢
    rw [List.getElem?_set_ne (Ne.symm z)]; exact q2

theorem Fm.froze (I : Fm K F G H σ ρ φ (t :: ts)) (e : froze ρ t.s = some (d, ρ')) : ∃ G' φ', Fm K F G' H σ ρ' φ' (⟨t.v, .sh d, []⟩ :: ts) ∧ Le G G' := by
  obtain ⟨v, s, fp⟩ := t
  have r := I.head
  have J := I.drop
  have htp := I.tp _ (List.mem_cons_self (a := (⟨v, s, fp⟩ : Hd)) (l := ts))
  have htt := (List.pairwise_cons.mp I.tt).1
  cases s with
  | sh d' => cases e; exact ⟨G, φ, J.pushD r.2, fun _ _ q => q⟩
  | ls xs =>
    cases e
    obtain ⟨a, ys, e1, rfl, h, q⟩ := r
    simp only at e1; subst e1
    obtain ⟨g, h0, hs⟩ := htp a List.mem_cons_self
    exact ⟨_, φ, (J.share h g h0 hs fun t ht => htt t ht a List.mem_cons_self).pushD (.lst upd_same (q.mono (upd_le g))), upd_le g⟩
  | dk kvs =>
    cases e
    obtain ⟨a, ys, e1, rfl, h, k, q⟩ := r
    simp only at e1; subst e1
    obtain ⟨g, h0, hs⟩ := htp a List.mem_cons_self
    exact ⟨_, φ, (J.share h g h0 hs fun t ht => htt t ht a List.mem_cons_self).pushD (.dkk upd_same (map_dk k) (by rw [map_snd]; exact q.mono (upd_le g))), upd_le g⟩
  | dt kvs =>
    cases e
    obtain ⟨a, ys, e1, rfl, h, k, q⟩ := r
    simp only at e1; subst e1
    obtain ⟨g, h0, hs⟩ := htp a List.mem_cons_self
    exact ⟨_, φ, (J.share h g h0 hs fun t ht => htt t ht a List.mem_cons_self).pushD (.dtt upd_same (map_dt k) (by rw [map_sndT]; exact q.mono (upd_le g))), upd_le g⟩
  | bor i =>
    unfold Dn.froze at e
    cases q : ρ[i]? with
    | none => simp only [q] at e; cases e
    | some o =>
      cases o with
      | none => simp only [q] at e; cases e
      | some s' =>
        have r' := I.slot r q
        have hv := r.2.2
        cases s' with
        | sh d' => simp only [q] at e; cases e; exact ⟨G, φ, J.pushD r'.2, fun _ _ q => q⟩
        | ls xs =>
          simp only [q] at e; cases e
          obtain ⟨a, ys, e1, ef, h, r2⟩ := r'
          simp only at e1; subst e1
          have g := (I.ph i a (by rw [ef]; exact List.mem_cons_self)).1
          have sh : Sh K (upd G a (.lst ys)) (.ref a) (.list xs) := .lst upd_same (r2.mono (upd_le g))
          refine ⟨_, _, (J.shareSlot q rfl ef h fun w hw _ => ?_).pushD sh, upd_le g⟩
          rw [hv] at hw; cases hw; exact sh
        | dk kvs =>
          simp only [q] at e; cases e
          obtain ⟨a, ys, e1, ef, h, k, r2⟩ := r'
          simp only at e1; subst e1
          have g := (I.ph i a (by rw [ef]; exact List.mem_cons_self)).1
          have sh : Sh K (upd G a (.dK ys)) (.ref a) (.dict (kvs.map fun p => (keyD p.1, p.2))) := .dkk upd_same (map_dk k) (by rw [map_snd]; exact r2.mono (upd_le g))
          refine ⟨_, _, (J.shareSlot q rfl ef h fun w hw _ => ?_).pushD sh, upd_le g⟩
          rw [hv] at hw; cases hw; exact sh
        | dt kvs =>
          simp only [q] at e; cases e
          obtain ⟨a, ys, e1, ef, h, k, r2⟩ := r'
          simp only at e1; subst e1
          have g := (I.ph i a (by rw [ef]; exact List.mem_cons_self)).1
          have sh : Sh K (upd G a (.dT ys)) (.ref a) (.dict (kvs.map fun p => (.tuple (p.1.map keyD), p.2))) := .dtt upd_same (map_dt k) (by rw [map_sndT]; exact r2.mono (upd_le g))
          refine ⟨_, _, (J.shareSlot q rfl ef h fun w hw _ => ?_).pushD sh, upd_le g⟩
          rw [hv] at hw; cases hw; exact sh
        | _ => simp only [q] at e; cases e
  | _ => cases e
end
end Dn
namespace Dn
open PySem L2
/-! Part 3: expressions -/

abbrev EE := Env → Option (S × Env)
abbrev BE := Env → Option (Bool × Env)
abbrev AE := Env → Option (List S × Env)

def tE (K : PySem.W.Frag) (F : Entry) (f : EE) : TE := fun σ H Q => ∃ G ρ φ ts r ρ', Fm K F G H σ ρ φ ts ∧ f ρ = some (r, ρ') ∧ ∀ G' H' φ' v fp, Fm K F G' H' σ ρ' φ' (⟨v, r, fp⟩ :: ts) → Q v H'
def tB (K : PySem.W.Frag) (F : Entry) (f : BE) : TT := fun σ H Q => ∃ G ρ φ ts b ρ', Fm K F G H σ ρ φ ts ∧ f ρ = some (b, ρ') ∧ ∀ G' H' φ', Fm K F G' H' σ ρ' φ' ts → Q b H'
def tAs (K : PySem.W.Frag) (F : Entry) (f : AE) : TA := fun σ H Q => ∃ G ρ φ ts rs ρ', Fm K F G H σ ρ φ ts ∧ f ρ = some (rs, ρ') ∧ ∀ G' H' φ' (hs : List Hd), hs.map Hd.s = rs → Fm K F G' H' σ ρ' φ' (hs.reverse ++ ts) → Q (hs.map Hd.v) H'

/-- what a def's context has: nothing is handled, names stand once, there is room, nothing is being shown -/
structure CtxOk (X : Cx) : Prop where
  calm : X.calm = true
  nd : X.N.Nodup
  un : X.A.units + 72 < cLine
  gd : X.A.guards = some []

abbrev DE (X : Cx) (F : Entry) (e : Expr) (f : EE) : Prop := PE X e (tE X.K F f)
abbrev DB (X : Cx) (F : Entry) (e : Expr) (f : BE) : Prop := PT X e (tB X.K F f)
abbrev DAs (X : Cx) (F : Entry) (es : List Expr) (f : AE) : Prop := PA X es (tAs X.K F f)

section
variable {X : Cx} {F : Entry} {a b c e : Expr} {es : List Expr} {pos : Pos} {fa fb fc f : EE} {ta : AE}

theorem pe_imp {t t' : TE} (h : PE X e t) (k : ∀ σ H Q, t' σ H Q → t σ H Q) : PE X e t' := ⟨fun pins s σ H Q I w => h.run pins s σ H Q I (k σ H Q w)⟩
theorem pt_imp {t t' : TT} (h : PT X e t) (k : ∀ σ H Q, t' σ H Q → t σ H Q) : PT X e t' := ⟨fun pins s σ H Q I w => h.run pins s σ H Q I (k σ H Q w)⟩
theorem pa_imp {t t' : TA} (h : PA X es t) (k : ∀ σ H Q, t' σ H Q → t σ H Q) : PA X es t' := ⟨fun p pins s σ H Q I w => h.run p pins s σ H Q I (k σ H Q w)⟩

theorem Sh.blv {K : PySem.W.Frag} {G : Hp} {v : V} {b : Bool} : Sh K G v (.bool b) → v = .bl b
  | .bl _ => rfl
/-! ### constants, names -/
def cst (d : PyData) : EE := fun ρ => some (.sh d, ρ)
theorem c_of {v : V} {d : PyData} (h : PE X e (tC v)) (r : ∀ G, Sh X.K G v d) : DE X F e (cst d) := pe_imp h fun σ H Q ⟨G, ρ, φ, ts, r', ρ', I, hf, k⟩ => by
  cases hf
  exact k G H φ v [] (I.pushD (r G))
theorem c_int {i : Int} {j : Nat} : DE X F (.Constant (.int i) j pos) (cst (.int i)) := c_of pe_int fun _ => .int i
theorem c_bl {i : Bool} {j : Nat} : DE X F (.Constant (.bool i) j pos) (cst (.bool i)) := c_of pe_bl fun _ => .bl i
theorem c_non {j : Nat} : DE X F (.Constant .none j pos) (cst .none) := c_of pe_non fun _ => .non
theorem c_str {x : Str} {j : Nat} : DE X F (.Constant (.str x) j pos) (cst (.str x)) := c_of pe_str fun _ => .str x
def nameE (cs : List Nat) (i : Nat) : EE := fun ρ =>
  match ρ[i]? with
  | some (some (.sh d)) => some (.sh d, ρ)
  | some (some _) => if cs.contains i then none else some (.bor i, ρ)
  | _ => none
theorem c_name {i : Nat} {x : Str} (h : PE X (.Name x pos) (tVar i)) : DE X F (.Name x pos) (nameE F.cs i) := pe_imp h fun σ H Q ⟨G, ρ, φ, ts, r, ρ', I, hf, k⟩ => by
  unfold nameE at hf
  cases q : ρ[i]? with
  | none => simp only [q] at hf; cases hf
  | some o =>
    cases o with
    | none => simp only [q] at hf; cases hf
    | some s =>
      obtain ⟨v, h1, h2⟩ := I.sl i s q
      have go : ¬ F.cs.contains i = true → (S.bor i, ρ) = (r, ρ') → ∃ v, σ[i]? = some (some v) ∧ Q v H := fun hc e => by
        cases e
        exact ⟨v, h1, k G H φ v [] (I.push ⟨rfl, fun hm => hc (List.contains_iff_mem.mpr hm), h1⟩ fun a ha => by cases ha)⟩
      cases s with
      | sh d =>
        simp only [q] at hf
        cases hf
        exact ⟨v, h1, k G H φ v [] (I.pushD h2.2)⟩
      | _ =>
        simp only [q] at hf
        split at hf
        · cases hf
        · exact go ‹_› (Option.some.inj hf)

/-! ### two operands -/
def binE (g : PyData → PyData → Option S) (fa fb : EE) : EE := fun ρ =>
  (fa ρ).bind fun p => (fb p.2).bind fun q => (view q.2 p.1).bind fun x => (view q.2 q.1).bind fun y => (g x y).map fun r => (r, q.2)
theorem binE_some {g : PyData → PyData → Option S} {ρ ρ' : Env} {r : S} (h : binE g fa fb ρ = some (r, ρ')) :
    ∃ ra ρ1 rb x y, fa ρ = some (ra, ρ1) ∧ fb ρ1 = some (rb, ρ') ∧ view ρ' ra = some x ∧ view ρ' rb = some y ∧ g x y = some r := by
  unfold binE at h
  obtain ⟨⟨ra, ρ1⟩, h1, h⟩ := Option.bind_eq_some_iff.mp h
  obtain ⟨⟨rb, ρ2⟩, h2, h⟩ := Option.bind_eq_some_iff.mp h
  obtain ⟨x, h3, h⟩ := Option.bind_eq_some_iff.mp h
  obtain ⟨y, h4, h⟩ := Option.bind_eq_some_iff.mp h
  obtain ⟨r', h5, h⟩ := Option.map_eq_some_iff.mp h
  cases h
  exact ⟨ra, ρ1, rb, x, y, h1, h2, h3, h4, h5⟩
/-- what an operation by values is to show -/
def OpD (X : Cx) (F : Entry) (rr : R2) (g : PyData → PyData → Option S) : Prop :=
  ∀ G H σ ρ φ ts x y d e r (Q : VK), Fm X.K F G H σ ρ φ ts → ShW X.K G H x d → ShW X.K G H y e → g d e = some r →
    (∀ G' H' φ' v fp, Fm X.K F G' H' σ ρ φ' (⟨v, r, fp⟩ :: ts) → Q v H') → rr x y H Q
theorem bin_run {rr : R2} {g : PyData → PyData → Option S} (hr : OpD X F rr g) : ∀ σ H Q, tE X.K F (binE g fa fb) σ H Q → tOp rr (tE X.K F fa) (tE X.K F fb) σ H Q := fun σ H Q ⟨G, ρ, φ, ts, r, ρ', I, hf, k⟩ => by
  obtain ⟨ra, ρ1, rb, x, y, h1, h2, h3, h4, h5⟩ := binE_some hf
  refine ⟨G, ρ, φ, ts, ra, ρ1, I, h1, fun G1 H1 φ1 va fpa I1 => ⟨G1, ρ1, φ1, _, rb, ρ', I1, h2, fun G2 H2 φ2 vb fpb I2 => ?_⟩⟩
  exact hr G2 H2 σ ρ' φ2 ts va vb x y r Q I2.drop.drop (I2.view I2.drop.head h3) (I2.view I2.head h4) h5 k
theorem c_bin {op : Operator} {rr : R2} {g : PyData → PyData → Option S} (ho : OpR X (binaryOp op) rr) (hr : OpD X F rr g) (ha : DE X F a fa) (hb : DE X F b fb) : DE X F (.BinOp a op b pos) (binE g fa fb) :=
  pe_imp (pe_op ho ha hb) (bin_run hr)
theorem c_cmp {op : CmpOp} {rr : R2} {g : PyData → PyData → Option S} (ho : OpR X (compareOp op) rr) (hr : OpD X F rr g) (ha : DE X F a fa) (hb : DE X F b fb) (hm : behindInMarks op b = false) : DE X F (.Compare a [op] [b] pos) (binE g fa fb) :=
  pe_imp (pe_cmpR ho ha hb hm) (bin_run hr)

theorem OpD.or {r r' : R2} {g g' : PyData → PyData → Option S} (h : OpD X F r g) (h' : OpD X F r' g') : OpD X F (fun x y H Q => r x y H Q ∨ r' x y H Q) (fun d e => (g d e).or (g' d e)) := by
  intro G H σ ρ φ ts x y d e s Q I hx hy hg k
  cases q : g d e with
  | some s' =>
    simp only [q, Option.some_or] at hg
    cases hg
    exact .inl (h G H σ ρ φ ts x y d e _ Q I hx hy q k)
  | none =>
    simp only [q, Option.none_or] at hg
    exact .inr (h' G H σ ρ φ ts x y d e s Q I hx hy hg k)

def gInt (c : Int → Int → Bool) (g : Int → Int → Int) : PyData → PyData → Option S
  | .int i, .int j => if c i j = true then some (.sh (.int (g i j))) else none
  | _, _ => none
theorem d_int {C : Int → Int → Prop} {c : Int → Int → Bool} {g : Int → Int → Int} (hc : ∀ i j, c i j = true → C i j) : OpD X F (rI C fun i j => .int (g i j)) (gInt c g) := by
  intro G H σ ρ φ ts x y d e r Q I hx hy hg k
  unfold gInt at hg
  split at hg
  · split at hg
    · cases hg
      exact ⟨_, _, hx.int, hy.int, hc _ _ ‹_›, k G H φ _ [] (I.pushD (.int _))⟩
    · cases hg
  · cases hg
def gInt0 (g : Int → Int → Int) : PyData → PyData → Option S
  | .int i, .int j => some (.sh (.int (g i j)))
  | _, _ => none
theorem d_int0 {g : Int → Int → Int} : OpD X F (rI0 fun i j => .int (g i j)) (gInt0 g) := by
  intro G H σ ρ φ ts x y d e r Q I hx hy hg k
  unfold gInt0 at hg
  split at hg
  · cases hg
    exact ⟨_, _, hx.int, hy.int, k G H φ _ [] (I.pushD (.int _))⟩
  · cases hg
def gIntB (g : Int → Int → Bool) : PyData → PyData → Option S
  | .int i, .int j => some (.sh (.bool (g i j)))
  | _, _ => none
theorem d_intB {g : Int → Int → Bool} : OpD X F (rI0 fun i j => .bl (g i j)) (gIntB g) := by
  intro G H σ ρ φ ts x y d e r Q I hx hy hg k
  unfold gIntB at hg
  split at hg
  · cases hg
    exact ⟨_, _, hx.int, hy.int, k G H φ _ [] (I.pushD (.bl _))⟩
  · cases hg

/-! ### + on ints, texts, lists, tuples -/
theorem line_big : (1000000 : Nat) ≤ sizeLine := by decide
def addS : PyData → PyData → Option S
  | .int i, .int j => some (.sh (.int (i + j)))
  | .str x, .str y => if x.length + y.length ≤ 1000000 then some (.sh (.str (x ++ y))) else none
  | .list xs, .list ys => if xs.length + ys.length ≤ 1000000 then some (.ls (xs ++ ys)) else none
  | .tuple (x :: xs), .tuple ys => if xs.length + ys.length < 1000000 then some (.sh (.tuple (x :: xs ++ ys))) else none
  | _, _ => none
abbrev rAddS (K : PySem.W.Frag) : R2 := fun x y H Q => rI0 (fun i j => .int (i + j)) x y H Q ∨ ((∃ i j, x = .str i ∧ y = .str j ∧ i.length + j.length ≤ sizeLine ∧ Q (.str (i ++ j)) H) ∨ (rCat x y H Q ∨ rCatT K x y H Q))
theorem d_add : OpD X F (rAddS X.K) addS := by
  intro G H σ ρ φ ts x y d e r Q I hx hy hg k
  unfold addS at hg
  split at hg
  · cases hg
    exact .inl ⟨_, _, hx.int, hy.int, k G H φ _ [] (I.pushD (.int _))⟩
  · split at hg
    · cases hg
      exact .inr (.inl ⟨_, _, hx.str, hy.str, Nat.le_trans ‹_› line_big, k G H φ _ [] (I.pushD (.str _))⟩)
    · cases hg
  · split at hg
    · cases hg
      obtain ⟨p, us, rfl, h1, r1⟩ := hx.list I.gh
      obtain ⟨q, ws, rfl, h2, r2⟩ := hy.list I.gh
      refine .inr (.inr (.inl ⟨_, _, _, _, rfl, rfl, h1, h2, ?_, fun p hp => k _ _ φ _ _ (I.newL hp (r1.append r2))⟩))
      rw [r1.length, r2.length]
      exact Nat.le_trans ‹_› line_big
    · cases hg
  · split at hg
    · cases hg
      obtain ⟨p, us, rfl, h1, r1⟩ := hx.tup
      obtain ⟨q, ws, rfl, h2, r2⟩ := hy.tup
      refine .inr (.inr (.inr ⟨_, _, _, _, rfl, rfl, Le.sqT I.gh h1, Le.sqT I.gh h2, ?_, ?_, fun e => ?_, fun _ p hp => k _ _ φ _ _ (I.newT hp (r1.append r2))⟩))
      · intro z
        have := r1.length
        rw [z] at this
        cases this
      · rw [r1.length, r2.length]
        refine Nat.le_trans ?_ line_big
        simp only [List.length_cons]
        omega
      · rw [e] at r2
        cases r2
        rw [List.append_nil] at k
        exact k _ _ φ _ [] (I.pushD (.tup h1 r1))
    · cases hg
  · cases hg
theorem c_add (ha : DE X F a fa) (hb : DE X F b fb) : DE X F (.BinOp a .Add b pos) (binE addS fa fb) := c_bin (op_add.or (op_add_str.or (op_cat.or op_catT))) d_add ha hb
theorem c_sub (ha : DE X F a fa) (hb : DE X F b fb) : DE X F (.BinOp a .Sub b pos) (binE (gInt0 fun i j => i - j) fa fb) := c_bin op_sub d_int0 ha hb
theorem c_band (ha : DE X F a fa) (hb : DE X F b fb) : DE X F (.BinOp a .BitAnd b pos) (binE (gInt0 fun i j => Builtin.bitAnd i j) fa fb) := c_bin op_and d_int0 ha hb
theorem c_mod (ha : DE X F a fa) (hb : DE X F b fb) : DE X F (.BinOp a .Mod b pos) (binE (gInt (fun _ j => decide (0 < j)) fun i j => i % j) fa fb) := c_bin op_mod (d_int fun _ _ h => of_decide_eq_true h) ha hb
theorem c_fdiv (ha : DE X F a fa) (hb : DE X F b fb) : DE X F (.BinOp a .FloorDiv b pos) (binE (gInt (fun _ j => decide (0 < j) && decide (j.natAbs.log2 < 9000)) fun i j => i / j) fa fb) :=
  c_bin op_fdivW (d_int fun _ _ h => ⟨of_decide_eq_true (Bool.and_eq_true_iff.mp h).1, of_decide_eq_true (Bool.and_eq_true_iff.mp h).2⟩) ha hb
/-- * of ints, a list times an int -/
def mulS : PyData → PyData → Option S
  | .int i, .int j => if i.natAbs.log2 + j.natAbs.log2 < 1000000 then some (.sh (.int (i * j))) else none
  | .list [x], .int j => if j ≤ 1000000 ∧ -1000000 ≤ j then some (.ls (List.replicate j.toNat x)) else none
  | _, _ => none
theorem flat_one {α : Type} (x : α) : ∀ n : Nat, (List.replicate n [x]).flatten = List.replicate n x
  | 0 => rfl
  | n + 1 => by rw [List.replicate_succ, List.flatten_cons, flat_one x n] <;> rfl
theorem d_mul : OpD X F (fun x y H Q => rI CMulW (fun i j => .int (i * j)) x y H Q ∨ rRep x y H Q) mulS := by
  intro G H σ ρ φ ts x y d e r Q I hx hy hg k
  unfold mulS at hg
  split at hg
  · split at hg
    · cases hg
      exact .inl ⟨_, _, hx.int, hy.int, ‹_›, k G H φ _ [] (I.pushD (.int _))⟩
    · cases hg
  · split at hg
    · cases hg
      obtain ⟨p, us, rfl, h1, r1⟩ := hx.list I.gh
      obtain ⟨u, rfl⟩ : ∃ u, us = [u] := by
        cases r1 with
        | cons q qs => cases qs; exact ⟨_, rfl⟩
      rename_i hj
      refine .inr ⟨_, _, _, rfl, hy.int, h1, by omega, by omega, ?_, fun p hp => ?_⟩
      · refine Nat.le_trans ?_ line_big
        simp only [List.length_singleton]
        omega
      · rw [flat_one]
        cases r1 with
        | cons q qs => exact k _ _ φ _ _ (I.newL hp (ShL.repl q _))
    · cases hg
  · cases hg
theorem c_mul (ha : DE X F a fa) (hb : DE X F b fb) : DE X F (.BinOp a .Mult b pos) (binE mulS fa fb) := c_bin (op_mulW.or op_rep) d_mul ha hb

/-! ### comparisons -/
theorem c_lt (ha : DE X F a fa) (hb : DE X F b fb) : DE X F (.Compare a [.Lt] [b] pos) (binE (gIntB fun i j => decide (i < j)) fa fb) := c_cmp op_lt d_intB ha hb (nomark _)
theorem c_le (ha : DE X F a fa) (hb : DE X F b fb) : DE X F (.Compare a [.LtE] [b] pos) (binE (gIntB fun i j => decide (i ≤ j)) fa fb) := c_cmp op_le d_intB ha hb (nomark _)
theorem c_gt (ha : DE X F a fa) (hb : DE X F b fb) : DE X F (.Compare a [.Gt] [b] pos) (binE (gIntB fun i j => decide (j < i)) fa fb) := c_cmp op_gt d_intB ha hb (nomark _)
theorem c_ge (ha : DE X F a fa) (hb : DE X F b fb) : DE X F (.Compare a [.GtE] [b] pos) (binE (gIntB fun i j => decide (j ≤ i)) fa fb) := c_cmp op_ge d_intB ha hb (nomark _)

mutual
theorem Sh.dp {K : PySem.W.Frag} {G : Hp} : ∀ {v : V} {d : PyData}, Sh K G v d → d.canLay0 = true → Dp K G v d
  | _, _, .non, _ => .non
  | _, _, .bl b, _ => .bl b
  | _, _, .int i, _ => .int i
  | _, _, .str x, _ => .str x
  | _, _, .lst h r, q => .lst (.inl (.inl h)) (ShL.dp r (by simpa [PyData.canLay0] using q))
  | _, _, .tup h r, q => .tup h (ShL.dp r (by simpa [PyData.canLay0] using q))
  | _, _, .dkk h k r, q => by simp [PyData.canLay0] at q
  | _, _, .dtt h k r, q => by simp [PyData.canLay0] at q
theorem ShL.dp {K : PySem.W.Frag} {G : Hp} : ∀ {vs : List V} {ds : List PyData}, ShL K G vs ds → PyData.canLayAll0 ds = true → DpAll K G vs ds
  | _, _, .nil, _ => .nil
  | _, _, .cons (d := d) (ds := ds) h r, q => by
    have q' : d.canLay0 = true ∧ PyData.canLayAll0 ds = true := by simpa [PyData.canLayAll0] using q
    exact .cons (Sh.dp h q'.1) (ShL.dp r q'.2)
end
/-- == of ints at once, of other data at any depth -/
def eqS (neg : Bool) : PyData → PyData → Option S
  | .int i, .int j => some (.sh (.bool (neg != decide (i = j))))
  | .str x, .str y => some (.sh (.bool (neg != decide (x = y))))
  | d, e => if (SeqAt.shaped d && SeqAt.shaped e) = true then some (.sh (.bool (neg != PyData.eqv d e))) else none
theorem shaped_dp {K : PySem.W.Frag} {G : Hp} {v : V} {d : PyData} (h : Sh K G v d) (q : SeqAt.shaped d = true) : Dp K G v d := by
  unfold SeqAt.shaped at q
  exact h.dp (Bool.and_eq_true_iff.mp q).1
theorem eqv_int {i j : Int} : PyData.eqv (.int i) (.int j) = decide (i = j) := by
  simp only [PyData.eqv]
  first | rfl | exact Bool.beq_eq_decide_eq _ _
theorem eqS_some {neg : Bool} {d e : PyData} {r : S} (h : eqS neg d e = some r) : (∃ x y : Str, d = .str x ∧ e = .str y ∧ r = .sh (.bool (neg != decide (x = y)))) ∨ (SeqAt.shaped d = true ∧ SeqAt.shaped e = true ∧ r = .sh (.bool (neg != PyData.eqv d e))) := by
  unfold eqS at h
  split at h
  · cases h
    refine .inr ⟨by simp [SeqAt.shaped, PyData.canLay0, PyData.depth], by simp [SeqAt.shaped, PyData.canLay0, PyData.depth], ?_⟩
    rw [eqv_int]
  · cases h
    exact .inl ⟨_, _, rfl, rfl, rfl⟩
  · split at h
    · cases h
      rename_i hq
      exact .inr ⟨(Bool.and_eq_true_iff.mp hq).1, (Bool.and_eq_true_iff.mp hq).2, rfl⟩
    · cases h
abbrev rEqG (K : PySem.W.Frag) : R2 := fun x y H Q => rEq x y H Q ∨ rEqD K x y H Q
abbrev rNeG (K : PySem.W.Frag) : R2 := fun x y H Q => rNe x y H Q ∨ rNeD K x y H Q
theorem op_eqG (C : CtxOk X) : OpR X (compareOp .Eq) (rEqG X.K) := op_eq.or (op_eqD (by have := C.un; omega))
theorem op_neG (C : CtxOk X) : OpR X (compareOp .NotEq) (rNeG X.K) := op_ne.or (op_neD (by have := C.un; omega))
theorem d_eq : OpD X F (rEqG X.K) (eqS false) := fun G H σ ρ φ ts x y d e r Q I hx hy hg k => by
  rcases eqS_some hg with ⟨i, j, rfl, rfl, rfl⟩ | ⟨s1, s2, rfl⟩
  · rw [hx.str, hy.str]
    exact .inl ⟨rfl, k G H φ _ [] (I.pushD (by simp only [Bool.false_bne, V.str.injEq]; exact .bl _))⟩
  · exact .inr ⟨d, e, shaped_dp (hx.sh I.gh) s1, shaped_dp (hy.sh I.gh) s2, s1, s2, k G H φ _ [] (I.pushD (by rw [Bool.false_bne]; exact .bl _))⟩
theorem d_ne : OpD X F (rNeG X.K) (eqS true) := fun G H σ ρ φ ts x y d e r Q I hx hy hg k => by
  rcases eqS_some hg with ⟨i, j, rfl, rfl, rfl⟩ | ⟨s1, s2, rfl⟩
  · rw [hx.str, hy.str]
    exact .inl ⟨rfl, k G H φ _ [] (I.pushD (by simp only [Bool.true_bne, V.str.injEq]; exact .bl _))⟩
  · exact .inr ⟨d, e, shaped_dp (hx.sh I.gh) s1, shaped_dp (hy.sh I.gh) s2, s1, s2, k G H φ _ [] (I.pushD (by rw [Bool.true_bne]; exact .bl _))⟩
theorem c_eq (C : CtxOk X) (ha : DE X F a fa) (hb : DE X F b fb) : DE X F (.Compare a [.Eq] [b] pos) (binE (eqS false) fa fb) := c_cmp (op_eqG C) d_eq ha hb (nomark _)
theorem c_ne (C : CtxOk X) (ha : DE X F a fa) (hb : DE X F b fb) : DE X F (.Compare a [.NotEq] [b] pos) (binE (eqS true) fa fb) := c_cmp (op_neG C) d_ne ha hb (nomark _)
/-! ### minus -/
def unE (g : PyData → Option S) (fa : EE) : EE := fun ρ => (fa ρ).bind fun p => (view p.2 p.1).bind fun x => (g x).map fun r => (r, p.2)
theorem unE_some {g : PyData → Option S} {ρ ρ' : Env} {r : S} (h : unE g fa ρ = some (r, ρ')) : ∃ ra x, fa ρ = some (ra, ρ') ∧ view ρ' ra = some x ∧ g x = some r := by
  unfold unE at h
  obtain ⟨⟨ra, ρ1⟩, h1, h⟩ := Option.bind_eq_some_iff.mp h
  obtain ⟨x, h3, h⟩ := Option.bind_eq_some_iff.mp h
  obtain ⟨r', h5, h⟩ := Option.map_eq_some_iff.mp h
  cases h
  exact ⟨ra, x, h1, h3, h5⟩
def gNeg : PyData → Option S
  | .int i => some (.sh (.int (-i)))
  | _ => none
theorem c_neg (ha : DE X F a fa) : DE X F (.UnaryOp .USub a pos) (unE gNeg fa) := pe_imp (pe_un un_neg ha) fun σ H Q ⟨G, ρ, φ, ts, r, ρ', I, hf, k⟩ => by
  obtain ⟨ra, x, h1, h2, h3⟩ := unE_some hf
  refine ⟨G, ρ, φ, ts, ra, ρ', I, h1, fun G1 H1 φ1 va fpa I1 => ?_⟩
  have hx := I1.view I1.head h2
  unfold gNeg at h3
  split at h3
  · cases h3
    exact ⟨_, hx.int, k _ _ _ _ [] (I1.drop.pushD (.int _))⟩
  · cases h3

/-! ### tests -/
def truE (fa : EE) : BE := fun ρ => (fa ρ).bind fun p => match view p.2 p.1 with | some (.bool b) => some (b, p.2) | _ => none
theorem truE_some {ρ ρ' : Env} {b : Bool} (h : truE fa ρ = some (b, ρ')) : ∃ ra, fa ρ = some (ra, ρ') ∧ view ρ' ra = some (.bool b) := by
  unfold truE at h
  obtain ⟨⟨ra, ρ1⟩, h1, h⟩ := Option.bind_eq_some_iff.mp h
  split at h
  · cases h; exact ⟨ra, h1, ‹_›⟩
  · cases h
/-- an expression whose value is a bool, as a test -/
theorem b_val (ha : DE X F a fa) (he : ∀ whole, isTrue a X.env whole = (do let v ← whole; standAt a.pos; holding [v] (truthy v)) := by intro _; rfl) : DB X F a (truE fa) := pt_imp (pt_val ha he) fun σ H Q ⟨G, ρ, φ, ts, b, ρ', I, hf, k⟩ => by
  obtain ⟨ra, h1, h2⟩ := truE_some hf
  exact ⟨G, ρ, φ, ts, ra, ρ', I, h1, fun G1 H1 φ1 va fpa I1 => ⟨b, (I1.view I1.head h2).bl, k _ _ _ I1.drop⟩⟩
theorem b_cmpR {op : CmpOp} {rr : R2} {g : PyData → PyData → Option S} (ho : OpR X (compareOp op) rr) (hr : OpD X F rr g) (ha : DE X F a fa) (hb : DE X F b fb) (hm : behindInMarks op b = false) : DB X F (.Compare a [op] [b] pos) (truE (binE g fa fb)) :=
  pt_imp (pt_cmpR ho ha hb hm) fun σ H Q ⟨G, ρ, φ, ts, t, ρ', I, hf, k⟩ => by
    obtain ⟨ra, h1, h2⟩ := truE_some hf
    exact bin_run hr σ H _ ⟨G, ρ, φ, ts, ra, ρ', I, h1, fun G1 H1 φ1 va fpa I1 => ⟨t, (I1.view I1.head h2).bl, k _ _ _ I1.drop⟩⟩
def notB (f : BE) : BE := fun ρ => (f ρ).map fun p => (!p.1, p.2)
theorem b_not {t : BE} (h : DB X F a t) : DB X F (.UnaryOp .Not a pos) (notB t) := pt_imp (pt_not h) fun σ H Q ⟨G, ρ, φ, ts, b, ρ', I, hf, k⟩ => by
  unfold notB at hf
  obtain ⟨⟨b', ρ1⟩, h1, h⟩ := Option.map_eq_some_iff.mp hf
  cases h
  exact ⟨G, ρ, φ, ts, b', _, I, h1, k⟩
def andB (f g : BE) : BE := fun ρ => (f ρ).bind fun p => if p.1 = true then g p.2 else some (false, p.2)
def orB (f g : BE) : BE := fun ρ => (f ρ).bind fun p => if p.1 = true then some (true, p.2) else g p.2
abbrev DW (X : Cx) (F : Entry) (e : Expr) (f : BE) : Prop := PW X e (tB X.K F f)
theorem pw_imp {t t' : TT} (h : PW X e t) (k : ∀ σ H Q, t' σ H Q → t σ H Q) : PW X e t' := ⟨fun wh pins s σ H Q I w => h.run wh pins s σ H Q I (k σ H Q w)⟩
theorem w_and1 {t : BE} (h : DB X F a t) : DW X F (.BoolOp .And [a] pos) t := pw_and1 h
theorem w_or1 {t : BE} (h : DB X F a t) : DW X F (.BoolOp .Or [a] pos) t := pw_or1 h
theorem w_and {t u : BE} {rest : List Expr} (h : DB X F a t) (g : DW X F (.BoolOp .And (b :: rest) pos) u) : DW X F (.BoolOp .And (a :: b :: rest) pos) (andB t u) := pw_imp (pw_and h g) fun σ H Q ⟨G, ρ, φ, ts, r, ρ', I, hf, k⟩ => by
  unfold andB at hf
  obtain ⟨⟨b1, ρ1⟩, h1, h2⟩ := Option.bind_eq_some_iff.mp hf
  refine ⟨G, ρ, φ, ts, b1, ρ1, I, h1, fun G1 H1 φ1 I1 => ?_⟩
  cases b1 with
  | true => exact iteT ⟨G1, ρ1, φ1, ts, r, ρ', I1, h2, k⟩
  | false => cases h2; exact iteF (k _ _ _ I1)
theorem w_or {t u : BE} {rest : List Expr} (h : DB X F a t) (g : DW X F (.BoolOp .Or (b :: rest) pos) u) : DW X F (.BoolOp .Or (a :: b :: rest) pos) (orB t u) := pw_imp (pw_or h g) fun σ H Q ⟨G, ρ, φ, ts, r, ρ', I, hf, k⟩ => by
  unfold orB at hf
  obtain ⟨⟨b1, ρ1⟩, h1, h2⟩ := Option.bind_eq_some_iff.mp hf
  refine ⟨G, ρ, φ, ts, b1, ρ1, I, h1, fun G1 H1 φ1 I1 => ?_⟩
  cases b1 with
  | true => cases h2; exact iteT (k _ _ _ I1)
  | false => exact iteF ⟨G1, ρ1, φ1, ts, r, ρ', I1, h2, k⟩
theorem b_w {t : BE} (h : DW X F a t) : DB X F a t := h.pt

/-! ### and, or, not as values; a if t else b -/
def andE (f g : EE) : EE := fun ρ => (f ρ).bind fun p => match view p.2 p.1 with | some (.bool true) => g p.2 | some (.bool false) => some (.sh (.bool false), p.2) | _ => none
def orE (f g : EE) : EE := fun ρ => (f ρ).bind fun p => match view p.2 p.1 with | some (.bool false) => g p.2 | some (.bool true) => some (.sh (.bool true), p.2) | _ => none
theorem c_one {op : BoolOp} (h : DE X F a f) : DE X F (.BoolOp op [a] pos) f := pe_one h
theorem c_and {rest : List Expr} (ha : DE X F a fa) (hb : DE X F (.BoolOp .And (b :: rest) pos) fb) : DE X F (.BoolOp .And (a :: b :: rest) pos) (andE fa fb) := pe_imp (pe_and ha hb) fun σ H Q ⟨G, ρ, φ, ts, r, ρ', I, hf, k⟩ => by
  unfold andE at hf
  obtain ⟨⟨ra, ρ1⟩, h1, h2⟩ := Option.bind_eq_some_iff.mp hf
  refine ⟨G, ρ, φ, ts, ra, ρ1, I, h1, fun G1 H1 φ1 va fpa I1 => ?_⟩
  simp only at h2
  split at h2
  · refine ⟨true, (I1.view I1.head ‹_›).bl, iteT ⟨G1, ρ1, φ1, ts, r, ρ', I1.drop, h2, k⟩⟩
  · cases h2
    exact ⟨false, (I1.view I1.head ‹_›).bl, iteF (k _ _ _ _ [] (I1.drop.pushD (.bl _)))⟩
  · cases h2
theorem c_or {rest : List Expr} (ha : DE X F a fa) (hb : DE X F (.BoolOp .Or (b :: rest) pos) fb) : DE X F (.BoolOp .Or (a :: b :: rest) pos) (orE fa fb) := pe_imp (pe_or ha hb) fun σ H Q ⟨G, ρ, φ, ts, r, ρ', I, hf, k⟩ => by
  unfold orE at hf
  obtain ⟨⟨ra, ρ1⟩, h1, h2⟩ := Option.bind_eq_some_iff.mp hf
  refine ⟨G, ρ, φ, ts, ra, ρ1, I, h1, fun G1 H1 φ1 va fpa I1 => ?_⟩
  simp only at h2
  split at h2
  · refine ⟨false, (I1.view I1.head ‹_›).bl, iteF ⟨G1, ρ1, φ1, ts, r, ρ', I1.drop, h2, k⟩⟩
  · cases h2
    exact ⟨true, (I1.view I1.head ‹_›).bl, iteT (k _ _ _ _ [] (I1.drop.pushD (.bl _)))⟩
  · cases h2
def gNot : PyData → Option S
  | .bool b => some (.sh (.bool (!b)))
  | _ => none
theorem c_not (ha : DE X F a fa) (he : ∀ whole, isTrue a X.env whole = (do let v ← whole; standAt a.pos; holding [v] (truthy v)) := by intro _; rfl) : DE X F (.UnaryOp .Not a pos) (unE gNot fa) := pe_imp (pe_not ha) fun σ H Q ⟨G, ρ, φ, ts, r, ρ', I, hf, k⟩ => by
  obtain ⟨ra, x, h1, h2, h3⟩ := unE_some hf
  refine ⟨G, ρ, φ, ts, ra, ρ', I, h1, fun G1 H1 φ1 va fpa I1 => ?_⟩
  have hx := I1.view I1.head h2
  unfold gNot at h3
  split at h3
  · cases h3
    exact ⟨_, hx.bl, k _ _ _ _ [] (I1.drop.pushD (.bl _))⟩
  · cases h3
def ifE (t : BE) (f g : EE) : EE := fun ρ => (t ρ).bind fun p => if p.1 = true then f p.2 else g p.2
theorem c_if {t : BE} (ht : DB X F c t) (ha : DE X F a fa) (hb : DE X F b fb) : DE X F (.IfExp c a b pos) (ifE t fa fb) := pe_imp (pe_ifExp ht ha hb) fun σ H Q ⟨G, ρ, φ, ts, r, ρ', I, hf, k⟩ => by
  unfold ifE at hf
  obtain ⟨⟨b1, ρ1⟩, h1, h2⟩ := Option.bind_eq_some_iff.mp hf
  refine ⟨G, ρ, φ, ts, b1, ρ1, I, h1, fun G1 H1 φ1 I1 => ?_⟩
  cases b1 with
  | true => exact iteT ⟨G1, ρ1, φ1, ts, r, ρ', I1, h2, k⟩
  | false => exact iteF ⟨G1, ρ1, φ1, ts, r, ρ', I1, h2, k⟩
/-- a op1 b op2 c -/
def chainE (g g' : PyData → PyData → Option S) (fa fb fc : EE) : EE := fun ρ =>
  (fa ρ).bind fun p => (fb p.2).bind fun q => (view q.2 p.1).bind fun x => (view q.2 q.1).bind fun y => match g x y with
    | some (.sh (.bool true)) => (fc q.2).bind fun u => (view u.2 q.1).bind fun y' => (view u.2 u.1).bind fun z => (g' y' z).map fun r => (r, u.2)
    | some (.sh (.bool false)) => some (.sh (.bool false), q.2)
    | _ => none
theorem c_chain {op op' : CmpOp} {r r' : R2} {g g' : PyData → PyData → Option S} (ho : OpR X (compareOp op) r) (hr : OpD X F r g) (ho' : OpR X (compareOp op') r') (hr' : OpD X F r' g') (ha : DE X F a fa) (hb : DE X F b fb) (hc : DE X F c fc)
    (hm : lastMarks [op, op'] [b, c] = false := by with_unfolding_all rfl) : DE X F (.Compare a [op, op'] [b, c] pos) (chainE g g' fa fb fc) := pe_imp (pe_chain ho ho' ha hb hc hm) fun σ H Q ⟨G, ρ, φ, ts, s, ρ', I, hf, k⟩ => by
  unfold chainE at hf
  obtain ⟨⟨ra, ρ1⟩, h1, hf⟩ := Option.bind_eq_some_iff.mp hf
  obtain ⟨⟨rb, ρ2⟩, h2, hf⟩ := Option.bind_eq_some_iff.mp hf
  obtain ⟨x, h3, hf⟩ := Option.bind_eq_some_iff.mp hf
  obtain ⟨y, h4, hf⟩ := Option.bind_eq_some_iff.mp hf
  simp only at h2 h3 h4 hf
  refine ⟨G, ρ, φ, ts, ra, ρ1, I, h1, fun G1 H1 φ1 va fpa I1 => ⟨G1, ρ1, φ1, _, rb, ρ2, I1, h2, fun G2 H2 φ2 vb fpb I2 => ?_⟩⟩
  split at hf
  · rename_i hg
    obtain ⟨⟨rc, ρ3⟩, h5, hf⟩ := Option.bind_eq_some_iff.mp hf
    obtain ⟨y', h6, hf⟩ := Option.bind_eq_some_iff.mp hf
    obtain ⟨z, h7, hf⟩ := Option.bind_eq_some_iff.mp hf
    obtain ⟨s', h8, hf⟩ := Option.map_eq_some_iff.mp hf
    cases hf
    refine hr G2 H2 σ _ φ2 _ va vb x y _ _ I2 (I2.view I2.drop.head h3) (I2.view I2.head h4) hg fun G3 H3 φ3 v fp I3 => ⟨true, Sh.blv I3.head.2, iteT ?_⟩
    refine ⟨G3, ρ2, φ3, _, rc, ρ3, I3.drop, h5, fun G4 H4 φ4 vc fpc I4 => ?_⟩
    exact hr' G4 H4 σ ρ3 φ4 _ vb vc y' z s Q I4.drop.drop.drop (I4.view I4.drop.head h6) (I4.view I4.head h7) h8 k
  · rename_i hg
    cases hf
    refine hr G2 H2 σ _ φ2 _ va vb x y _ _ I2 (I2.view I2.drop.head h3) (I2.view I2.head h4) hg fun G3 H3 φ3 v fp I3 => ⟨false, Sh.blv I3.head.2, iteF ?_⟩
    exact k _ _ _ _ [] (I3.drop.drop.drop.pushD (.bl _))
  · cases hf
end
end Dn
namespace Dn
open PySem L2
/-! Part 4: arguments, displays, calls of built-in functions, items, slices -/

def ShWL (K : PySem.W.Frag) (G H : Hp) : List V → List PyData → Prop
  | [], [] => True
  | v :: vs, d :: ds => ShW K G H v d ∧ ShWL K G H vs ds
  | _, _ => False
def viewL (ρ : Env) : List S → Option (List PyData)
  | [] => some []
  | r :: rs => (view ρ r).bind fun d => (viewL ρ rs).map fun ds => d :: ds
/-- .. from the last one to the first -/
def frozeR : List S → Env → Option (List PyData × Env)
  | [], ρ => some ([], ρ)
  | r :: rs, ρ => (froze ρ r).bind fun p => (frozeR rs p.2).map fun q => (p.1 :: q.1, q.2)
def frozeL (rs : List S) (ρ : Env) : Option (List PyData × Env) := (frozeR rs.reverse ρ).map fun p => (p.1.reverse, p.2)

section
variable {K : PySem.W.Frag} {F : Entry} {G G' H H' : Hp} {σ σ' : L2.St} {ρ ρ' : Env} {φ φ' : Nat → List Addr} {ts : List Hd}
theorem Fm.dropN : ∀ {us : List Hd}, Fm K F G H σ ρ φ (us ++ ts) → Fm K F G H σ ρ φ ts
  | [], I => I
  | u :: us, I => Fm.dropN (us := us) (Fm.drop (t := u) (ts := us ++ ts) I)
theorem Fm.viewL {all : List Hd} (I : Fm K F G H σ ρ φ all) : ∀ {hs : List Hd} {ds : List PyData}, (∀ h ∈ hs, h ∈ all) → viewL ρ (hs.map Hd.s) = some ds → ShWL K G H (hs.map Hd.v) ds
  | [], ds, _, e => by
    cases e; exact True.intro
  | h :: hs, ds, hm, e => by
    simp only [List.map_cons, Dn.viewL] at e
    obtain ⟨d, h1, e⟩ := Option.bind_eq_some_iff.mp e
    obtain ⟨ds', h2, e⟩ := Option.map_eq_some_iff.mp e
    cases e
    exact ⟨I.view (I.tm h (hm h List.mem_cons_self)) h1, Fm.viewL I (fun x hx => hm x (List.mem_cons_of_mem _ hx)) h2⟩
theorem Fm.frozeR : ∀ {us : List Hd} {G : Hp} {ρ ρ' : Env} {φ : Nat → List Addr} {ds : List PyData}, Fm K F G H σ ρ φ (us ++ ts) → frozeR (us.map Hd.s) ρ = some (ds, ρ') →
    ∃ G' φ', Fm K F G' H σ ρ' φ' ts ∧ ShL K G' (us.map Hd.v) ds ∧ Le G G'
  | [], G, ρ, ρ', φ, ds, I, e => by
    cases e; exact ⟨G, φ, I, .nil, fun _ _ q => q⟩
  | u :: us, G, ρ, ρ', φ, ds, I, e => by
    simp only [List.map_cons, Dn.frozeR] at e
    obtain ⟨⟨d, ρ1⟩, h1, e⟩ := Option.bind_eq_some_iff.mp e
    obtain ⟨⟨ds', ρ2⟩, h2, e⟩ := Option.map_eq_some_iff.mp e
    cases e
    obtain ⟨G1, φ1, I1, l1⟩ := Fm.froze (t := u) (ts := us ++ ts) I h1
    have hd := I1.head.2
    obtain ⟨G2, φ2, I2, r2, l2⟩ := Fm.frozeR (us := us) I1.drop h2
    exact ⟨G2, φ2, I2, .cons (Sh.mono l2 hd) r2, fun a o q => l2 a o (l1 a o q)⟩
theorem Fm.frozeL {hs : List Hd} {ds : List PyData} (I : Fm K F G H σ ρ φ (hs.reverse ++ ts)) (e : frozeL (hs.map Hd.s) ρ = some (ds, ρ')) : ∃ G' φ', Fm K F G' H σ ρ' φ' ts ∧ ShL K G' (hs.map Hd.v) ds ∧ Le G G' := by
  unfold Dn.frozeL at e
  obtain ⟨⟨ds', ρ1⟩, h1, e⟩ := Option.map_eq_some_iff.mp e
  cases e
  rw [← List.map_reverse] at h1
  obtain ⟨G', φ', I', r, l⟩ := Fm.frozeR I h1
  refine ⟨G', φ', I', ?_, l⟩
  have q := r.reverse
  rwa [List.map_reverse, List.reverse_reverse] at q
end

section
variable {X : Cx} {F : Entry} {a b c e : Expr} {es : List Expr} {pos p : Pos} {fa fb fc f : EE} {ta : AE} {x : Str} {id T : String}

def nilA : AE := fun ρ => some ([], ρ)
def consA (f : EE) (g : AE) : AE := fun ρ => (f ρ).bind fun p => (g p.2).map fun q => (p.1 :: q.1, q.2)
theorem c_nil : DAs X F [] nilA := pa_imp pa_nil fun σ H Q ⟨G, ρ, φ, ts, rs, ρ', I, hf, k⟩ => by
  cases hf
  exact k G H φ [] rfl I
theorem c_cons (ha : DE X F e f) (hr : DAs X F es ta) (hs : starEach (e :: es) X.env = (false, eval e X.env) :: starEach es X.env := by rfl) : DAs X F (e :: es) (consA f ta) := pa_imp (pa_cons ha hr hs) fun σ H Q ⟨G, ρ, φ, ts, rs, ρ', I, hf, k⟩ => by
  unfold consA at hf
  obtain ⟨⟨ra, ρ1⟩, h1, hf⟩ := Option.bind_eq_some_iff.mp hf
  obtain ⟨⟨rs', ρ2⟩, h2, hf⟩ := Option.map_eq_some_iff.mp hf
  cases hf
  refine ⟨G, ρ, φ, ts, ra, ρ1, I, h1, fun G1 H1 φ1 va fpa I1 => ⟨G1, ρ1, φ1, _, rs', _, I1, h2, fun G2 H2 φ2 hs e2 I2 => ?_⟩⟩
  refine k G2 H2 φ2 (⟨va, ra, fpa⟩ :: hs) (by rw [List.map_cons, e2]) ?_
  rw [List.reverse_cons, List.append_assoc]
  exact I2

/-! ### displays -/
def tupE (ta : AE) : EE := fun ρ => (ta ρ).bind fun p => (frozeL p.1 p.2).bind fun q => if q.1.length ≤ 1000000 then some (.sh (.tuple q.1), q.2) else none
def lstE (ta : AE) : EE := fun ρ => (ta ρ).bind fun p => (frozeL p.1 p.2).bind fun q => if q.1.length ≤ 1000000 then some (.ls q.1, q.2) else none
theorem c_tup {x1 : Nat} (h : DAs X F es ta) : DE X F (.Tuple es x1 pos) (tupE ta) := pe_imp (pe_tup h) fun σ H Q ⟨G, ρ, φ, ts, r, ρ', I, hf, k⟩ => by
  unfold tupE at hf
  obtain ⟨⟨rs, ρ1⟩, h1, hf⟩ := Option.bind_eq_some_iff.mp hf
  obtain ⟨⟨ds, ρ2⟩, h2, hf⟩ := Option.bind_eq_some_iff.mp hf
  simp only at h2 hf
  split at hf
  · rename_i hz
    cases hf
    refine ⟨G, ρ, φ, ts, rs, ρ1, I, h1, fun G1 H1 φ1 hs e1 I1 => ?_⟩
    subst e1
    obtain ⟨G2, φ2, I2, r2, _⟩ := I1.frozeL h2
    refine ⟨?_, fun p hp => k _ _ φ2 _ _ (I2.newT hp r2)⟩
    rw [r2.length]
    exact Nat.le_trans hz line_big
  · cases hf
theorem c_lst (h : DAs X F es ta) : DE X F (.List es pos) (lstE ta) := pe_imp (pe_lst h) fun σ H Q ⟨G, ρ, φ, ts, r, ρ', I, hf, k⟩ => by
  unfold lstE at hf
  obtain ⟨⟨rs, ρ1⟩, h1, hf⟩ := Option.bind_eq_some_iff.mp hf
  obtain ⟨⟨ds, ρ2⟩, h2, hf⟩ := Option.bind_eq_some_iff.mp hf
  simp only at h2 hf
  split at hf
  · rename_i hz
    cases hf
    refine ⟨G, ρ, φ, ts, rs, ρ1, I, h1, fun G1 H1 φ1 hs e1 I1 => ?_⟩
    subst e1
    obtain ⟨G2, φ2, I2, r2, _⟩ := I1.frozeL h2
    refine ⟨?_, fun p hp => k _ _ φ2 _ _ (I2.newL hp r2)⟩
    rw [r2.length]
    exact Nat.le_trans hz line_big
  · cases hf

/-! ### calls of built-in functions -/
def callE (g : List PyData → Option S) (ta : AE) : EE := fun ρ => (ta ρ).bind fun p => (viewL p.2 p.1).bind fun ds => (g ds).map fun r => (r, p.2)
def CaD (X : Cx) (F : Entry) (rr : List V → Hp → VK → Prop) (g : List PyData → Option S) : Prop :=
  ∀ G H σ ρ φ ts vs ds r (Q : VK), Fm X.K F G H σ ρ φ ts → ShWL X.K G H vs ds → g ds = some r → (∀ G' H' φ' v fp, Fm X.K F G' H' σ ρ φ' (⟨v, r, fp⟩ :: ts) → Q v H') → rr vs H Q
theorem call_run {rr : List V → Hp → VK → Prop} {g : List PyData → Option S} (hr : CaD X F rr g) : ∀ σ H Q, tE X.K F (callE g ta) σ H Q → tCB rr (tAs X.K F ta) σ H Q := fun σ H Q ⟨G, ρ, φ, ts, r, ρ', I, hf, k⟩ => by
  unfold callE at hf
  obtain ⟨⟨rs, ρ1⟩, h1, hf⟩ := Option.bind_eq_some_iff.mp hf
  obtain ⟨ds, h2, hf⟩ := Option.bind_eq_some_iff.mp hf
  obtain ⟨r', h3, hf⟩ := Option.map_eq_some_iff.mp hf
  cases hf
  refine ⟨G, ρ, φ, ts, rs, _, I, h1, fun G1 H1 φ1 hs e1 I1 => ?_⟩
  subst e1
  exact hr G1 H1 σ _ φ1 ts _ ds r Q I1.dropN (I1.viewL (fun h hm => List.mem_append_left _ (List.mem_reverse.mpr hm)) h2) h3 k
theorem c_callB {rr : List V → Hp → VK → Prop} {g : List PyData → Option S} (hc : CallR X (.builtin id) rr) (hr : CaD X F rr g) (hg : Gl X x) (hm : X.mg x = none) (hv : bootBuiltins x = some (.builtin id)) (ha : DAs X F (e :: es) ta) (hn : x ≠ "__name__" := by decide)
    (hdb : (x == ("__debug__" : Str)) = false := by decide) (he : starEach (e :: es) X.env = (false, eval e X.env) :: starEach es X.env := by rfl) (hpl : (backTo pos (starEach es X.env)).any (·.1) = false := by rfl) :
    DE X F (.Call (.Name x p) (e :: es) [] pos) (callE g ta) := pe_imp (pe_callB hc hg hm hv ha hn hdb he hpl) (call_run hr)
theorem c_callTy {rr : List V → Hp → VK → Prop} {g : List PyData → Option S} (hc : CallR X (.type T) rr) (hr : CaD X F rr g) (hg : Gl X x) (hm : X.mg x = none) (hv : bootBuiltins x = some (.type T)) (ha : DAs X F (e :: es) ta) (hn : x ≠ "__name__" := by decide)
    (hdb : (x == ("__debug__" : Str)) = false := by decide) (he : starEach (e :: es) X.env = (false, eval e X.env) :: starEach es X.env := by rfl) (hpl : (backTo pos (starEach es X.env)).any (·.1) = false := by rfl) :
    DE X F (.Call (.Name x p) (e :: es) [] pos) (callE g ta) := pe_imp (pe_callTy hc hg hm hv ha hn hdb he hpl) (call_run hr)
theorem c_callG {rr : List V → Hp → VK → Prop} {g : List PyData → Option S} (hc : CallR X (.builtin id) rr) (hr : CaD X F rr g) (hg : Gl X x) (hm : X.mg x = some (.builtin id)) (ha : DAs X F (e :: es) ta)
    (hdb : (x == ("__debug__" : Str)) = false := by decide) (he : starEach (e :: es) X.env = (false, eval e X.env) :: starEach es X.env := by rfl) (hpl : (backTo pos (starEach es X.env)).any (·.1) = false := by rfl) :
    DE X F (.Call (.Name x p) (e :: es) [] pos) (callE g ta) := pe_imp (pe_callBfun hc hg hm ha hdb he hpl) (call_run hr)

theorem shwl1 {K : PySem.W.Frag} {G H : Hp} {vs : List V} {d : PyData} (h : ShWL K G H vs [d]) : ∃ v, vs = [v] ∧ ShW K G H v d := by
  cases vs with
  | nil => exact h.elim
  | cons v vs =>
    cases vs with
    | nil => exact ⟨v, rfl, h.1⟩
    | cons _ _ => exact h.2.elim
theorem shwl2 {K : PySem.W.Frag} {G H : Hp} {vs : List V} {d e : PyData} (h : ShWL K G H vs [d, e]) : ∃ v w, vs = [v, w] ∧ ShW K G H v d ∧ ShW K G H w e := by
  cases vs with
  | nil => exact h.elim
  | cons v vs =>
    obtain ⟨w, rfl, h2⟩ := shwl1 h.2
    exact ⟨v, w, rfl, h.1, h2⟩

/-- an item's list as ints -/
def intsOf : List PyData → Option (List Int)
  | [] => some []
  | .int i :: ds => (intsOf ds).map fun is => i :: is
  | _ => none
theorem intsOf_some : ∀ {ds : List PyData} {ns : List Int}, intsOf ds = some ns → ds = ns.map PyData.int
  | [], ns, h => by cases h; rfl
  | .int i :: ds, ns, h => by
    simp only [intsOf] at h
    obtain ⟨is, h1, h2⟩ := Option.map_eq_some_iff.mp h
    cases h2
    rw [List.map_cons, intsOf_some h1]
  | .none :: ds, ns, h => by cases h
  | .bool _ :: ds, ns, h => by cases h
  | .str _ :: ds, ns, h => by cases h
  | .list _ :: ds, ns, h => by cases h
  | .tuple _ :: ds, ns, h => by cases h
  | .dict _ :: ds, ns, h => by cases h

def gLen : List PyData → Option S
  | [.list xs] => some (.sh (.int xs.length))
  | [.tuple xs] => some (.sh (.int xs.length))
  | [.str x] => if x.length ≤ 1000000 then some (.sh (.int x.length)) else none
  | _ => none
theorem ca_len : CaD X F (fun xs H Q => ∃ x n, xs = [x] ∧ LenV X.K x H n ∧ Q (.int n) H) gLen := by
  intro G H σ ρ φ ts vs ds r Q I hw hg k
  unfold gLen at hg
  split at hg
  · cases hg
    obtain ⟨v, rfl, h⟩ := shwl1 hw
    obtain ⟨q, us, rfl, h1, r1⟩ := h.list I.gh
    exact ⟨_, us.length, rfl, .inl ⟨us, SqL.of h1, rfl⟩, k _ _ _ _ [] (I.pushD (by rw [r1.length]; exact .int _))⟩
  · cases hg
    obtain ⟨v, rfl, h⟩ := shwl1 hw
    obtain ⟨q, us, rfl, h1, r1⟩ := h.tup
    exact ⟨_, us.length, rfl, .inr ⟨us, Le.sqT I.gh h1, rfl⟩, k _ _ _ _ [] (I.pushD (by rw [r1.length]; exact .int _))⟩
  · split at hg
    · cases hg
      obtain ⟨v, rfl, h⟩ := shwl1 hw
      rw [h.str]
      exact ⟨_, _, rfl, ⟨Nat.le_trans ‹_› line_big, rfl⟩, k _ _ _ _ [] (I.pushD (.int _))⟩
    · cases hg
  · cases hg
def gInt1 : List PyData → Option S
  | [.int i] => some (.sh (.int i))
  | [.bool b] => some (.sh (.int (if b then 1 else 0)))
  | _ => none
theorem ca_int : CaD X F (fun xs H Q => (∃ i, xs = [.int i] ∧ Q (.int i) H) ∨ ∃ k, xs = [.bl k] ∧ Q (.int (if k then 1 else 0)) H) gInt1 := by
  intro G H σ ρ φ ts vs ds r Q I hw hg k
  unfold gInt1 at hg
  split at hg
  · cases hg
    obtain ⟨v, rfl, h⟩ := shwl1 hw
    rw [h.int]
    exact .inl ⟨_, rfl, k _ _ _ _ [] (I.pushD (.int _))⟩
  · cases hg
    obtain ⟨v, rfl, h⟩ := shwl1 hw
    rw [h.bl]
    exact .inr ⟨_, rfl, k _ _ _ _ [] (I.pushD (.int _))⟩
  · cases hg
def gAbs : List PyData → Option S
  | [.int i] => some (.sh (.int (if i < 0 then -i else i)))
  | _ => none
theorem ca_abs : CaD X F (fun xs H Q => ∃ i, xs = [.int i] ∧ Q (.int (if i < 0 then -i else i)) H) gAbs := by
  intro G H σ ρ φ ts vs ds r Q I hw hg k
  unfold gAbs at hg
  split at hg
  · cases hg
    obtain ⟨v, rfl, h⟩ := shwl1 hw
    rw [h.int]
    exact ⟨_, rfl, k _ _ _ _ [] (I.pushD (.int _))⟩
  · cases hg
def gMax2 : List PyData → Option S
  | [.int i, .int j] => some (.sh (.int (if j > i then j else i)))
  | _ => none
def gMin2 : List PyData → Option S
  | [.int i, .int j] => some (.sh (.int (if j < i then j else i)))
  | _ => none
theorem ca_max2 : CaD X F (fun xs H Q => ∃ i j, xs = [.int i, .int j] ∧ Q (.int (if j > i then j else i)) H) gMax2 := by
  intro G H σ ρ φ ts vs ds r Q I hw hg k
  unfold gMax2 at hg
  split at hg
  · cases hg
    obtain ⟨v, w, rfl, h1, h2⟩ := shwl2 hw
    rw [h1.int, h2.int]
    exact ⟨_, _, rfl, k _ _ _ _ [] (I.pushD (.int _))⟩
  · cases hg
theorem ca_min2 : CaD X F (fun xs H Q => ∃ i j, xs = [.int i, .int j] ∧ Q (.int (if j < i then j else i)) H) gMin2 := by
  intro G H σ ρ φ ts vs ds r Q I hw hg k
  unfold gMin2 at hg
  split at hg
  · cases hg
    obtain ⟨v, w, rfl, h1, h2⟩ := shwl2 hw
    rw [h1.int, h2.int]
    exact ⟨_, _, rfl, k _ _ _ _ [] (I.pushD (.int _))⟩
  · cases hg
def gGcd : List PyData → Option S
  | [.int i, .int j] => some (.sh (.int ((Nat.gcd i.natAbs j.natAbs : Nat) : Int)))
  | _ => none
theorem ca_gcd : CaD X F rGcd gGcd := by
  intro G H σ ρ φ ts vs ds r Q I hw hg k
  unfold gGcd at hg
  split at hg
  · cases hg
    obtain ⟨v, w, rfl, h1, h2⟩ := shwl2 hw
    rw [h1.int, h2.int]
    exact ⟨_, _, rfl, k _ _ _ _ [] (I.pushD (.int _))⟩
  · cases hg
def gSum : List PyData → Option S
  | [.list xs] => (intsOf xs).map fun ns => .sh (.int ns.sum)
  | _ => none
theorem ca_sum : CaD X F (rSum X.K) gSum := by
  intro G H σ ρ φ ts vs ds r Q I hw hg k
  unfold gSum at hg
  split at hg
  · obtain ⟨ns, h1, h2⟩ := Option.map_eq_some_iff.mp hg
    cases h2
    obtain ⟨v, rfl, h⟩ := shwl1 hw
    obtain ⟨q, us, rfl, h3, r1⟩ := h.list I.gh
    rw [intsOf_some h1] at r1
    rw [r1.ints] at h3
    exact ⟨_, ns, rfl, SqL.of h3, k _ _ _ _ [] (I.pushD (.int _))⟩
  · cases hg
def maxI : List Int → Int
  | [] => 0
  | [x] => x
  | x :: xs => if maxI xs ≤ x then x else maxI xs
def minI : List Int → Int
  | [] => 0
  | [x] => x
  | x :: xs => if x ≤ minI xs then x else minI xs
theorem maxI_spec : ∀ xs : List Int, xs ≠ [] → maxI xs ∈ xs ∧ ∀ y ∈ xs, y ≤ maxI xs
  | [], h => absurd rfl h
  | [x], _ => ⟨by simp [maxI], fun y hy => by simp at hy; simp [maxI, hy]⟩
  | x :: z :: xs, _ => by
    obtain ⟨h1, h2⟩ := maxI_spec (z :: xs) (by simp)
    rw [show maxI (x :: z :: xs) = if maxI (z :: xs) ≤ x then x else maxI (z :: xs) from rfl]
    split
    · refine ⟨List.mem_cons_self, fun y hy => ?_⟩
      rcases List.mem_cons.mp hy with e | e
      · omega
      · have := h2 y e; omega
    · refine ⟨List.mem_cons_of_mem _ h1, fun y hy => ?_⟩
      rcases List.mem_cons.mp hy with e | e
      · omega
      · exact h2 y e
theorem minI_spec : ∀ xs : List Int, xs ≠ [] → minI xs ∈ xs ∧ ∀ y ∈ xs, minI xs ≤ y
  | [], h => absurd rfl h
  | [x], _ => ⟨by simp [minI], fun y hy => by simp at hy; simp [minI, hy]⟩
  | x :: z :: xs, _ => by
    obtain ⟨h1, h2⟩ := minI_spec (z :: xs) (by simp)
    rw [show minI (x :: z :: xs) = if x ≤ minI (z :: xs) then x else minI (z :: xs) from rfl]
    split
    · refine ⟨List.mem_cons_self, fun y hy => ?_⟩
      rcases List.mem_cons.mp hy with e | e
      · omega
      · have := h2 y e; omega
    · refine ⟨List.mem_cons_of_mem _ h1, fun y hy => ?_⟩
      rcases List.mem_cons.mp hy with e | e
      · omega
      · exact h2 y e
def gMax : List PyData → Option S
  | [.list (x :: xs)] => (intsOf (x :: xs)).map fun ns => .sh (.int (maxI ns))
  | _ => none
def gMin : List PyData → Option S
  | [.list (x :: xs)] => (intsOf (x :: xs)).map fun ns => .sh (.int (minI ns))
  | _ => none
theorem ca_max : CaD X F (rMax X.K) gMax := by
  intro G H σ ρ φ ts vs ds r Q I hw hg k
  unfold gMax at hg
  split at hg
  · obtain ⟨ns, h1, h2⟩ := Option.map_eq_some_iff.mp hg
    cases h2
    obtain ⟨v, rfl, h⟩ := shwl1 hw
    obtain ⟨q, us, rfl, h3, r1⟩ := h.list I.gh
    have e := intsOf_some h1
    rw [e] at r1
    rw [r1.ints] at h3
    have ne : ns ≠ [] := fun z => by rw [z] at e; cases e
    obtain ⟨m1, m2⟩ := maxI_spec ns ne
    refine ⟨_, ns, rfl, SqL.of h3, List.length_pos_iff.mpr ne, fun m hm hy => ?_⟩
    have em : m = maxI ns := Int.le_antisymm (m2 m hm) (hy _ m1)
    rw [em]
    exact k _ _ _ _ [] (I.pushD (.int _))
  · cases hg
theorem ca_min : CaD X F (rMin X.K) gMin := by
  intro G H σ ρ φ ts vs ds r Q I hw hg k
  unfold gMin at hg
  split at hg
  · obtain ⟨ns, h1, h2⟩ := Option.map_eq_some_iff.mp hg
    cases h2
    obtain ⟨v, rfl, h⟩ := shwl1 hw
    obtain ⟨q, us, rfl, h3, r1⟩ := h.list I.gh
    have e := intsOf_some h1
    rw [e] at r1
    rw [r1.ints] at h3
    have ne : ns ≠ [] := fun z => by rw [z] at e; cases e
    obtain ⟨m1, m2⟩ := minI_spec ns ne
    refine ⟨_, ns, rfl, SqL.of h3, List.length_pos_iff.mpr ne, fun m hm hy => ?_⟩
    have em : m = minI ns := Int.le_antisymm (hy _ m1) (m2 m hm)
    rw [em]
    exact k _ _ _ _ [] (I.pushD (.int _))
  · cases hg
def gTuple : List PyData → Option S
  | [.list xs] => some (.sh (.tuple xs))
  | [.tuple xs] => some (.sh (.tuple xs))
  | _ => none
theorem ca_tuple : CaD X F (fun xs H Q => ∃ p ys, xs = [.ref p] ∧ ((SqL X.K H p ys ∧ ∀ l, H l = none → Q (.ref l) (upd H l (.tup ys))) ∨ (SqT X.K H p ys ∧ Q (.ref p) H))) gTuple := by
  intro G H σ ρ φ ts vs ds r Q I hw hg k
  unfold gTuple at hg
  split at hg
  · cases hg
    obtain ⟨v, rfl, h⟩ := shwl1 hw
    obtain ⟨q, us, rfl, h3, r1⟩ := h.list I.gh
    exact ⟨_, us, rfl, .inl ⟨SqL.of h3, fun l hl => k _ _ φ _ _ (I.newT hl r1)⟩⟩
  · cases hg
    obtain ⟨v, rfl, h⟩ := shwl1 hw
    obtain ⟨q, us, rfl, h3, r1⟩ := h.tup
    exact ⟨_, us, rfl, .inr ⟨Le.sqT I.gh h3, k _ _ φ _ [] (I.pushD (.tup h3 r1))⟩⟩
  · cases hg
def gList : List PyData → Option S
  | [.list xs] => some (.ls xs)
  | [.tuple xs] => some (.ls xs)
  | _ => none
theorem ca_list : CaD X F (fun xs H Q => ∃ p ys, xs = [.ref p] ∧ (SqL X.K H p ys ∨ SqT X.K H p ys) ∧ ∀ l, H l = none → Q (.ref l) (upd H l (.lst ys))) gList := by
  intro G H σ ρ φ ts vs ds r Q I hw hg k
  unfold gList at hg
  split at hg
  · cases hg
    obtain ⟨v, rfl, h⟩ := shwl1 hw
    obtain ⟨q, us, rfl, h3, r1⟩ := h.list I.gh
    exact ⟨_, us, rfl, .inl (SqL.of h3), fun l hl => k _ _ φ _ _ (I.newL hl r1)⟩
  · cases hg
    obtain ⟨v, rfl, h⟩ := shwl1 hw
    obtain ⟨q, us, rfl, h3, r1⟩ := h.tup
    exact ⟨_, us, rfl, .inr (Le.sqT I.gh h3), fun l hl => k _ _ φ _ _ (I.newL hl r1)⟩
  · cases hg

/-! ### repr -/
mutual
def smallD : PyData → Bool
  | .none | .bool _ => true
  | .int i => decide (i.natAbs.log2 < 600)
  | .str x => x.cps.toList.all fun c => decide (c < 16 ^ 8)
  | .list xs | .tuple xs => smallAll xs
  | .dict _ => false
def smallAll : List PyData → Bool
  | [] => true
  | x :: xs => smallD x && smallAll xs
end
mutual
theorem small_leaves : ∀ d : PyData, smallD d = true → d.leavesShort 604 = true ∧ d.showable = true
  | .none, _ => ⟨rfl, rfl⟩
  | .bool _, _ => ⟨rfl, rfl⟩
  | .int i, h => by
    have h' : i.natAbs.log2 < 600 := of_decide_eq_true (by simpa [smallD] using h)
    refine ⟨?_, ?_⟩
    · simp only [PyData.leavesShort]
      refine decide_eq_true ?_
      show (Str.ofString (toString i)).length ≤ 604
      rw [ofString_length]
      exact Nat.le_trans (int_text_length_le (k := 600) (by decide) h') (show 600 + 1 ≤ 604 by decide)
    · simp only [PyData.showable, decide_eq_true_eq]
      omega
  | .str x, h => ⟨by simpa [PyData.leavesShort, smallD] using h, rfl⟩
  | .list xs, h => by
    obtain ⟨h1, h2⟩ := small_leavesAll xs (by simpa [smallD] using h)
    exact ⟨by simpa [PyData.leavesShort] using h1, by simpa [PyData.showable] using h2⟩
  | .tuple xs, h => by
    obtain ⟨h1, h2⟩ := small_leavesAll xs (by simpa [smallD] using h)
    exact ⟨by simpa [PyData.leavesShort] using h1, by simpa [PyData.showable] using h2⟩
  | .dict _, h => by simp [smallD] at h
theorem small_leavesAll : ∀ xs : List PyData, smallAll xs = true → PyData.leavesShortAll 604 xs = true ∧ PyData.showableAll xs = true
  | [], _ => ⟨rfl, rfl⟩
  | x :: xs, h => by
    have h' : smallD x = true ∧ smallAll xs = true := by simpa [smallAll] using h
    obtain ⟨a1, a2⟩ := small_leaves x h'.1
    obtain ⟨b1, b2⟩ := small_leavesAll xs h'.2
    exact ⟨by simp [PyData.leavesShortAll, a1, b1], by simp [PyData.showableAll, a2, b2]⟩
end
def reprOk (d : PyData) : Bool := smallD d && d.canLay0 && decide (d.depth ≤ 50) && decide (d.weight ≤ 20000)
def gRepr : List PyData → Option S
  | [d] => if reprOk d = true then some (.sh (.str d.shown)) else none
  | _ => none
def rRepr (K : PySem.W.Frag) : List V → Hp → VK → Prop := fun vs H Q => ∃ v d, vs = [v] ∧ Sh K H v d ∧ reprOk d = true ∧ Q (.str d.shown) H
theorem call_repr (C : CtxOk X) : CallR X (.builtin "repr") (rRepr X.K) := by
  intro pins s σ H xs us Q I r h
  obtain ⟨v, d, rfl, hs, ok, q⟩ := h
  obtain ⟨u, rfl, rx⟩ := vals1 r
  unfold reprOk at ok
  simp only [Bool.and_eq_true, decide_eq_true_eq] at ok
  obtain ⟨⟨⟨o1, o2⟩, o3⟩, o4⟩ := ok
  obtain ⟨l1, l2⟩ := small_leaves d o1
  have hsz : d.shown.length ≤ sizeLine := by
    have h1 := PyData.shown_le 604 (by decide) d l1
    have h2 : sizeLine = 16777216 := sizeLine_eq
    omega
  obtain ⟨as, rd⟩ := Dp.reads I d v u (hs.dp o2) rx
  cases hs with
  | non => cases rx; exact PySem.P.repr_of_none ⟨.str _, H, I.tok _, ⟨_, rfl⟩, q⟩
  | bl b =>
    cases rx
    refine PySem.P.repr_of_bool ⟨.str _, H, I.tok _, ⟨s.toks, rfl⟩, ?_⟩
    cases b <;> exact q
  | int i =>
    obtain ⟨t, rfl⟩ := rx
    exact PySem.P.repr_of_int (by simpa [PyData.showable] using l2) ⟨.str _, H, I.tok _, ⟨_, rfl⟩, q⟩
  | str x =>
    obtain ⟨t, rfl⟩ := rx
    exact PySem.P.repr_of_str ⟨.str _, H, I.tok _, ⟨_, rfl⟩, q⟩ hsz
  | lst h1 h2 =>
    cases rx
    exact repr_of_reads' rd l2 (PyData.noDict_hsm (PyData.hasDict_of_canLay _ o2)) C.gd (by have := C.un; omega) (fun _ _ e => e) (fun h' u tk kk => ⟨.str _, H, I.kept kk, ⟨_, rfl⟩, q⟩) hsz
  | tup h1 h2 =>
    cases rx
    exact repr_of_reads' rd l2 (PyData.noDict_hsm (PyData.hasDict_of_canLay _ o2)) C.gd (by have := C.un; omega) (fun _ _ e => e) (fun h' u tk kk => ⟨.str _, H, I.kept kk, ⟨_, rfl⟩, q⟩) hsz
  | dkk _ _ _ => simp [PyData.canLay0] at o2
  | dtt _ _ _ => simp [PyData.canLay0] at o2
theorem ca_repr : CaD X F (rRepr X.K) gRepr := by
  intro G H σ ρ φ ts vs ds r Q I hw hg k
  unfold gRepr at hg
  split at hg
  · split at hg
    · cases hg
      obtain ⟨v, rfl, h⟩ := shwl1 hw
      exact ⟨v, _, rfl, h.sh I.gh, ‹_›, k _ _ _ _ [] (I.pushD (.str _))⟩
    · cases hg
  · cases hg

/-! ### isinstance -/
def tyN : PyData → String
  | .none => "NoneType"
  | .bool _ => "bool"
  | .int _ => "int"
  | .str _ => "str"
  | .list _ => "list"
  | .tuple _ => "tuple"
  | .dict _ => "dict"
theorem Sh.ty {K : PySem.W.Frag} {H : Hp} {v : V} {d : PyData} (h : Sh K H v d) : TyX K H v (.type (tyN d)) := by
  cases h with
  | non => exact .base .non
  | bl b => exact .base (.bl b)
  | int i => exact .base (.int i)
  | str x => exact .base (.str x)
  | lst h _ => exact .base (.lst h)
  | tup h _ =>
    rcases h with (h | ⟨o, h⟩) | ⟨o, its, n, hk, hc, _⟩
    · exact .base (.tup h)
    · exact .fTuple h
    · exact .kTuple hk hc
  | dkk h _ _ => exact .base (.dK h)
  | dtt h _ _ => exact .base (.dT h)
def isT (T : String) (d : PyData) : Bool := (kitB (tyN d) T).getD false
/-- isinstance(e, T) for a built-in type T -/
def isiE (p : PyData → Bool) (fa : EE) : EE := unE (fun d => some (.sh (.bool (p d)))) fa
theorem c_isi {p1 p2 p3 : Pos} {T : String} {y : Str} {pr : PyData → Bool} (hp : ∀ d, kitB (tyN d) T = some (pr d)) (hg : Gl X "isinstance") (hm : X.mg "isinstance" = none) (hgT : Gl X y) (hmT : X.mg y = none) (hvT : bootBuiltins y = some (.type T)) (ha : DE X F a fa)
    (hnT : y ≠ "__name__" := by decide) (hdT : (y == ("__debug__" : Str)) = false := by decide)
    (hs : starEach [a, .Name y p2] X.env = (false, eval a X.env) :: starEach [.Name y p2] X.env := by rfl) (hpl : (backTo p3 (starEach [.Name y p2] X.env)).any (·.1) = false := by rfl)
    (hs2 : starEach [.Name y p2] X.env = (false, eval (.Name y p2) X.env) :: starEach [] X.env := by rfl) :
    DE X F (.Call (.Name "isinstance" p1) [a, .Name y p2] [] p3) (isiE pr fa) :=
  pe_imp (pe_callB (pos := p3) call_isi hg hm (by decide +kernel) (pa_cons ha (pa_cons (pe_bltn hgT hmT hvT (v := .ty T) rfl hnT hdT) pa_nil hs2) hs) (by decide) (by decide) hs hpl) fun σ H Q ⟨G, ρ, φ, ts, r, ρ', I, hf, k⟩ => by
    obtain ⟨ra, x, h1, h2, h3⟩ := unE_some hf
    cases h3
    refine ⟨G, ρ, φ, ts, ra, ρ', I, h1, fun G1 H1 φ1 va fpa I1 => ?_⟩
    have hx := (I1.view I1.head h2).sh I1.gh
    exact ⟨va, .ty T, .type (tyN x), .type T, pr x, rfl, .ty T, hx.ty, kit_ty (hp x), k _ _ _ _ [] (I1.drop.pushD (.bl _))⟩
def isInt : PyData → Bool
  | .int _ | .bool _ => true
  | _ => false
def isBool : PyData → Bool
  | .bool _ => true
  | _ => false
def isTup : PyData → Bool
  | .tuple _ => true
  | _ => false
def isStr : PyData → Bool
  | .str _ => true
  | _ => false
def isLst : PyData → Bool
  | .list _ => true
  | _ => false
theorem kit_int : ∀ d : PyData, kitB (tyN d) "int" = some (isInt d)
  | .none => (by decide +kernel : kitB "NoneType" "int" = some false)
  | .bool _ => (by decide +kernel : kitB "bool" "int" = some true)
  | .int _ => (by decide +kernel : kitB "int" "int" = some true)
  | .str _ => (by decide +kernel : kitB "str" "int" = some false)
  | .list _ => (by decide +kernel : kitB "list" "int" = some false)
  | .tuple _ => (by decide +kernel : kitB "tuple" "int" = some false)
  | .dict _ => (by decide +kernel : kitB "dict" "int" = some false)
theorem kit_bool : ∀ d : PyData, kitB (tyN d) "bool" = some (isBool d)
  | .none => (by decide +kernel : kitB "NoneType" "bool" = some false)
  | .bool _ => (by decide +kernel : kitB "bool" "bool" = some true)
  | .int _ => (by decide +kernel : kitB "int" "bool" = some false)
  | .str _ => (by decide +kernel : kitB "str" "bool" = some false)
  | .list _ => (by decide +kernel : kitB "list" "bool" = some false)
  | .tuple _ => (by decide +kernel : kitB "tuple" "bool" = some false)
  | .dict _ => (by decide +kernel : kitB "dict" "bool" = some false)
theorem kit_tuple : ∀ d : PyData, kitB (tyN d) "tuple" = some (isTup d)
  | .none => (by decide +kernel : kitB "NoneType" "tuple" = some false)
  | .bool _ => (by decide +kernel : kitB "bool" "tuple" = some false)
  | .int _ => (by decide +kernel : kitB "int" "tuple" = some false)
  | .str _ => (by decide +kernel : kitB "str" "tuple" = some false)
  | .list _ => (by decide +kernel : kitB "list" "tuple" = some false)
  | .tuple _ => (by decide +kernel : kitB "tuple" "tuple" = some true)
  | .dict _ => (by decide +kernel : kitB "dict" "tuple" = some false)
theorem kit_str : ∀ d : PyData, kitB (tyN d) "str" = some (isStr d)
  | .none => (by decide +kernel : kitB "NoneType" "str" = some false)
  | .bool _ => (by decide +kernel : kitB "bool" "str" = some false)
  | .int _ => (by decide +kernel : kitB "int" "str" = some false)
  | .str _ => (by decide +kernel : kitB "str" "str" = some true)
  | .list _ => (by decide +kernel : kitB "list" "str" = some false)
  | .tuple _ => (by decide +kernel : kitB "tuple" "str" = some false)
  | .dict _ => (by decide +kernel : kitB "dict" "str" = some false)
theorem kit_list : ∀ d : PyData, kitB (tyN d) "list" = some (isLst d)
  | .none => (by decide +kernel : kitB "NoneType" "list" = some false)
  | .bool _ => (by decide +kernel : kitB "bool" "list" = some false)
  | .int _ => (by decide +kernel : kitB "int" "list" = some false)
  | .str _ => (by decide +kernel : kitB "str" "list" = some false)
  | .list _ => (by decide +kernel : kitB "list" "list" = some true)
  | .tuple _ => (by decide +kernel : kitB "tuple" "list" = some false)
  | .dict _ => (by decide +kernel : kitB "dict" "list" = some false)

/-! ### items -/
theorem ShL.atI {K : PySem.W.Frag} {G : Hp} {vs : List V} {ds : List PyData} {i : Int} {d : PyData} (h : ShL K G vs ds) (e : atI ds i = some d) : ∃ v, atI vs i = some v ∧ Sh K G v d := by
  unfold L2.atI at e ⊢
  rw [h.length]
  cases q : ixN ds.length i with
  | none => rw [q] at e; cases e
  | some j =>
    rw [q] at e
    exact h.get' e
def gIx : PyData → PyData → Option S
  | .list xs, .int i => (atI xs i).map .sh
  | .tuple xs, .int i => (atI xs i).map .sh
  | _, _ => none
theorem d_ix : OpD X F (rIx X.K) gIx := by
  intro G H σ ρ φ ts x y d e r Q I hx hy hg k
  unfold gIx at hg
  split at hg
  · obtain ⟨d', h1, h2⟩ := Option.map_eq_some_iff.mp hg
    cases h2
    obtain ⟨p, us, rfl, h3, r1⟩ := hx.list I.gh
    obtain ⟨v, h4, h5⟩ := r1.atI h1
    exact .inl ⟨p, us, _, v, rfl, hy.int, SqL.of h3, h4, k _ _ φ _ [] (I.pushD h5)⟩
  · obtain ⟨d', h1, h2⟩ := Option.map_eq_some_iff.mp hg
    cases h2
    obtain ⟨p, us, rfl, h3, r1⟩ := hx.tup
    obtain ⟨v, h4, h5⟩ := r1.atI h1
    exact .inr (.inl ⟨p, us, _, v, rfl, hy.int, Le.sqT I.gh h3, h4, k _ _ φ _ [] (I.pushD h5)⟩)
  · cases hg
theorem c_ix (ha : DE X F a fa) (hb : DE X F b fb) (hs : PlainIx b) : DE X F (.Subscript a b pos) (binE gIx fa fb) := pe_imp (pe_ix ix_seq ha hb hs) (bin_run d_ix)
/-- xs[::-1] -/
def gRev : PyData → Option S
  | .list xs => some (.ls xs.reverse)
  | _ => none
theorem c_rev {k : Nat} {p1 p2 p3 : Pos} (ha : DE X F a fa) : DE X F (.Subscript a (.Slice none none (some (.UnaryOp .USub (.Constant (.int 1) k p1) p2)) p3) pos) (unE gRev fa) := pe_imp (pe_revL ha) fun σ H Q ⟨G, ρ, φ, ts, r, ρ', I, hf, k⟩ => by
  obtain ⟨ra, x, h1, h2, h3⟩ := unE_some hf
  refine ⟨G, ρ, φ, ts, ra, ρ', I, h1, fun G1 H1 φ1 va fpa I1 => ?_⟩
  have hx := I1.view I1.head h2
  unfold gRev at h3
  split at h3
  · cases h3
    obtain ⟨p, us, rfl, h4, r1⟩ := hx.list I1.gh
    exact ⟨p, us, rfl, SqL.of h4, fun q hq => k _ _ _ _ _ (I1.drop.newL hq r1.reverse)⟩
  · cases h3
end
end Dn
namespace Dn
open PySem L2
/-! Part 5: what is walked, targets, comprehensions -/

section
variable {K : PySem.W.Frag} {F : Entry} {G G' H H' : Hp} {σ σ' : L2.St} {ρ ρ' : Env} {φ φ' : Nat → List Addr} {ts : List Hd} {t : Hd}
/-- other slots' values may have changed -/
theorem Fm.sig (I : Fm K F G H σ ρ φ ts) (hl : σ'.length = σ.length) (h : ∀ (j : Nat) s, ρ[j]? = some (some s) → σ'[j]? = σ[j]?) (ht : ∀ t ∈ ts, ∀ j, t.s = .bor j → σ'[j]? = σ[j]?) : Fm K F G H σ' ρ φ ts :=
  ⟨I.gh, I.g0, I.h0, I.m0, I.nw, by rw [hl]; exact I.len, fun i s e => by
    obtain ⟨v, h1, h2⟩ := I.sl i s e
    exact ⟨v, by rw [h i s e]; exact h1, h2.slots fun k _ e' => absurd (by rw [e, e'] : ρ[i]? = some (some (.bor k))) (I.nb i k)⟩, I.nb, I.ph, I.dj, fun t hm => (I.tm t hm).slots fun k _ e => ht t hm k e, I.tp, I.md, I.tt⟩
/-- the list on top of what is on the way takes one more item -/
theorem Fm.more {p : Addr} {xs : List V} {ds : List PyData} {v : V} {d : PyData} (I : Fm K F G H σ ρ φ (⟨.ref p, .ls ds, [p]⟩ :: ts)) (r : Sh K G v d) (h : H p = some (.lst xs)) : Fm K F G (upd H p (.lst (xs ++ [v]))) σ ρ φ (⟨.ref p, .ls (ds ++ [d]), [p]⟩ :: ts) := by
  have hr := I.head
  obtain ⟨a, ys, e1, e2, h3, h4⟩ := hr
  simp only [V.ref.injEq] at e1
  subst e1
  rw [h] at h3
  cases h3
  obtain ⟨g, h0, hs⟩ := I.tp _ List.mem_cons_self p List.mem_cons_self
  have htt := (List.pairwise_cons.mp I.tt).1
  have J := I.drop
  have own : ∀ i b, b ∈ φ i → b ≠ p := fun i b hb z => hs i (by rw [← z]; exact hb)
  have ownT : ∀ u ∈ ts, ∀ b ∈ u.fp, b ≠ p := fun u hu b hb z => htt u hu p List.mem_cons_self (by rw [← z]; exact hb)
  have J' : Fm K F G (upd H p (.lst (xs ++ [v]))) σ ρ φ ts := by
    refine ⟨fun b u e => ?_, J.g0, fun b u e hm => ?_, fun b hm => ?_, J.nw, J.len, fun i s e => ?_, J.nb, fun i b hb => ?_, J.dj, fun u hu => ?_, J.tp, J.md, J.tt⟩
    · rw [upd_ne (show b ≠ p from fun z => by rw [z, g] at e; cases e)]; exact J.gh b u e
    · rw [upd_ne (show b ≠ p from fun z => by rw [z, h0] at e; cases e)]; exact J.h0 b u e hm
    · by_cases z : b = p
      · rw [z, upd_same]; simp
      · rw [upd_ne z]; exact J.m0 b hm
    · obtain ⟨w, h1, h2⟩ := J.sl i s e
      exact ⟨w, h1, h2.mono (fun _ _ q => q) fun b hb => upd_ne (own i b hb)⟩
    · obtain ⟨q1, q2, q3⟩ := J.ph i b hb
      exact ⟨q1, by rw [upd_ne (own i b hb)]; exact q2, q3⟩
    · exact (J.tm u hu).mono (fun _ _ q => q) fun b hb => upd_ne (ownT u hu b hb)
  exact J'.push ⟨p, _, rfl, rfl, upd_same, h4.append (.cons r .nil)⟩ fun b hb => by
    rw [List.mem_singleton.mp hb]
    exact ⟨g, h0, hs, fun u hu => htt u hu p List.mem_cons_self⟩
theorem Fm.list (I : Fm K F G H σ ρ φ (t :: ts)) {p : Addr} {ds : List PyData} (e : t = ⟨.ref p, .ls ds, [p]⟩) : ∃ xs, H p = some (.lst xs) ∧ ShL K G xs ds := by
  subst e
  obtain ⟨a, xs, h1, h2, h3, h4⟩ := I.head
  simp only [V.ref.injEq] at h1
  subst h1
  exact ⟨xs, h3, h4⟩
/-- the second one on top is dropped -/
theorem Fm.drop2 {u : Hd} (I : Fm K F G H σ ρ φ (t :: u :: ts)) : Fm K F G H σ ρ φ (t :: ts) := by
  have h := List.pairwise_cons.mp I.tt
  have h2 := List.pairwise_cons.mp h.2
  exact I.drop.drop.push I.head fun a ha =>
    have q := I.tp t List.mem_cons_self a ha
    ⟨q.1, q.2.1, q.2.2, fun w hw => h.1 w (List.mem_cons_of_mem _ hw) a ha⟩
end

/-! ### what is walked -/
/-- the iterator J hands out the items ds, in any heap behind G -/
structure Walk (K : PySem.W.Frag) (G : Hp) (ds : List PyData) (J : It) : Prop where
  go : ∀ i H, Le G H → i < ds.length → J.go i H
  stop : ∀ i H, Le G H → ds.length ≤ i → J.stop i H
  yld : ∀ i H x H', Le G H → i < ds.length → J.yld i H x H' → ∃ d, ds[i]? = some d ∧ ((H' = H ∧ Sh K G x d) ∨ ∃ p xs es, x = .ref p ∧ H p = none ∧ H' = upd H p (.tup xs) ∧ d = .tuple es ∧ ShL K G xs es)
theorem Walk.take {K : PySem.W.Frag} {F : Entry} {G G1 H H' : Hp} {σ : L2.St} {ρ : Env} {φ : Nat → List Addr} {ts : List Hd} {ds : List PyData} {J : It} {i : Nat} {x : V} (W : Walk K G ds J) (I : Fm K F G1 H σ ρ φ ts) (l : Le G G1) (hi : i < ds.length) (y : J.yld i H x H') :
    ∃ d G2, ds[i]? = some d ∧ Le G1 G2 ∧ Fm K F G2 H' σ ρ φ ts ∧ Sh K G2 x d := by
  obtain ⟨d, h1, h2⟩ := W.yld i H x H' (fun a o q => I.gh a o (l a o q)) hi y
  rcases h2 with ⟨rfl, h2⟩ | ⟨p, xs, es, rfl, hp, rfl, rfl, h2⟩
  · exact ⟨d, G1, h1, fun _ _ q => q, I, h2.mono l⟩
  · have q := I.newT hp (h2.mono l)
    exact ⟨_, _, h1, upd_le (I.fresh hp).2.1, q.drop, q.head.2⟩

abbrev IE := Env → Option (List PyData × Env)
def tI (K : PySem.W.Frag) (F : Entry) (f : IE) : TI := fun σ H R => ∃ G ρ φ ts ds ρ', Fm K F G H σ ρ φ ts ∧ f ρ = some (ds, ρ') ∧ ∀ G' H' φ' J, Fm K F G' H' σ ρ' φ' ts → Walk K G' ds J → R J H'
abbrev DI (X : Cx) (F : Entry) (tg iter : Expr) (f : IE) : Prop := PI X tg iter (tI X.K F f)
theorem pi_imp {X : Cx} {tg iter : Expr} {t t' : TI} (h : PI X tg iter t) (k : ∀ σ H R, t' σ H R → t σ H R) : PI X tg iter t' := ⟨fun pins s σ H R I w => h.run pins s σ H R I (k σ H R w)⟩

section
variable {X : Cx} {F : Entry} {tg iter e e2 : Expr} {es : List Expr} {pos p : Pos} {f : EE} {ta : AE}
def seqI (f : EE) : IE := fun ρ => (f ρ).bind fun p => (froze p.2 p.1).bind fun q => match q.1 with | .list ds => some (ds, q.2) | _ => none
def tupI (f : EE) : IE := fun ρ => (f ρ).bind fun p => (froze p.2 p.1).bind fun q => match q.1 with | .tuple ds => some (ds, q.2) | _ => none
theorem walk_list {K : PySem.W.Frag} {G : Hp} {a : Addr} {xs : List V} {ds : List PyData} (h : G a = some (.lst xs)) (r : ShL K G xs ds) : Walk K G ds (Itl K a) where
  go := fun i H l hi => ⟨xs, xs[i]'(by rw [r.length]; exact hi), SqL.of (l a _ h), by simp [r.length, hi]⟩
  stop := fun i H l hi => ⟨xs, SqL.of (l a _ h), by rw [r.length]; exact hi⟩
  yld := fun i H x H' l _ y => by
    obtain ⟨e, y⟩ := y
    subst e
    obtain ⟨d, h1, h2⟩ := r.get (y xs (SqL.of (l a _ h)))
    exact ⟨d, h1, .inl ⟨rfl, h2⟩⟩
theorem walk_tup {K : PySem.W.Frag} {G : Hp} {a : Addr} {xs : List V} {ds : List PyData} (h : SqT K G a xs) (r : ShL K G xs ds) : Walk K G ds (Itt K a) where
  go := fun i H l hi => ⟨xs, xs[i]'(by rw [r.length]; exact hi), Le.sqT l h, by simp [r.length, hi]⟩
  stop := fun i H l hi => ⟨xs, Le.sqT l h, by rw [r.length]; exact hi⟩
  yld := fun i H x H' l _ y => by
    obtain ⟨e, y⟩ := y
    subst e
    obtain ⟨d, h1, h2⟩ := r.get (y xs (Le.sqT l h))
    exact ⟨d, h1, .inl ⟨rfl, h2⟩⟩
theorem i_list (h : DE X F e f) : DI X F tg e (seqI f) := pi_imp (pi_list h) fun σ H R ⟨G, ρ, φ, ts, ds, ρ', I, hf, k⟩ => by
  unfold seqI at hf
  obtain ⟨⟨r, ρ1⟩, h1, hf⟩ := Option.bind_eq_some_iff.mp hf
  obtain ⟨⟨d, ρ2⟩, h2, hf⟩ := Option.bind_eq_some_iff.mp hf
  simp only at h2 hf
  split at hf
  · cases hf
    refine ⟨G, ρ, φ, ts, r, ρ1, I, h1, fun G1 H1 φ1 v fp I1 => ?_⟩
    obtain ⟨G2, φ2, I2, l2⟩ := I1.froze h2
    cases I2.head.2 with
    | lst h3 r3 => exact ⟨_, rfl, ⟨_, SqL.of (I2.gh _ _ h3)⟩, k G2 H1 φ2 _ I2.drop (walk_list h3 r3)⟩
  · cases hf
theorem i_tup (h : DE X F e f) : DI X F tg e (tupI f) := pi_imp (pi_tup h) fun σ H R ⟨G, ρ, φ, ts, ds, ρ', I, hf, k⟩ => by
  unfold tupI at hf
  obtain ⟨⟨r, ρ1⟩, h1, hf⟩ := Option.bind_eq_some_iff.mp hf
  obtain ⟨⟨d, ρ2⟩, h2, hf⟩ := Option.bind_eq_some_iff.mp hf
  simp only at h2 hf
  split at hf
  · cases hf
    refine ⟨G, ρ, φ, ts, r, ρ1, I, h1, fun G1 H1 φ1 v fp I1 => ?_⟩
    obtain ⟨G2, φ2, I2, l2⟩ := I1.froze h2
    cases I2.head.2 with
    | tup h3 r3 => exact ⟨_, rfl, ⟨_, Le.sqT I2.gh h3⟩, k G2 H1 φ2 _ I2.drop (walk_tup h3 r3)⟩
  · cases hf
/-- lo, lo + 1, .., n of them -/
def rngD : Int → Nat → List PyData
  | _, 0 => []
  | lo, n + 1 => .int lo :: rngD (lo + 1) n
theorem rngD_length : ∀ (n : Nat) (lo : Int), (rngD lo n).length = n
  | 0, _ => rfl
  | n + 1, lo => by rw [rngD, List.length_cons, rngD_length n]
theorem rngD_get : ∀ (n : Nat) (lo : Int) (i : Nat), i < n → (rngD lo n)[i]? = some (.int (lo + i))
  | 0, _, _, h => absurd h (Nat.not_lt_zero _)
  | n + 1, lo, 0, _ => by simp [rngD]
  | n + 1, lo, i + 1, h => by
    rw [rngD, List.getElem?_cons_succ, rngD_get n (lo + 1) i (Nat.lt_of_succ_lt_succ h)]
    congr 2
    omega
theorem walk_rng {K : PySem.W.Frag} {G : Hp} {lo : Int} {n : Nat} : Walk K G (rngD lo n) (Itr lo n) where
  go := fun i H l hi => by rw [rngD_length] at hi; exact hi
  stop := fun i H l hi => by rw [rngD_length] at hi; exact hi
  yld := fun i H x H' l hi y => by
    rw [rngD_length] at hi
    obtain ⟨e1, e2⟩ := y
    exact ⟨_, rngD_get n lo i hi, .inl ⟨e1, by rw [e2]; exact .int _⟩⟩
/-- at most a million either way; written so that it is stuck at an open number -/
def okR : Int → Bool
  | .ofNat n => Nat.ble n 1000000
  | .negSucc n => Nat.ble n 999999
theorem okR_iff {j : Int} : okR j = true ↔ j ≤ 1000000 ∧ -1000000 ≤ j := by
  cases j with
  | ofNat n =>
    show Nat.ble n 1000000 = true ↔ _
    rw [Nat.ble_eq, show Int.ofNat n = (n : Int) from rfl]
    omega
  | negSucc n =>
    show Nat.ble n 999999 = true ↔ _
    rw [Nat.ble_eq, Int.negSucc_eq]
    omega
def rng1I (ta : AE) : IE := fun ρ => (ta ρ).bind fun p => (viewL p.2 p.1).bind fun ds => match ds with | [.int j] => if okR j = true then some (rngD 0 j.toNat, p.2) else none | _ => none
def rng2I (ta : AE) : IE := fun ρ => (ta ρ).bind fun p => (viewL p.2 p.1).bind fun ds => match ds with | [.int i, .int j] => if (okR j && okR i) = true then some (rngD i (j - i).toNat, p.2) else none | _ => none
theorem i_rng1 (hg : Gl X "range") (hm : X.mg "range" = none) (ha : DAs X F [e] ta) (hs : starEach [e] X.env = [(false, eval e X.env)] := by rfl) : DI X F tg (.Call (.Name "range" p) [e] [] pos) (rng1I ta) := pi_imp (pi_range1 hg hm ha hs) fun σ H R ⟨G, ρ, φ, ts, ds, ρ', I, hf, k⟩ => by
  unfold rng1I at hf
  obtain ⟨⟨rs, ρ1⟩, h1, hf⟩ := Option.bind_eq_some_iff.mp hf
  obtain ⟨d, h2, hf⟩ := Option.bind_eq_some_iff.mp hf
  simp only at h2 hf
  split at hf
  · split at hf
    · rename_i hz
      have hz := okR_iff.mp hz
      cases hf
      refine ⟨G, ρ, φ, ts, rs, _, I, h1, fun G1 H1 φ1 hs e1 I1 => ?_⟩
      subst e1
      obtain ⟨v, e2, h3⟩ := shwl1 (I1.viewL (fun h hm => List.mem_append_left _ (List.mem_reverse.mpr hm)) h2)
      exact ⟨_, by rw [e2, h3.int], by omega, by omega, k G1 H1 φ1 _ I1.dropN walk_rng⟩
    · cases hf
  · cases hf
theorem i_rng2 (hg : Gl X "range") (hm : X.mg "range" = none) (ha : DAs X F [e, e2] ta) (hs : starEach [e, e2] X.env = [(false, eval e X.env), (false, eval e2 X.env)] := by rfl) (hs2 : starEach [e2] X.env = [(false, eval e2 X.env)] := by rfl) :
    DI X F tg (.Call (.Name "range" p) [e, e2] [] pos) (rng2I ta) := pi_imp (pi_range2 hg hm ha hs hs2) fun σ H R ⟨G, ρ, φ, ts, ds, ρ', I, hf, k⟩ => by
  unfold rng2I at hf
  obtain ⟨⟨rs, ρ1⟩, h1, hf⟩ := Option.bind_eq_some_iff.mp hf
  obtain ⟨d, h2, hf⟩ := Option.bind_eq_some_iff.mp hf
  simp only at h2 hf
  split at hf
  · split at hf
    · rename_i hz
      rw [Bool.and_eq_true, okR_iff, okR_iff] at hz
      cases hf
      refine ⟨G, ρ, φ, ts, rs, _, I, h1, fun G1 H1 φ1 hs e1 I1 => ?_⟩
      subst e1
      obtain ⟨v, w, e2, h3, h4⟩ := shwl2 (I1.viewL (fun h hm => List.mem_append_left _ (List.mem_reverse.mpr hm)) h2)
      exact ⟨_, _, by rw [e2, h3.int, h4.int], ⟨by omega, by omega, by omega, by omega⟩, k G1 H1 φ1 _ I1.dropN walk_rng⟩
    · cases hf
  · cases hf
end

/-! ### targets -/
abbrev GE := PyData → Env → Option Env
/-- the slots that a target stores into are vs -/
def tG (K : PySem.W.Frag) (F : Entry) (vs : List Nat) (f : GE) : TG := fun v σ H Q => ∃ G ρ φ ts d ρ', Fm K F G H σ ρ φ ts ∧ Sh K G v d ∧ f d ρ = some ρ' ∧ (∀ t ∈ ts, ∀ i ∈ vs, t.s ≠ .bor i) ∧
  ∀ G' H' φ' (σ' : L2.St), Fm K F G' H' σ' ρ' φ' ts → σ'.length = σ.length → (∀ j, j ∉ vs → σ'[j]? = σ[j]?) → Q σ' H'
abbrev DG (X : Cx) (F : Entry) (tg : Expr) (vs : List Nat) (f : GE) : Prop := PG X tg (tG X.K F vs f)
theorem pg_imp {X : Cx} {tg : Expr} {t t' : TG} (h : PG X tg t) (k : ∀ v σ H Q, t' v σ H Q → t v σ H Q) : PG X tg t' := ⟨fun pins s σ H v u Q I r w => h.run pins s σ H v u Q I r (k v σ H Q w)⟩
theorem pgs_imp {X : Cx} {es : List Expr} {t t' : TGs} (h : PGs X es t) (k : ∀ v σ H Q, t' v σ H Q → t v σ H Q) : PGs X es t' := ⟨fun pins s σ H v u Q I r w => h.run pins s σ H v u Q I r (k v σ H Q w)⟩
def setE (i : Nat) (s : S) (ρ : Env) : Option Env := if (i == 0 && deckAt ρ 0) = true then none else if i < ρ.length then some (ρ.set i (some s)) else none
def nameG (i : Nat) : GE := fun d ρ => setE i (.sh d) ρ
section
variable {X : Cx} {F : Entry} {tg iter e e2 : Expr} {es : List Expr} {pos p : Pos} {f : EE} {ta : AE}
theorem setE_some {i : Nat} {s : S} {ρ ρ' : Env} (h : setE i s ρ = some ρ') : (i == 0 && deckAt ρ 0) = false ∧ i < ρ.length ∧ ρ' = ρ.set i (some s) := by
  unfold setE at h
  split at h
  · cases h
  · split at h
    · cases h; exact ⟨by simpa using ‹¬ (i == 0 && deckAt ρ 0) = true›, ‹_›, rfl⟩
    · cases h
theorem g_name {i : Nat} {x : Str} (h : PG X (.Name x pos) (gName i)) : DG X F (.Name x pos) [i] (nameG i) := pg_imp h fun v σ H Q ⟨G, ρ, φ, ts, d, ρ', I, r, hf, hb, k⟩ => by
  obtain ⟨h1, h2, rfl⟩ := setE_some hf
  exact k G H _ _ ((I.pushD r).set h2 h1 (fun _ => nofun) fun t ht => hb t ht i List.mem_cons_self) List.length_set fun j hj => List.getElem?_set_ne fun z => hj (by rw [z]; exact List.mem_cons_self)
abbrev GsE := List PyData → Env → Option Env
def tGs (K : PySem.W.Frag) (F : Entry) (vs : List Nat) (f : GsE) : TGs := fun us σ H Q => ∃ G ρ φ ts ds ρ', Fm K F G H σ ρ φ ts ∧ ShL K G us ds ∧ f ds ρ = some ρ' ∧ (∀ t ∈ ts, ∀ i ∈ vs, t.s ≠ .bor i) ∧
  ∀ G' H' φ' (σ' : L2.St), Fm K F G' H' σ' ρ' φ' ts → σ'.length = σ.length → (∀ j, j ∉ vs → σ'[j]? = σ[j]?) → Q σ' H'
abbrev DGs (X : Cx) (F : Entry) (es : List Expr) (vs : List Nat) (f : GsE) : Prop := PGs X es (tGs X.K F vs f)
def nilG : GsE := fun ds ρ => match ds with | [] => some ρ | _ => none
/-- names alone are stored into here, so what is shared stays so -/
def consG (i : Nat) (g : GsE) : GsE := fun ds ρ => match ds with | d :: ds => (setE i (.sh d) ρ).bind fun ρ' => g ds ρ' | _ => none
theorem g_nil : DGs X F [] [] nilG := pgs_imp pgs_nil fun us σ H Q ⟨G, ρ, φ, ts, ds, ρ', I, r, hf, hb, k⟩ => by
  cases r with
  | nil => cases hf; exact ⟨rfl, k G H φ σ I rfl fun _ _ => rfl⟩
  | cons _ _ => cases hf
theorem g_cons {i : Nat} {x : Str} {vs : List Nat} {g : GsE} (h : PG X (.Name x pos) (gName i)) (hr : DGs X F es vs g) (hs : (assignEach (.Name x pos :: es) X.env).map (·.2) = assign (.Name x pos) X.env :: (assignEach es X.env).map (·.2) := by rfl) :
    DGs X F (.Name x pos :: es) (i :: vs) (consG i g) := pgs_imp (pgs_cons h hr hs) fun us σ H Q ⟨G, ρ, φ, ts, ds, ρ', I, r, hf, hb, k⟩ => by
  cases r with
  | nil => cases hf
  | cons r rr =>
    obtain ⟨ρ1, h1, h2⟩ := Option.bind_eq_some_iff.mp hf
    obtain ⟨h3, h4, rfl⟩ := setE_some h1
    refine ⟨_, _, rfl, ?_⟩
    refine ⟨G, _, _, ts, _, ρ', (I.pushD r).set h4 h3 (fun _ => nofun) (fun t ht => hb t ht i List.mem_cons_self), rr, h2, fun t ht j hj => hb t ht j (List.mem_cons_of_mem _ hj), fun G' H' φ' σ' I' hl hσ => k G' H' φ' σ' I' (hl.trans List.length_set) fun j hj => ?_⟩
    rw [hσ j fun z => hj (List.mem_cons_of_mem _ z)]
    exact List.getElem?_set_ne fun z => hj (by rw [z]; exact List.mem_cons_self)
def tupG (g : GsE) : GE := fun d ρ => match d with | .tuple ds => g ds ρ | _ => none
theorem g_tup {k : Nat} {n : Nat} {vs : List Nat} {g : GsE} (C : X.calm = true) (h : DGs X F es vs g) (hl : ∀ ds ρ ρ', g ds ρ = some ρ' → ds.length = n) (hn : (assignEach es X.env).length = n := by rfl) (hst : (assignEach es X.env).findIdx? (·.1) = none := by rfl) :
    DG X F (.Tuple es k pos) vs (tupG g) := pg_imp (pg_tup C h hn hst) fun v σ H Q ⟨G, ρ, φ, ts, d, ρ', I, r, hf, hb, k⟩ => by
  unfold tupG at hf
  split at hf
  · cases r with
    | tup h1 r1 =>
      exact ⟨_, _, rfl, Le.sqT I.gh h1, by rw [r1.length]; exact hl _ _ _ hf, G, ρ, φ, ts, _, ρ', I, r1, hf, hb, k⟩
  · cases hf
theorem nilG_len : ∀ ds ρ ρ', nilG ds ρ = some ρ' → ds.length = 0 := by
  intro ds ρ ρ' h
  cases ds with
  | nil => rfl
  | cons _ _ => cases h
theorem consG_len {i n : Nat} {g : GsE} (h : ∀ ds ρ ρ', g ds ρ = some ρ' → ds.length = n) : ∀ ds ρ ρ', consG i g ds ρ = some ρ' → ds.length = n + 1 := by
  intro ds ρ ρ' e
  cases ds with
  | nil => cases e
  | cons d ds =>
    obtain ⟨ρ1, _, h2⟩ := Option.bind_eq_some_iff.mp e
    rw [List.length_cons, h _ _ _ h2]
end

/-! ### list comprehensions -/
def wipeE (ρ : Env) : List Nat → Env
  | [] => ρ
  | v :: vs => (wipeE ρ vs).set v none
def deadE (ρ : Env) (vs : List Nat) : Bool := vs.all fun v => match ρ[v]? with | some none => v != 0 | _ => false
def lcGo (vs : List Nat) (tg : GE) (tt : BE) (el : EE) : List PyData → Env → Option (List PyData × Env)
  | [], ρ => some ([], ρ)
  | d :: ds, ρ => (tg d ρ).bind fun ρ1 => (tt ρ1).bind fun p => if p.1 = true then (el p.2).bind fun q => (froze q.2 q.1).bind fun r => (lcGo vs tg tt el ds (wipeE r.2 vs)).map fun u => (r.1 :: u.1, u.2)
      else lcGo vs tg tt el ds (wipeE p.2 vs)
def lcE (vs : List Nat) (it : IE) (tg : GE) (tt : BE) (el : EE) : EE := fun ρ => (it ρ).bind fun p => if deadE p.2 vs = true ∧ p.1.length ≤ 1000000 then (lcGo vs tg tt el p.1 p.2).map fun q => (.ls q.1, q.2) else none
section
variable {K : PySem.W.Frag} {F : Entry} {G G' H H' : Hp} {σ σ' : L2.St} {ρ ρ' : Env} {φ φ' : Nat → List Addr} {ts : List Hd} {t : Hd}
theorem wipeE_length (ρ : Env) : ∀ vs : List Nat, (wipeE ρ vs).length = ρ.length
  | [] => rfl
  | v :: vs => by rw [wipeE, List.length_set, wipeE_length ρ vs]
theorem wipeE_some {i : Nat} {s : S} : ∀ {vs : List Nat}, (wipeE ρ vs)[i]? = some (some s) → ρ[i]? = some (some s) ∧ i ∉ vs
  | [], h => ⟨h, by simp⟩
  | v :: vs, h => by
    rw [wipeE] at h
    by_cases z : v = i
    · subst z
      have hl := (List.getElem?_eq_some_iff.mp h).1
      rw [List.length_set] at hl
      rw [List.getElem?_set_self hl] at h
      cases h
    · rw [List.getElem?_set_ne z] at h
      obtain ⟨h1, h2⟩ := wipeE_some h
      exact ⟨h1, by simp only [List.mem_cons, not_or]; exact ⟨fun e => z e.symm, h2⟩⟩
theorem wipe_out {i : Nat} {vs : List Nat} (h : i ∉ vs) : (wipe σ vs)[i]? = σ[i]? := by
  induction vs with
  | nil => rfl
  | cons v vs ih =>
    rw [wipe, List.getElem?_set_ne (fun z => h (by rw [z]; exact List.mem_cons_self))]
    exact ih fun hm => h (List.mem_cons_of_mem _ hm)
theorem wipe_in {i : Nat} : ∀ {vs : List Nat}, i ∈ vs → i < σ.length → (wipe σ vs)[i]? = some none
  | v :: vs, h, hl => by
    rw [wipe]
    by_cases z : v = i
    · subst z
      exact List.getElem?_set_self (by rw [wipe_length]; exact hl)
    · rw [List.getElem?_set_ne z]
      exact wipe_in ((List.mem_cons.mp h).resolve_left (Ne.symm z)) hl
theorem wipe_eq {vs : List Nat} (hl : σ'.length = σ.length) (h : ∀ j, j ∉ vs → σ'[j]? = σ[j]?) : wipe σ' vs = wipe σ vs := by
  refine List.ext_getElem? fun j => ?_
  by_cases hj : j ∈ vs
  · by_cases hlt : j < σ.length
    · rw [wipe_in hj hlt, wipe_in hj (by rw [hl]; exact hlt)]
    · rw [List.getElem?_eq_none (by rw [wipe_length]; omega), List.getElem?_eq_none (by rw [wipe_length]; omega)]
  · rw [wipe_out hj, wipe_out hj, h j hj]
theorem dead_spec {vs : List Nat} (h : deadE ρ vs = true) : ∀ v ∈ vs, ρ[v]? = some none ∧ v ≠ 0 := fun v hv => by
  have q := List.all_eq_true.mp h v hv
  split at q
  · exact ⟨‹_›, by simpa using q⟩
  · cases q
/-- the frame while a comprehension's block runs -/
theorem Fm.inBlock {vs : List Nat} (I : Fm K F G H σ ρ φ ts) (h : ∀ v ∈ vs, v ∈ F.cs) (hd : ∀ v ∈ vs, ∀ s, ρ[v]? ≠ some (some s)) : Fm K F G H (wipe σ vs) ρ φ ts :=
  I.sig (wipe_length σ vs) (fun j s e => wipe_out fun hj => hd j hj s e) fun t ht j e => wipe_out fun hj => by
    have r := I.tm t ht
    rw [e] at r
    exact r.2.1 (h j hj)
theorem Fm.outBlock {vs : List Nat} (I : Fm K F G H (wipe σ vs) ρ φ ts) (h : ∀ v ∈ vs, v ∈ F.cs) (hd : ∀ v ∈ vs, ∀ s, ρ[v]? ≠ some (some s)) : Fm K F G H σ ρ φ ts :=
  I.sig (wipe_length σ vs).symm (fun j s e => (wipe_out fun hj => hd j hj s e).symm) fun t ht j e => (wipe_out fun hj => by
    have r := I.tm t ht
    rw [e] at r
    exact r.2.1 (h j hj)).symm
theorem Fm.wipeN : ∀ {vs : List Nat}, (∀ v ∈ vs, v ≠ 0) → (∀ v ∈ vs, ∀ t ∈ ts, t.s ≠ .bor v) → Fm K F G H σ ρ φ ts → ∃ φ', Fm K F G H (wipe σ vs) (wipeE ρ vs) φ' ts
  | [], _, _, I => ⟨φ, I⟩
  | v :: vs, h0, hb, I => by
    obtain ⟨φ', I'⟩ := Fm.wipeN (vs := vs) (fun u hu => h0 u (List.mem_cons_of_mem _ hu)) (fun u hu => hb u (List.mem_cons_of_mem _ hu)) I
    refine ⟨_, I'.wipeAt v ?_ (fun j hj => ?_) ?_ fun t ht => hb v List.mem_cons_self t ht⟩
    · have : (v == 0) = false := by simpa using h0 v List.mem_cons_self
      rw [this]; rfl
    · show ((wipe σ vs).set v none)[j]? = _
      exact List.getElem?_set_ne (Ne.symm hj)
    · show ((wipe σ vs).set v none).length = _
      exact List.length_set
end
section
variable {X : Cx} {F : Entry} {tg iter elt : Expr} {ifs : List Expr} {scope : Scope} {own : List (Str × Nat)} {pos spos : Pos} {it : IE} {g : GE} {tt : BE} {el : EE}
abbrev Blk (X : Cx) (scope : Scope) (s : Shared) (H : Hp) (C : Addr) (cl : List (Str × Addr)) (fp : List Addr) : Cx := X.blk s H scope (compEnvC scope cl C X.env) fp
abbrev DTs (X : Cx) (F : Entry) (ifs : List Expr) (f : BE) : Prop := PTs X ifs (tB X.K F f)
def yesB : BE := fun ρ => some (true, ρ)
theorem t_nil : DTs X F [] yesB := ⟨fun pins s σ H Q I ⟨G, ρ, φ, ts, b, ρ', J, hf, k⟩ => by
  cases hf
  exact pts_nil.run pins s σ H Q I (k G H φ J)⟩
theorem t_one {c : Expr} {t : BE} (h : DB X F c t) : DTs X F [c] t := pts_one h
theorem lcGo_len {vs : List Nat} {tg : GE} {tt : BE} {el : EE} : ∀ {ds : List PyData} {ρ ρ' : Env} {ys : List PyData}, lcGo vs tg tt el ds ρ = some (ys, ρ') → ys.length ≤ ds.length
  | [], _, _, _, h => by cases h; exact Nat.le_refl _
  | d :: ds, ρ, ρ', ys, h => by
    rw [lcGo] at h
    obtain ⟨ρ1, h1, h⟩ := Option.bind_eq_some_iff.mp h
    obtain ⟨⟨b, ρ2⟩, h2, h⟩ := Option.bind_eq_some_iff.mp h
    simp only at h
    split at h
    · obtain ⟨⟨r, ρ3⟩, h3, h⟩ := Option.bind_eq_some_iff.mp h
      obtain ⟨⟨y, ρ4⟩, h4, h⟩ := Option.bind_eq_some_iff.mp h
      obtain ⟨⟨us, ρ5⟩, h5, h⟩ := Option.map_eq_some_iff.mp h
      cases h
      exact Nat.succ_le_succ (lcGo_len h5)
    · exact Nat.le_succ_of_le (lcGo_len h)
theorem lc_run (hvs : ∀ p ∈ own, p.2 ∈ F.cs) : ∀ σ H Q, tE X.K F (lcE (own.map (·.2)) it g tt el) σ H Q →
    tLc (tI X.K F it) (tG X.K F (own.map (·.2)) g) (tB X.K F tt) (tE X.K F el) (own.map (·.2)) σ H Q := fun σ H Q ⟨G, ρ, φ, ts, r, ρ', I, hf, k⟩ => by
  have hcs : ∀ v ∈ own.map (·.2), v ∈ F.cs := fun v hv => by
    obtain ⟨q, hq, e⟩ := List.mem_map.mp hv
    rw [← e]; exact hvs q hq
  generalize own.map (·.2) = vs at *
  unfold lcE at hf
  obtain ⟨⟨ds, ρ1⟩, h1, hf⟩ := Option.bind_eq_some_iff.mp hf
  simp only at hf
  split at hf
  · rename_i hz
    obtain ⟨⟨ys, ρ2⟩, h2, hf⟩ := Option.map_eq_some_iff.mp hf
    cases hf
    obtain ⟨hdead, hlen⟩ := hz
    have dead := dead_spec hdead
    refine ⟨G, ρ, φ, ts, ds, ρ1, I, h1, fun G1 H1 φ1 J I1 W D hD => ?_⟩
    have nob : ∀ t ∈ (⟨.non, .mk G1, []⟩ :: ts : List Hd), ∀ i ∈ vs, t.s ≠ .bor i := fun t ht i hi e => by
      rcases List.mem_cons.mp ht with z | z
      · rw [z] at e; cases e
      · have r := I.tm t z
        rw [e] at r
        exact r.2.1 (hcs i hi)
    have live1 : ∀ v ∈ vs, ∀ s, ρ1[v]? ≠ some (some s) := fun v hv s e => by rw [(dead v hv).1] at e; cases e
    have I2 := (I1.inBlock hcs live1).mark.newL hD .nil
    have lenY := lcGo_len h2
    have big : (1000000 : Nat) < sizeLine := by decide
    refine ⟨fun i m H => m = ds.length - i ∧ i ≤ ds.length ∧ ∃ G2 ρ3 φ3 acc rest, Fm X.K F G2 H (wipe σ vs) ρ3 φ3 (⟨.ref D, .ls acc, [D]⟩ :: ⟨.non, .mk G1, []⟩ :: ts) ∧ (∀ v ∈ vs, ∀ s, ρ3[v]? ≠ some (some s)) ∧ acc ++ rest = ys ∧ lcGo vs g tt el (ds.drop i) ρ3 = some (rest, ρ2), ⟨_, rfl, Nat.zero_le _, G1, ρ1, φ1, [], ys, I2, live1, rfl, h2⟩, ?_⟩
    rintro i m H2 ⟨rfl, hi, G2, ρ3, φ3, acc, rest, I3, hd3, hacc, hgo⟩
    have l2 : Le G1 G2 := I3.marked (List.mem_cons_of_mem _ List.mem_cons_self)
    have hle : Le G1 H2 := fun a o q => I3.gh a o (l2 a o q)
    by_cases hlt : i < ds.length
    · right
      refine ⟨W.go i H2 hle hlt, fun H' => i + 1 ≤ ds.length ∧ ∃ G2 ρ3 φ3 acc rest, Fm X.K F G2 H' (wipe σ vs) ρ3 φ3 (⟨.ref D, .ls acc, [D]⟩ :: ⟨.non, .mk G1, []⟩ :: ts) ∧ (∀ v ∈ vs, ∀ s, ρ3[v]? ≠ some (some s)) ∧ acc ++ rest = ys ∧ lcGo vs g tt el (ds.drop (i + 1)) ρ3 = some (rest, ρ2),
        fun H' hN => ⟨ds.length - (i + 1), by omega, rfl, hN⟩, fun x H' hy => ?_⟩
      obtain ⟨d, G3, hd, l3, I4, rx⟩ := W.take I3 l2 hlt hy
      have edrop : ds.drop i = d :: ds.drop (i + 1) := by
        obtain ⟨h5, h6⟩ := List.getElem?_eq_some_iff.mp hd
        rw [List.drop_eq_getElem_cons h5, h6]
      rw [edrop, lcGo] at hgo
      obtain ⟨ρ4, g1, hgo⟩ := Option.bind_eq_some_iff.mp hgo
      obtain ⟨⟨b, ρ5⟩, g2, hgo⟩ := Option.bind_eq_some_iff.mp hgo
      simp only at hgo
      have nobD : ∀ t ∈ (⟨.ref D, .ls acc, [D]⟩ :: ⟨.non, .mk G1, []⟩ :: ts : List Hd), ∀ i ∈ vs, t.s ≠ .bor i := fun t ht j hj e => by
        rcases List.mem_cons.mp ht with z | z
        · rw [z] at e; cases e
        · exact nob t z j hj e
      refine ⟨G3, ρ3, φ3, _, d, ρ4, I4, rx, g1, nobD, fun G4 H4 φ4 σ4 I5 hl4 hσ => ?_⟩
      have wsame : wipe σ4 vs = wipe σ vs := (wipe_eq hl4 hσ).trans (wipe_eq (wipe_length _ _) fun j hj => wipe_out hj)
      have zero : ∀ v ∈ vs, v ≠ 0 := fun v hv => (dead v hv).2
      have nobD' : ∀ v ∈ vs, ∀ t ∈ (⟨.ref D, .ls acc, [D]⟩ :: ⟨.non, .mk G1, []⟩ :: ts : List Hd), t.s ≠ .bor v := fun v hv t ht => nobD t ht v hv
      refine ⟨wsame, G4, ρ4, φ4, _, b, ρ5, I5, g2, fun G5 H5 φ5 I6 => ?_⟩
      cases b with
      | true =>
        rw [if_pos rfl] at hgo
        obtain ⟨⟨r, ρ6⟩, g3, hgo⟩ := Option.bind_eq_some_iff.mp hgo
        obtain ⟨⟨y, ρ7⟩, g4, hgo⟩ := Option.bind_eq_some_iff.mp hgo
        obtain ⟨⟨us, ρ8⟩, g5, hgo⟩ := Option.map_eq_some_iff.mp hgo
        simp only at g4 g5
        have e1 : y :: us = rest := (Prod.mk.inj hgo).1
        have e2 : ρ8 = ρ2 := (Prod.mk.inj hgo).2
        subst e1 e2
        refine iteT ⟨G5, ρ5, φ5, _, r, ρ6, I6, g3, fun G6 H6 φ6 v fp I7 => ?_⟩
        obtain ⟨G7, φ7, I8, l7⟩ := I7.froze g4
        have ry : Sh X.K G7 v y := I8.head.2
        have I9 := I8.drop
        obtain ⟨av, hav, rav⟩ := I9.list rfl
        have I10 := I9.more ry hav
        obtain ⟨φ8, I11⟩ := Fm.wipeN (vs := vs) zero (fun v hv t ht => by
          rcases List.mem_cons.mp ht with z | z
          · rw [z]; exact nofun
          · exact fun e => nob t z v hv e) I10
        rw [wsame] at I11
        refine ⟨av, hav, ?_, hlt, G7, _, φ8, acc ++ [y], us, I11, fun v hv s e => (wipeE_some e).2 hv, by rw [List.append_assoc]; exact hacc, g5⟩
        have e1 : acc.length + (us.length + 1) = ys.length := by rw [← hacc, List.length_append, List.length_cons]
        have e2 := rav.length
        omega
      | false =>
        rw [if_neg Bool.false_ne_true] at hgo
        obtain ⟨φ8, I7⟩ := Fm.wipeN (vs := vs) zero nobD' I6
        rw [wsame] at I7
        exact iteF ⟨hlt, G5, _, φ8, acc, rest, I7, fun v hv s e => (wipeE_some e).2 hv, hacc, hgo⟩
    · have ei : i = ds.length := by omega
      subst ei
      rw [List.drop_length] at hgo
      cases hgo
      rw [List.append_nil] at hacc
      subst hacc
      exact .inl ⟨W.stop _ H2 hle (Nat.le_refl _), k _ _ _ _ _ (I3.drop2.outBlock hcs hd3)⟩
  · cases hf
end
end Dn
namespace Dn
open PySem L2
/-! Part 6: statements -/

inductive Out where
  | nx (ρ : Env)
  | rt (s : S) (ρ : Env)
  | bk (ρ : Env)
  | ct (ρ : Env)
abbrev SE := Env → Option Out

def After (K : PySem.W.Frag) (F : Entry) (ts : List Hd) (D : Ends) : Out → Prop
  | .nx ρ' => ∀ G' H' φ' σ', Fm K F G' H' σ' ρ' φ' ts → D.nx σ' H'
  | .rt s ρ' => ∀ G' H' φ' σ' v fp, Fm K F G' H' σ' ρ' φ' (⟨v, s, fp⟩ :: ts) → D.rt v H'
  | .bk ρ' => ∀ G' H' φ' σ', Fm K F G' H' σ' ρ' φ' ts → D.bk σ' H'
  | .ct ρ' => ∀ G' H' φ' σ', Fm K F G' H' σ' ρ' φ' ts → D.ct σ' H'
def NoBor (ts : List Hd) : Prop := ∀ t ∈ ts, ∀ i, t.s ≠ .bor i
def tS (K : PySem.W.Frag) (F : Entry) (f : SE) : TS := fun D σ H => ∃ G ρ φ ts o, Fm K F G H σ ρ φ ts ∧ NoBor ts ∧ f ρ = some o ∧ After K F ts D o
abbrev DS (X : Cx) (F : Entry) (st : Stmt) (f : SE) : Prop := PS X st (tS X.K F f)
abbrev DSs (X : Cx) (F : Entry) (st : List Stmt) (f : SE) : Prop := PSs X st (tS X.K F f)

section
variable {X : Cx} {F : Entry} {a b c e : Expr} {es : List Expr} {pos p : Pos} {st : Stmt} {rest body orelse : List Stmt} {f g : EE} {t : BE} {ta : AE} {sf sg : SE}
theorem ps_imp {t t' : TS} (h : PS X st t) (k : ∀ D σ H, t' D σ H → t D σ H) : PS X st t' := ⟨fun pins s σ H D I w => h.run pins s σ H D I (k D σ H w)⟩
theorem pss_imp {t t' : TS} (h : PSs X rest t) (k : ∀ D σ H, t' D σ H → t D σ H) : PSs X rest t' := ⟨fun pins s σ H D I w => h.run pins s σ H D I (k D σ H w)⟩

def nxS : SE := fun ρ => some (.nx ρ)
theorem s_nil : DSs X F [] nxS := pss_imp pss_nil fun D σ H ⟨G, ρ, φ, ts, o, I, nb, hf, k⟩ => by
  cases hf
  exact k G H φ σ I
theorem s_pass : DS X F (.Pass pos) nxS := ps_imp ps_pass fun D σ H ⟨G, ρ, φ, ts, o, I, nb, hf, k⟩ => by
  cases hf
  exact k G H φ σ I
def bkS : SE := fun ρ => some (.bk ρ)
def ctS : SE := fun ρ => some (.ct ρ)
theorem s_break : DS X F (.Break pos) bkS := ps_imp ps_break fun D σ H ⟨G, ρ, φ, ts, o, I, nb, hf, k⟩ => by
  cases hf
  exact k G H φ σ I
theorem s_continue : DS X F (.Continue pos) ctS := ps_imp ps_continue fun D σ H ⟨G, ρ, φ, ts, o, I, nb, hf, k⟩ => by
  cases hf
  exact k G H φ σ I
def neverS : SE := fun _ => none
theorem s_never : DS X F st neverS := ⟨fun _ _ _ _ _ _ h => by obtain ⟨_, _, _, _, _, _, _, hf, _⟩ := h; cases hf⟩
theorem ss_never : DSs X F rest neverS := ⟨fun _ _ _ _ _ _ h => by obtain ⟨_, _, _, _, _, _, _, hf, _⟩ := h; cases hf⟩
def seqS (f g : SE) : SE := fun ρ => (f ρ).bind fun o => match o with | .nx ρ' => g ρ' | o => some o
theorem s_cons (h : DS X F st sf) (hr : DSs X F rest sg) : DSs X F (st :: rest) (seqS sf sg) := pss_imp (pss_cons h hr) fun D σ H ⟨G, ρ, φ, ts, o, I, nb, hf, k⟩ => by
  unfold seqS at hf
  obtain ⟨o1, h1, hf⟩ := Option.bind_eq_some_iff.mp hf
  refine ⟨G, ρ, φ, ts, o1, I, nb, h1, ?_⟩
  cases o1 with
  | nx ρ1 => exact fun G' H' φ' σ' I' => ⟨G', ρ1, φ', ts, o, I', nb, hf, k⟩
  | rt s ρ1 => cases hf; exact k
  | bk ρ1 => cases hf; exact k
  | ct ρ1 => cases hf; exact k
theorem s_one (h : DS X F st sf) : DSs X F [st] sf := pss_one h

/-! ### return, an expression alone -/
theorem Fm.takeSlot {K : PySem.W.Frag} {G H : Hp} {σ : L2.St} {ρ : Env} {φ : Nat → List Addr} {ts : List Hd} {v : V} {s : S} {fp : List Addr} {i : Nat} (I : Fm K F G H σ ρ φ (⟨v, .bor i, fp⟩ :: ts)) (e : ρ[i]? = some (some s)) (hs : isDeck s = false) (nb : NoBor ts) :
    ∃ φ', Fm K F G H σ (ρ.set i none) φ' (⟨v, s, φ i⟩ :: ts) := by
  have r := I.slot I.head e
  have J := I.drop
  have nd : deckAt ρ i = false := by unfold deckAt; rw [e]; exact hs
  have nd0 : (i == 0 && deckAt ρ 0) = false := by
    by_cases z : i = 0
    · subst z; rw [nd, Bool.and_false]
    · have : (i == 0) = false := by simpa using z
      rw [this]; rfl
  have J2 := J.wipeAt (σ' := σ) i nd0 (fun _ _ => rfl) rfl fun t ht => nb t ht i
  refine ⟨_, J2.push r fun a ha => ?_⟩
  obtain ⟨q1, q2, q3⟩ := J.ph i a ha
  refine ⟨q1, ?_, fun j hj => ?_, fun t ht hm => ?_⟩
  · rcases q3 with z | ⟨_, z⟩
    · exact z
    · rw [nd] at z; cases z
  · by_cases z : j = i
    · simp only [z, if_pos rfl] at hj; cases hj
    · simp only [if_neg z] at hj
      exact z (J.dj j i a hj ha)
  · exact (J.tp t ht a hm).2.2 i ha
def retE (r : S) (ρ : Env) : Option Out := match r with
  | .bor i => match ρ[i]? with
    | some (some (.sh d)) => some (.rt (.sh d) ρ)
    | some (some (.ls xs)) => some (.rt (.ls xs) (ρ.set i none))
    | some (some (.dk xs)) => some (.rt (.dk xs) (ρ.set i none))
    | some (some (.dt xs)) => some (.rt (.dt xs) (ρ.set i none))
    | _ => none
  | .sh d => some (.rt (.sh d) ρ)
  | .ls xs => some (.rt (.ls xs) ρ)
  | .dk xs => some (.rt (.dk xs) ρ)
  | .dt xs => some (.rt (.dt xs) ρ)
  | .deck st => some (.rt (.deck st) ρ)
  | _ => none
def retS (f : EE) : SE := fun ρ => (f ρ).bind fun p => retE p.1 p.2
theorem s_ret (h : DE X F e f) : DS X F (.Return (some e) pos) (retS f) := ps_imp (ps_ret h) fun D σ H ⟨G, ρ, φ, ts, o, I, nb, hf, k⟩ => by
  unfold retS at hf
  obtain ⟨⟨r, ρ1⟩, h1, hf⟩ := Option.bind_eq_some_iff.mp hf
  simp only at hf
  refine ⟨G, ρ, φ, ts, r, ρ1, I, h1, fun G1 H1 φ1 v fp I1 => ?_⟩
  unfold retE at hf
  split at hf
  · split at hf
    · cases hf
      have q : RelS X.K F.cs σ G1 H1 v (.sh _) _ := I1.slot I1.head ‹_›
      exact k _ _ _ _ _ [] (I1.drop.pushD q.2)
    · cases hf
      obtain ⟨φ2, I2⟩ := I1.takeSlot ‹_› rfl nb
      exact k _ _ _ _ _ _ I2
    · cases hf
      obtain ⟨φ2, I2⟩ := I1.takeSlot ‹_› rfl nb
      exact k _ _ _ _ _ _ I2
    · cases hf
      obtain ⟨φ2, I2⟩ := I1.takeSlot ‹_› rfl nb
      exact k _ _ _ _ _ _ I2
    · cases hf
  · cases hf; exact k _ _ _ _ _ _ I1
  · cases hf; exact k _ _ _ _ _ _ I1
  · cases hf; exact k _ _ _ _ _ _ I1
  · cases hf; exact k _ _ _ _ _ _ I1
  · cases hf; exact k _ _ _ _ _ _ I1
  · cases hf
def retNS : SE := fun ρ => some (.rt (.sh .none) ρ)
theorem s_retN : DS X F (.Return none pos) retNS := ps_imp ps_retN fun D σ H ⟨G, ρ, φ, ts, o, I, nb, hf, k⟩ => by
  cases hf
  exact k _ _ _ _ _ [] (I.pushD .non)
def exprS (f : EE) : SE := fun ρ => (f ρ).map fun p => .nx p.2
theorem s_expr (h : DE X F e f) (hs : swapsWith e none pos.line X.env = pure false := by rfl) : DS X F (.Expr e pos) (exprS f) := ps_imp (ps_expr h hs) fun D σ H ⟨G, ρ, φ, ts, o, I, nb, hf, k⟩ => by
  unfold exprS at hf
  obtain ⟨⟨r, ρ1⟩, h1, hf⟩ := Option.map_eq_some_iff.mp hf
  cases hf
  exact ⟨G, ρ, φ, ts, r, _, I, h1, fun G1 H1 φ1 v fp I1 => k _ _ _ _ I1.drop⟩

/-! ### stores -/
def ownE (r : S) (ρ : Env) : Option (S × Env) := match r with
  | .bor i => (froze ρ (.bor i)).map fun p => (.sh p.1, p.2)
  | .scr _ => none
  | .mk _ => none
  | r => some (r, ρ)
theorem Fm.own {K : PySem.W.Frag} {G H : Hp} {σ : L2.St} {ρ ρ' : Env} {φ : Nat → List Addr} {ts : List Hd} {v : V} {s r : S} {fp : List Addr} (I : Fm K F G H σ ρ φ (⟨v, r, fp⟩ :: ts)) (e : ownE r ρ = some (s, ρ')) :
    (∃ G' φ' fp', Fm K F G' H σ ρ' φ' (⟨v, s, fp'⟩ :: ts)) ∧ ∀ j, s ≠ .bor j := by
  unfold ownE at e
  split at e
  · obtain ⟨⟨d, ρ1⟩, h1, e⟩ := Option.map_eq_some_iff.mp e
    cases e
    obtain ⟨G', φ', I', _⟩ := Fm.froze (t := ⟨v, .bor _, fp⟩) I h1
    exact ⟨⟨G', φ', [], I'⟩, fun _ => nofun⟩
  · cases e
  · cases e
  · cases e
    rename_i h1 h2 h3
    exact ⟨⟨G, φ, fp, I⟩, fun j z => h1 j z⟩
def asgS (i : Nat) (f : EE) : SE := fun ρ => (f ρ).bind fun p => (ownE p.1 p.2).bind fun q => (setE i q.1 q.2).map .nx
theorem asg_run {i : Nat} : ∀ D σ H, tS X.K F (asgS i f) D σ H → tAsg (tE X.K F f) (gName i) D σ H := fun D σ H ⟨G, ρ, φ, ts, o, I, nb, hf, k⟩ => by
  unfold asgS at hf
  obtain ⟨⟨r, ρ1⟩, h1, hf⟩ := Option.bind_eq_some_iff.mp hf
  obtain ⟨⟨s, ρ2⟩, h2, hf⟩ := Option.bind_eq_some_iff.mp hf
  obtain ⟨ρ3, h3, hf⟩ := Option.map_eq_some_iff.mp hf
  cases hf
  simp only at h2 h3
  obtain ⟨q1, q2, rfl⟩ := setE_some h3
  refine ⟨G, ρ, φ, ts, r, ρ1, I, h1, fun G1 H1 φ1 v fp I1 => ?_⟩
  obtain ⟨⟨G2, φ2, fp2, I2⟩, ns⟩ := I1.own h2
  exact k _ _ _ _ (I2.set q2 q1 ns fun t ht => nb t ht i)
theorem s_asg {i : Nat} {x : Str} {pos' : Pos} (h : PS X (.Assign [.Name x pos'] e pos) (tAsg (tE X.K F f) (gName i))) : DS X F (.Assign [.Name x pos'] e pos) (asgS i f) := ps_imp h asg_run
/-- target = value, the target a tuple of names (or a name) -/
def asgG (tg : GE) (f : EE) : SE := fun ρ => (f ρ).bind fun p => (froze p.2 p.1).bind fun q => (tg q.1 q.2).map .nx
theorem s_asgG {tg : Expr} {vs : List Nat} {gg : GE} (h : DE X F e f) (hg : DG X F tg vs gg) (hs : swapsWithSole [tg] e pos.line X.env = pure false := by rfl) (hw : swappedStores [tg] e X.env = pure none := by rfl) (h1 : (assignEach [tg] X.env).map (·.2) = [assign tg X.env] := by rfl) :
    DS X F (.Assign [tg] e pos) (asgG gg f) := ps_imp (ps_asg h hg hs hw h1) fun D σ H ⟨G, ρ, φ, ts, o, I, nb, hf, k⟩ => by
  unfold asgG at hf
  obtain ⟨⟨r, ρ1⟩, h1, hf⟩ := Option.bind_eq_some_iff.mp hf
  obtain ⟨⟨d, ρ2⟩, h2, hf⟩ := Option.bind_eq_some_iff.mp hf
  obtain ⟨ρ3, h3, hf⟩ := Option.map_eq_some_iff.mp hf
  cases hf
  simp only at h2 h3
  refine ⟨G, ρ, φ, ts, r, ρ1, I, h1, fun G1 H1 φ1 v fp I1 => ?_⟩
  obtain ⟨G2, φ2, I2, _⟩ := I1.froze h2
  exact ⟨G2, ρ2, φ2, ts, d, ρ3, I2.drop, I2.head.2, h3, fun t ht i _ => nb t ht i, fun G' H' φ' σ' I' _ _ => k _ _ _ _ I'⟩

/-- values kept on the way: what is private stays so, what a slot holds is shared -/
def ownR : List S → Env → Option (List S × Env)
  | [], ρ => some ([], ρ)
  | r :: rs, ρ => match r with
    | .bor i => (froze ρ (.bor i)).bind fun p => (ownR rs p.2).map fun q => (.sh p.1 :: q.1, q.2)
    | .scr _ => none
    | .mk _ => none
    | r => (ownR rs ρ).map fun q => (r :: q.1, q.2)
/-- the second holder goes on top -/
theorem Fm.swap {K : PySem.W.Frag} {G H : Hp} {σ : L2.St} {ρ : Env} {φ : Nat → List Addr} {ts : List Hd} {u w : Hd} (I : Fm K F G H σ ρ φ (u :: w :: ts)) : Fm K F G H σ ρ φ (w :: u :: ts) := by
  have h := List.pairwise_cons.mp I.tt
  have h2 := List.pairwise_cons.mp h.2
  refine (I.drop2).push (I.tm w (List.mem_cons_of_mem _ List.mem_cons_self)) fun a ha => ?_
  have q := I.tp w (List.mem_cons_of_mem _ List.mem_cons_self) a ha
  refine ⟨q.1, q.2.1, q.2.2, fun t ht => ?_⟩
  rcases List.mem_cons.mp ht with z | z
  · rw [z]; exact fun hm => h.1 w List.mem_cons_self a hm ha
  · exact h2.1 t z a ha
/-- a, b = x, y: two values, stored -/
def par2S (i j : Nat) (ta : AE) : SE := fun ρ => (ta ρ).bind fun p => match p.1 with
  | [r1, r2] => (ownE r2 p.2).bind fun q2 => (ownE r1 q2.2).bind fun q1 => (setE j q2.1 q1.2).bind fun ρ1 => (setE i q1.1 ρ1).map .nx
  | _ => none
theorem list2 {hs : List Hd} {r1 r2 : S} (h : hs.map Hd.s = [r1, r2]) : ∃ h1 h2 : Hd, hs = [h1, h2] ∧ h1.s = r1 ∧ h2.s = r2 := by
  match hs, h with
  | [h1, h2], h => exact ⟨h1, h2, rfl, by simpa using congrArg List.head? h, by simpa using congrArg List.getLast? h⟩
theorem par2_run {i j : Nat} (hij : i ≠ j) : ∀ D σ H, tS X.K F (par2S i j ta) D σ H → tPar i j (tAs X.K F ta) D σ H := fun D σ H ⟨G, ρ, φ, ts, o, I, nb, hf, k⟩ => by
  unfold par2S at hf
  obtain ⟨⟨rs, ρ1⟩, h1, hf⟩ := Option.bind_eq_some_iff.mp hf
  simp only at hf
  split at hf
  · obtain ⟨⟨s2, ρ2⟩, h2, hf⟩ := Option.bind_eq_some_iff.mp hf
    obtain ⟨⟨s1, ρ3⟩, h3, hf⟩ := Option.bind_eq_some_iff.mp hf
    obtain ⟨ρ4, h4, hf⟩ := Option.bind_eq_some_iff.mp hf
    obtain ⟨ρ5, h5, hf⟩ := Option.map_eq_some_iff.mp hf
    cases hf
    simp only at h2 h3 h4 h5
    refine ⟨G, ρ, φ, ts, _, ρ1, I, h1, fun G1 H1 φ1 hs e I1 => ?_⟩
    obtain ⟨u, w, rfl, eu, ew⟩ := list2 e
    obtain ⟨v1, t1, f1⟩ := u
    obtain ⟨v2, t2, f2⟩ := w
    simp only at eu ew
    subst eu ew
    refine ⟨v1, v2, rfl, ?_⟩
    have I1' : Fm X.K F G1 H1 σ ρ1 φ1 (⟨v2, t2, f2⟩ :: ⟨v1, t1, f1⟩ :: ts) := I1
    obtain ⟨⟨G2, φ2, g2, I2⟩, n2⟩ := I1'.own h2
    obtain ⟨⟨G3, φ3, g3, I3⟩, n3⟩ := (I2.swap).own h3
    obtain ⟨a1, a2, e4⟩ := setE_some h4
    obtain ⟨b1, b2, e5⟩ := setE_some h5
    subst e4 e5
    have I4 := I3.swap.set a2 a1 n2 fun t ht => by
      rcases List.mem_cons.mp ht with z | z
      · rw [z]; exact n3 j
      · exact nb t z j
    have I5 := I4.set b2 b1 n3 fun t ht => nb t ht i
    rw [List.set_comm _ _ (Ne.symm hij)] at I5
    exact k _ _ _ _ I5
  · cases hf
theorem s_par2 {i j : Nat} (hij : i ≠ j) (h : PS X st (tPar i j (tAs X.K F ta))) : DS X F st (par2S i j ta) := ps_imp h (par2_run hij)
def par3S (i j l : Nat) (ta : AE) : SE := fun ρ => (ta ρ).bind fun p => match p.1 with
  | [r1, r2, r3] => (ownE r3 p.2).bind fun q3 => (ownE r2 q3.2).bind fun q2 => (ownE r1 q2.2).bind fun q1 => (setE l q3.1 q1.2).bind fun ρ0 => (setE j q2.1 ρ0).bind fun ρ1 => (setE i q1.1 ρ1).map .nx
  | _ => none
theorem list3 {hs : List Hd} {r1 r2 r3 : S} (h : hs.map Hd.s = [r1, r2, r3]) : ∃ h1 h2 h3 : Hd, hs = [h1, h2, h3] ∧ h1.s = r1 ∧ h2.s = r2 ∧ h3.s = r3 := by
  match hs, h with
  | [h1, h2, h3], h =>
    simp only [List.map_cons, List.map_nil, List.cons.injEq, and_true] at h
    exact ⟨h1, h2, h3, rfl, h.1, h.2.1, h.2.2⟩
theorem par3_run {i j l : Nat} (hij : i ≠ j) (hil : i ≠ l) (hjl : j ≠ l) : ∀ D σ H, tS X.K F (par3S i j l ta) D σ H → tPar3 i j l (tAs X.K F ta) D σ H := fun D σ H ⟨G, ρ, φ, ts, o, I, nb, hf, k⟩ => by
  unfold par3S at hf
  obtain ⟨⟨rs, ρ1⟩, h1, hf⟩ := Option.bind_eq_some_iff.mp hf
  simp only at hf
  split at hf
  · obtain ⟨⟨s3, ρ2⟩, h2, hf⟩ := Option.bind_eq_some_iff.mp hf
    obtain ⟨⟨s2, ρ3⟩, h3, hf⟩ := Option.bind_eq_some_iff.mp hf
    obtain ⟨⟨s1, ρ4⟩, h4, hf⟩ := Option.bind_eq_some_iff.mp hf
    obtain ⟨ρ5, h5, hf⟩ := Option.bind_eq_some_iff.mp hf
    obtain ⟨ρ6, h6, hf⟩ := Option.bind_eq_some_iff.mp hf
    obtain ⟨ρ7, h7, hf⟩ := Option.map_eq_some_iff.mp hf
    cases hf
    simp only at h2 h3 h4 h5 h6 h7
    refine ⟨G, ρ, φ, ts, _, ρ1, I, h1, fun G1 H1 φ1 hs e I1 => ?_⟩
    obtain ⟨u, w, x, rfl, eu, ew, ex⟩ := list3 e
    obtain ⟨v1, t1, f1⟩ := u
    obtain ⟨v2, t2, f2⟩ := w
    obtain ⟨v3, t3, f3⟩ := x
    simp only at eu ew ex
    subst eu ew ex
    refine ⟨v1, v2, v3, rfl, ?_⟩
    have I1' : Fm X.K F G1 H1 σ ρ1 φ1 (⟨v3, t3, f3⟩ :: ⟨v2, t2, f2⟩ :: ⟨v1, t1, f1⟩ :: ts) := I1
    obtain ⟨⟨G2, φ2, g2, I2⟩, n3⟩ := I1'.own h2
    obtain ⟨⟨G3, φ3, g3, I3⟩, n2⟩ := (I2.swap).own h3
    -- order now: v2, v3, v1; bring v1 on top
    have I3' : Fm X.K F G3 H1 σ ρ3 φ3 (⟨v1, t1, f1⟩ :: ⟨v2, s2, g3⟩ :: ⟨v3, s3, g2⟩ :: ts) := by
      have pw := List.pairwise_cons.mp I3.tt
      have pw2 := List.pairwise_cons.mp pw.2
      have pw3 := List.pairwise_cons.mp pw2.2
      have J : Fm X.K F G3 H1 σ ρ3 φ3 (⟨v2, s2, g3⟩ :: ⟨v3, s3, g2⟩ :: ts) := by
        refine I3.drop.drop2.push I3.head fun a ha => ?_
        have q := I3.tp _ List.mem_cons_self a ha
        refine ⟨q.1, q.2.1, q.2.2, fun t ht => ?_⟩
        rcases List.mem_cons.mp ht with z | z
        · rw [z]; exact pw.1 _ List.mem_cons_self a ha
        · exact pw.1 t (List.mem_cons_of_mem _ (List.mem_cons_of_mem _ z)) a ha
      refine J.push (I3.tm _ (List.mem_cons_of_mem _ (List.mem_cons_of_mem _ List.mem_cons_self))) fun a ha => ?_
      have q := I3.tp _ (List.mem_cons_of_mem _ (List.mem_cons_of_mem _ List.mem_cons_self)) a ha
      refine ⟨q.1, q.2.1, q.2.2, fun t ht hm => ?_⟩
      rcases List.mem_cons.mp ht with z | z
      · rw [z] at hm; exact pw.1 _ (List.mem_cons_of_mem _ List.mem_cons_self) a hm ha
      · rcases List.mem_cons.mp z with z | z
        · rw [z] at hm; exact pw2.1 _ List.mem_cons_self a hm ha
        · exact pw3.1 t z a ha hm
    obtain ⟨⟨G4, φ4, g4, I4⟩, n1⟩ := I3'.own h4
    obtain ⟨a1, a2, e5⟩ := setE_some h5
    obtain ⟨b1, b2, e6⟩ := setE_some h6
    obtain ⟨c1, c2, e7⟩ := setE_some h7
    subst e5 e6 e7
    -- bring v3 on top
    have pw := List.pairwise_cons.mp I4.tt
    have pw2 := List.pairwise_cons.mp pw.2
    have pw3 := List.pairwise_cons.mp pw2.2
    have I5 : Fm X.K F G4 H1 σ ρ4 φ4 (⟨v3, s3, g2⟩ :: ⟨v1, s1, g4⟩ :: ⟨v2, s2, g3⟩ :: ts) := by
      have J : Fm X.K F G4 H1 σ ρ4 φ4 (⟨v1, s1, g4⟩ :: ⟨v2, s2, g3⟩ :: ts) := by
        refine I4.drop.drop2.push I4.head fun a ha => ?_
        have q := I4.tp _ List.mem_cons_self a ha
        refine ⟨q.1, q.2.1, q.2.2, fun t ht => ?_⟩
        rcases List.mem_cons.mp ht with z | z
        · rw [z]; exact pw.1 _ List.mem_cons_self a ha
        · exact pw.1 t (List.mem_cons_of_mem _ (List.mem_cons_of_mem _ z)) a ha
      refine J.push (I4.tm _ (List.mem_cons_of_mem _ (List.mem_cons_of_mem _ List.mem_cons_self))) fun a ha => ?_
      have q := I4.tp _ (List.mem_cons_of_mem _ (List.mem_cons_of_mem _ List.mem_cons_self)) a ha
      refine ⟨q.1, q.2.1, q.2.2, fun t ht hm => ?_⟩
      rcases List.mem_cons.mp ht with z | z
      · rw [z] at hm; exact pw.1 _ (List.mem_cons_of_mem _ List.mem_cons_self) a hm ha
      · rcases List.mem_cons.mp z with z | z
        · rw [z] at hm; exact pw2.1 _ List.mem_cons_self a hm ha
        · exact pw3.1 t z a ha hm
    have I6 := I5.set a2 a1 n3 fun t ht => by
      rcases List.mem_cons.mp ht with z | z
      · rw [z]; exact n1 l
      · rcases List.mem_cons.mp z with z | z
        · rw [z]; exact n2 l
        · exact nb t z l
    have I7 := I6.swap.set b2 b1 n2 fun t ht => by
      rcases List.mem_cons.mp ht with z | z
      · rw [z]; exact n1 j
      · exact nb t z j
    have I8 := I7.set c2 c1 n1 fun t ht => nb t ht i
    rw [List.set_comm _ _ (Ne.symm hjl), List.set_comm _ _ (Ne.symm hil), List.set_comm _ _ (Ne.symm hij)] at I8
    exact k _ _ _ _ I8
  · cases hf
theorem s_par3 {i j l : Nat} (hij : i ≠ j) (hil : i ≠ l) (hjl : j ≠ l) (h : PS X st (tPar3 i j l (tAs X.K F ta))) : DS X F st (par3S i j l ta) := ps_imp h (par3_run hij hil hjl)

/-- name op= value -/
def augS (i : Nat) (gg : PyData → PyData → Option S) (f : EE) : SE := fun ρ => match ρ[i]? with
  | some (some (.sh d)) => (f ρ).bind fun p => (view p.2 p.1).bind fun y => (gg d y).bind fun r => match r with
    | .sh z => (setE i (.sh z) p.2).map .nx
    | _ => none
  | _ => none
theorem s_aug {i : Nat} {x : Str} {pos' : Pos} {op : Operator} {rr : R2} {gg : PyData → PyData → Option S} (hr : OpD X F rr gg) (h : PS X (.AugAssign (.Name x pos') op e pos) (tAug i (tE X.K F f) rr)) : DS X F (.AugAssign (.Name x pos') op e pos) (augS i gg f) := ps_imp h fun D σ H ⟨G, ρ, φ, ts, o, I, nb, hf, k⟩ => by
  unfold augS at hf
  split at hf
  · rename_i d hi
    obtain ⟨⟨r, ρ1⟩, h1, hf⟩ := Option.bind_eq_some_iff.mp hf
    obtain ⟨y, h2, hf⟩ := Option.bind_eq_some_iff.mp hf
    obtain ⟨s, h3, hf⟩ := Option.bind_eq_some_iff.mp hf
    simp only at h2 hf
    split at hf
    · obtain ⟨ρ2, h4, hf⟩ := Option.map_eq_some_iff.mp hf
      cases hf
      obtain ⟨q1, q2, rfl⟩ := setE_some h4
      obtain ⟨v, e1, e2⟩ := I.sl i _ hi
      refine ⟨v, e1, G, ρ, φ, _, r, ρ1, I.pushD e2.2, h1, fun G1 H1 φ1 w fp I1 => ?_⟩
      have rv : Sh X.K G1 v d := (I1.tm ⟨v, .sh d, []⟩ (List.mem_cons_of_mem _ List.mem_cons_self)).2
      refine hr G1 H1 σ ρ1 φ1 ts v w d y _ _ I1.drop.drop (.sc rv) (I1.view I1.head h2) h3 fun G2 H2 φ2 u fp2 I2 => ?_
      exact k _ _ _ _ (I2.set q2 q1 (fun _ => nofun) fun t ht => nb t ht i)
    · cases hf
  · cases hf

/-! ### if, while, for -/
def ifS (t : BE) (f g : SE) : SE := fun ρ => (t ρ).bind fun p => if p.1 = true then f p.2 else g p.2
theorem s_if (hc : DB X F c t) (ha : DSs X F body sf) (hb : DSs X F orelse sg) : DS X F (.If c body orelse pos) (ifS t sf sg) := ps_imp (ps_if hc ha hb) fun D σ H ⟨G, ρ, φ, ts, o, I, nb, hf, k⟩ => by
  unfold ifS at hf
  obtain ⟨⟨b1, ρ1⟩, h1, h2⟩ := Option.bind_eq_some_iff.mp hf
  refine ⟨G, ρ, φ, ts, b1, ρ1, I, h1, fun G1 H1 φ1 I1 => ?_⟩
  cases b1 with
  | true => exact iteT ⟨G1, ρ1, φ1, ts, o, I1, nb, h2, k⟩
  | false => exact iteF ⟨G1, ρ1, φ1, ts, o, I1, nb, h2, k⟩
def whileGo (t : BE) (f : SE) : Nat → SE
  | 0, _ => none
  | n + 1, ρ => (t ρ).bind fun p => if p.1 = true then (f p.2).bind fun o => match o with
      | .nx ρ' => whileGo t f n ρ'
      | .ct ρ' => whileGo t f n ρ'
      | .bk ρ' => some (.nx ρ')
      | .rt s ρ' => some (.rt s ρ')
    else some (.nx p.2)
def fuelN : Nat := 1000000000000
def whileS (t : BE) (f : SE) : SE := whileGo t f fuelN
theorem s_while (hp : PassesOwn (model X.prog X.w) X.A X.env X.xe) (hc : DB X F c t) (hb : DSs X F body sf) : DS X F (.While c body [] pos) (whileS t sf) := ps_imp (ps_while hp hc hb) fun D σ H ⟨G, ρ, φ, ts, o, I, nb, hf, k⟩ => by
  unfold whileS at hf
  refine ⟨fun m σ H => ∃ G ρ φ, Fm X.K F G H σ ρ φ ts ∧ whileGo t sf m ρ = some o, ⟨fuelN, G, ρ, φ, I, hf⟩, ?_⟩
  rintro m σ1 H1 ⟨G1, ρ1, φ1, I1, h1⟩
  cases m with
  | zero => cases h1
  | succ n =>
    rw [whileGo] at h1
    obtain ⟨⟨b1, ρ2⟩, h2, h3⟩ := Option.bind_eq_some_iff.mp h1
    refine ⟨G1, ρ1, φ1, ts, b1, ρ2, I1, h2, fun G2 H2 φ2 I2 => ?_⟩
    cases b1 with
    | false => cases h3; exact iteF (k _ _ _ _ I2)
    | true =>
      rw [if_pos rfl] at h3
      obtain ⟨o2, h4, h5⟩ := Option.bind_eq_some_iff.mp h3
      refine iteT ⟨fun σ' H' => ∃ G ρ φ, Fm X.K F G H' σ' ρ φ ts ∧ whileGo t sf n ρ = some o, fun σ' H' q => ⟨n, Nat.lt_succ_self n, q⟩, G2, ρ2, φ2, ts, o2, I2, nb, h4, ?_⟩
      cases o2 with
      | nx ρ3 => exact fun G' H' φ' σ' I' => ⟨G', ρ3, φ', I', h5⟩
      | ct ρ3 => exact fun G' H' φ' σ' I' => ⟨G', ρ3, φ', I', h5⟩
      | bk ρ3 => cases h5; exact k
      | rt s ρ3 => cases h5; exact k
def forGo (tg : GE) (f : SE) : List PyData → SE
  | [], ρ => some (.nx ρ)
  | d :: ds, ρ => (tg d ρ).bind fun ρ1 => (f ρ1).bind fun o => match o with
    | .nx ρ' => forGo tg f ds ρ'
    | .ct ρ' => forGo tg f ds ρ'
    | .bk ρ' => some (.nx ρ')
    | .rt s ρ' => some (.rt s ρ')
def forS (it : IE) (tg : GE) (f : SE) : SE := fun ρ => (it ρ).bind fun p => forGo tg f p.1 p.2
theorem NoBor.mark {ts : List Hd} (nb : NoBor ts) (G : Hp) : NoBor (⟨.non, .mk G, []⟩ :: ts) := fun t ht i => by
  rcases List.mem_cons.mp ht with z | z
  · rw [z]; exact nofun
  · exact nb t z i
theorem s_for {tg iter : Expr} {vs : List Nat} {it : IE} {gg : GE} (hp : PassesOwn (model X.prog X.w) X.A X.env X.xe) (hc : X.calm = true) (hi : DI X F tg iter it) (hg : DG X F tg vs gg) (hb : DSs X F body sf) (hs : ∀ x, foldedSetIterable iter X.env x = pure x := by intro _; rfl) :
    DS X F (.For tg iter body [] pos) (forS it gg sf) := ps_imp (ps_for hp hc hi hg hb hs) fun D σ H ⟨G, ρ, φ, ts, o, I, nb, hf, k⟩ => by
  unfold forS at hf
  obtain ⟨⟨ds, ρ1⟩, h1, hf⟩ := Option.bind_eq_some_iff.mp hf
  simp only at hf
  refine ⟨G, ρ, φ, ts, ds, ρ1, I, h1, fun G1 H1 φ1 J I1 W => ?_⟩
  refine ⟨fun i m σ H => m = ds.length - i ∧ i ≤ ds.length ∧ ∃ G ρ φ, Fm X.K F G H σ ρ φ (⟨.non, .mk G1, []⟩ :: ts) ∧ forGo gg sf (ds.drop i) ρ = some o, ⟨_, rfl, Nat.zero_le _, G1, ρ1, φ1, I1.mark, hf⟩, ?_⟩
  rintro i m σ2 H2 ⟨rfl, hi, G2, ρ2, φ2, I2, hgo⟩
  have l2 : Le G1 G2 := I2.marked List.mem_cons_self
  have hle : Le G1 H2 := fun a o q => I2.gh a o (l2 a o q)
  by_cases hlt : i < ds.length
  · refine .inr ⟨W.go i H2 hle hlt, fun σ' H' => i + 1 ≤ ds.length ∧ ∃ G ρ φ, Fm X.K F G H' σ' ρ φ (⟨.non, .mk G1, []⟩ :: ts) ∧ forGo gg sf (ds.drop (i + 1)) ρ = some o, fun σ' H' q => ⟨ds.length - (i + 1), by omega, rfl, q⟩, fun x H' hy => ?_⟩
    obtain ⟨d, G3, hd, l3, I4, rx⟩ := W.take I2 l2 hlt hy
    have edrop : ds.drop i = d :: ds.drop (i + 1) := by
      obtain ⟨h5, h6⟩ := List.getElem?_eq_some_iff.mp hd
      rw [List.drop_eq_getElem_cons h5, h6]
    rw [edrop, forGo] at hgo
    obtain ⟨ρ4, g1, hgo⟩ := Option.bind_eq_some_iff.mp hgo
    obtain ⟨o2, g2, hgo⟩ := Option.bind_eq_some_iff.mp hgo
    refine ⟨G3, ρ2, φ2, _, d, ρ4, I4, rx, g1, fun t ht j _ => nb.mark G1 t ht j, fun G5 H5 φ5 σ5 I5 _ _ => ?_⟩
    refine ⟨G5, ρ4, φ5, _, o2, I5, nb.mark G1, g2, ?_⟩
    cases o2 with
    | nx ρ5 => exact fun G' H' φ' σ' I' => ⟨hlt, G', ρ5, φ', I', hgo⟩
    | ct ρ5 => exact fun G' H' φ' σ' I' => ⟨hlt, G', ρ5, φ', I', hgo⟩
    | bk ρ5 => cases hgo; exact fun G' H' φ' σ' I' => k _ _ _ _ I'.drop
    | rt s ρ5 => cases hgo; exact fun G' H' φ' σ' v fp I' => k _ _ _ _ _ _ I'.drop2
  · have ei : i = ds.length := by omega
    subst ei
    rw [List.drop_length] at hgo
    cases hgo
    exact .inl ⟨W.stop _ H2 hle (Nat.le_refl _), k _ _ _ _ I2.drop⟩
end
end Dn
namespace Dn
open PySem PyProof.Rows L2
/-! Part 7: defs and their calls. As FnOk of the hand layer, but nothing is being shown (repr) where the def runs -/

structure FnG (P : Program) (w : World) (K : PySem.W.Frag) (mg : Str → Option Value) (base : Heap) (k : Nat) (f : Addr) (fd : FuncData) (ps : List Str) (sp : Sp) : Prop where
  len : ∀ vs H Q E, sp vs H Q E → vs.length = ps.length
  go : ∀ (A : Around) (outer : List PySem.Env) (s : Shared) (H : Hp) (args : Args) (us : List Value) (vs : List V) (Q : VK) (E : XK), Room k A → A.guards = some [] → Env0 P w K mg base A outer s H →
    BindsTo s fd args (ps.zip us) → Vals vs us → sp vs H Q E → codeAny (model P w) A (.call (.ref f) args) (CR CX0 outer P w H s Q E) s
theorem FnG.mono {P : Program} {w : World} {K : PySem.W.Frag} {mg : Str → Option Value} {base : Heap} {j k : Nat} {f : Addr} {fd : FuncData} {ps : List Str} {sp : Sp} (F : FnG P w K mg base j f fd ps sp) (h : j ≤ k) : FnG P w K mg base k f fd ps sp :=
  ⟨F.len, fun A outer s H args us vs Q E hr => F.go A outer s H args us vs Q E (hr.mono h)⟩

section
variable {P : Program} {w : World} {K : PySem.W.Frag} {mg : Str → Option Value} {base : Heap}
/-- a def's body, walked in any context at its entry, gives its promise -/
theorem okG {x qual : Str} {st : Stmt} {f : Addr} {fd : FuncData} {N ps : List Str} {k : Nat} {sp : Sp} (D : Fun K x qual st f fd) (S : FnScope N ps (defScope st)) (len : ∀ vs H Q E, sp vs H Q E → vs.length = ps.length)
    (walk : ∀ (cdv : Value) (A : Around) (outer : List PySem.Env) (s : Shared) (H : Hp) (vs : List V) (Q : VK) (E : XK), CtxOk (cxOf CX0 P w K mg base N qual (defScope st) f cdv A outer s H E).nox → Room k (cxOf CX0 P w K mg base N qual (defScope st) f cdv A outer s H E).nox.A → sp vs H Q E →
      ∃ t, PSs (cxOf CX0 P w K mg base N qual (defScope st) f cdv A outer s H E).nox (defBody st) t ∧ t { nx := fun _ H' => Q .non H', rt := Q } (L2.start N vs) H) : FnG P w K mg base (k + 1) f fd ps sp := by
  obtain ⟨oc, od, kV, doc, pm, an, cdv, ct, osl, efd, lk, hcd⟩ := D.ex
  subst efd
  refine ⟨len, ?_⟩
  intro A outer s H args us vs Q E hr hgd env0 bnd vals hsp
  have hlen := len _ _ _ _ hsp
  have inK : K.In s.heap := env0.mod.kin.keeps fun b o q => (env0.bs b o q).1
  have free : s.heap.NoLimit := env0.mod.nolimit.keeps fun b o q => (env0.bs b o q).1
  have kinds : ∀ y ∈ ps.zip us, (defScope st).names.lookup y.1 = some .local ∨ ((defScope st).names.lookup y.1 = some .cell ∧ ((cellsFrom (s.heap.objs.size + 1) (defScope st).names []).lookup y.1).isSome = true) := by
    rintro ⟨n, v⟩ hy
    cases S.par n (List.of_mem_zip hy).1 with
    | inl q => exact Or.inl q
    | inr q => exact Or.inr ⟨q, PySem.W.cellsFrom_some _ _ _ (Or.inl q)⟩
  apply codeAny_call_function hr.depth (inK _ _ lk) rfl S.co S.gen rfl (PySem.W.codeRec_of inK hcd)
  apply bnd
  apply wpAny_newFunctionEnv_cells S.kind kinds
  intro env hEnv s1 hIn
  subst hEnv
  refine ⟨free.keeps hIn.toInCall.keep, codeAny_func ?_⟩
  have room : Room k (A.deeper (envOfC qual (defScope st) s.heap.objs.size f cdv)) := hr.deeper _
  have units : A.units + 64 + 16 + 3 ≤ cLine := by
    have := hr.un
    omega
  have cx : CtxOk (cxOf CX0 P w K mg base N qual (defScope st) f cdv A outer s H E).nox := by
    refine ⟨rfl, S.nd, ?_, hgd⟩
    show A.units + 3 + 72 < cLine
    have := hr.un
    omega
  obtain ⟨t, ht, hq⟩ := walk cdv A outer s H vs Q E cx room hsp
  have start_ok : Inv (cxOf CX0 P w K mg base N qual (defScope st) f cdv A outer s H E) [] (L2.start N vs) H s1 := inv_start S hr.hd env0 hlen vals hIn
  have ends : ∀ {σ' : L2.St} {H' : Hp} {v : V} {u : Value} {s' : Shared}, Inv (cxOf CX0 P w K mg base N qual (defScope st) f cdv A outer s H E) [] σ' H' s' → RelV v u → Q v H' → CE outer P w H s Q u s' :=
    fun {σ' H' v u s'} J rv q => ⟨v, H', J.os, J.bare, J.base, J.hok, rv, q⟩
  apply wpAny_mono (ht.nox.run [] s1 (L2.start N vs) H _ start_ok hq)
  · intro fl s' hs
    cases fl with
    | ret u => obtain ⟨v, σ', H', J, rv, q⟩ := hs; exact ends J rv q
    | next => obtain ⟨σ', H', J, q⟩ := hs; exact ends (v := V.non) (u := Value.none) J rfl q
    | brk => obtain ⟨_, _, _, q⟩ := hs; exact q.elim
    | cont => obtain ⟨_, _, _, q⟩ := hs; exact q.elim
  · intro e s' hs
    exact hs
end

section
variable {X : Cx} {k : Nat} {f : Addr} {fd : FuncData} {ps : List Str} {sp : Sp} {dvs : List V} {ds : List Value} {x : Str} {p pos : Pos} {e : Expr} {es : List Expr} {ta : TA}
/-- the callee runs -/
theorem run_fnG (C : CtxOk X) (D : FnG X.prog X.w X.K X.mg X.base k f fd ps sp) (hr : Room k X.A) (hb : Binds X.K fd ps []) {pins : List (Addr × Obj)} {σ : L2.St} {H : Hp} {s : Shared} {Q : VK} {us : List Value} {vs : List V}
    (I : Inv X pins σ H s) (r : Vals vs us) (h : sp vs H Q E0) : wpAny (model X.prog X.w) X.A (call (.ref f) us) (EP X pins σ Q) X.xe s := by
  have hl : (us ++ []).length = ps.length := by
    rw [List.append_nil, ← r.length]
    exact D.len _ _ _ _ h
  have bnd := hb s us I.kIn hl
  rw [List.append_nil] at bnd
  apply wpAny_call
  apply codeAny_mono (D.go X.A X.stack s H ⟨us, []⟩ us vs Q E0 hr C.gd I.env0 bnd r h)
  intro res s' hq
  match res, hq with
  | .ok (.ret u), hq => exact I.after hq
theorem pe_callG (C : CtxOk X) (D : FnG X.prog X.w X.K X.mg X.base k f fd ps sp) (hr : Room k X.A) (hg : Gl X x) (hm : X.mg x = some (.ref f)) (hk : PySem.W.keepIn X.K (.ref f) = true) (hb : Binds X.K fd ps []) (ha : PA X (e :: es) ta) (hdb : (x == ("__debug__" : Str)) = false := by decide)
    (he : starEach (e :: es) X.env = (false, eval e X.env) :: starEach es X.env := by rfl) (hpl : (backTo pos (starEach es X.env)).any (·.1) = false := by rfl) : PE X (.Call (.Name x p) (e :: es) [] pos) (tCall sp [] E0 ta) := by
  constructor
  intro pins s σ H Q I h
  apply wpAny_Call_Name_kw
  apply ld_glob I hg hm _ hdb
  apply PySem.W.callWith_K (h₀ := X.base) I.ok.mod.kin hk _ he hpl
  apply thn (ha.run pos pins s σ H _ I h)
  rintro us s1 ⟨vs, H1, I1, r, q⟩
  refine ⟨I1.kIn, ?_⟩
  rw [List.append_nil] at q
  exact run_fnG C D hr hb I1 r q
end

/-! ### the promise of a def over data -/
def flatD : PyData → Bool
  | .list _ => false
  | .dict _ => false
  | .tuple xs => flatAll xs
  | _ => true
where flatAll : List PyData → Bool
  | [] => true
  | x :: xs => flatD x && flatAll xs
def flatS : S → Bool
  | .sh d => flatD d
  | .ls xs => flatD.flatAll xs
  | .dk kvs => flatD.flatAll (kvs.map (·.2))
  | .dt kvs => flatD.flatAll (kvs.map (·.2))
  | .deck _ => true
  | _ => false
/-- what is handed back: nothing of a slot -/
def resS : S → Bool
  | .bor _ => false
  | .scr _ => false
  | .mk _ => false
  | _ => true
def spF (K : PySem.W.Frag) (n : Nat) (g : List PyData → Option S) : Sp := fun vs H Q _ => vs.length = n ∧ ∃ G ds r, Le G H ∧ ShL K G vs ds ∧ g ds = some r ∧
  ∀ G' H' v fp, Le G' H' → Le G G' → Le H H' → (∀ a, H a ≠ none → G a = none → G' a = none) → RelS K [] [] G' H' v r fp → (∀ a ∈ fp, H a = none ∧ G' a = none) → resS r = true → Q v H'
/-- .. of a body: its slots at the entry, what it hands back -/
def startE (n : Nat) (ds : List PyData) : Env := ds.map (fun d => some (.sh d)) ++ List.replicate (n - ds.length) none
def outG : Out → Option S
  | .rt s _ => if resS s = true then some s else none
  | .nx _ => some (.sh .none)
  | _ => none
def bodyG (n m : Nat) (f : SE) (ds : List PyData) : Option S := if ds.length = m then (f (startE n ds)).bind outG else none

theorem startE_get {n i : Nat} {ds : List PyData} {s : S} (h : (startE n ds)[i]? = some (some s)) : ∃ d, ds[i]? = some d ∧ s = .sh d := by
  unfold startE at h
  by_cases hi : i < ds.length
  · rw [List.getElem?_append_left (by simpa using hi), List.getElem?_map] at h
    cases q : ds[i]? with
    | none => rw [q] at h; cases h
    | some d => rw [q] at h; cases h; exact ⟨d, rfl, rfl⟩
  · rw [List.getElem?_append_right (by simpa using hi)] at h
    have := List.mem_of_getElem? h
    have := List.eq_of_mem_replicate this
    cases this
theorem start_get {N : List Str} {vs : List V} {i : Nat} {v : V} (h : vs[i]? = some v) : (L2.start N vs)[i]? = some (some v) := by
  unfold L2.start
  have hi := (List.getElem?_eq_some_iff.mp h).1
  rw [List.getElem?_append_left (by simpa using hi), List.getElem?_map, h] <;> rfl
/-- the frame at a def's entry -/
theorem Fm.entry {K : PySem.W.Frag} {G H : Hp} {N : List Str} {vs : List V} {ds : List PyData} {cs : List Nat} (l : Le G H) (r : ShL K G vs ds) (hn : vs.length ≤ N.length) : Fm K ⟨H, G, [], cs⟩ G H (L2.start N vs) (startE N.length ds) (fun _ => []) [] where
  gh := l
  g0 := fun _ _ q => q
  h0 := fun _ _ q _ => q
  m0 := fun a h => by cases h
  nw := fun _ _ q => q
  len := by
    unfold L2.start startE
    simp only [List.length_append, List.length_map, List.length_replicate, r.length]
  sl := fun i s e => by
    obtain ⟨d, h1, rfl⟩ := startE_get e
    obtain ⟨v, h2, h3⟩ := r.get' h1
    exact ⟨v, start_get h2, rfl, h3⟩
  nb := fun i j e => by
    obtain ⟨d, _, z⟩ := startE_get e
    cases z
  ph := fun i a h => by cases h
  dj := fun i j a h => by cases h
  tm := fun t h => by cases h
  tp := fun t h => by cases h
  md := fun h => absurd rfl h
  tt := List.Pairwise.nil
theorem RelS.out {K : PySem.W.Frag} {cs : List Nat} {σ : L2.St} {G H : Hp} {v : V} {s : S} {fp : List Addr} (h : RelS K cs σ G H v s fp) (r : resS s = true) : RelS K [] [] G H v s fp := by
  cases s with
  | bor i => cases r
  | _ => exact h
theorem RelS.into {K : PySem.W.Frag} {cs : List Nat} {σ : L2.St} {G H : Hp} {v : V} {s : S} {fp : List Addr} (h : RelS K [] [] G H v s fp) (r : resS s = true) : RelS K cs σ G H v s fp := by
  cases s with
  | bor i => cases r
  | _ => exact h
/-- what a body does, told by its denotation, is the promise -/
theorem body_run {K : PySem.W.Frag} {N : List Str} {m : Nat} {cs : List Nat} {f : SE} {vs : List V} {H : Hp} {Q : VK} {E : XK} (hm : m ≤ N.length) (h : spF K m (bodyG N.length m f) vs H Q E) :
    ∃ F, F.cs = cs ∧ tS K F f { nx := fun _ H' => Q .non H', rt := Q } (L2.start N vs) H := by
  obtain ⟨hl, G, ds, r, l, sh, hg, k⟩ := h
  unfold bodyG at hg
  split at hg
  · obtain ⟨o, h1, h2⟩ := Option.bind_eq_some_iff.mp hg
    refine ⟨⟨H, G, [], cs⟩, rfl, G, _, _, [], o, Fm.entry l sh (by rw [hl]; exact hm), (fun t ht => by cases ht), h1, ?_⟩
    cases o with
    | nx ρ' =>
      cases h2
      intro G' H' φ' σ' I
      exact k G' H' .non [] I.gh I.g0 (fun a o q => I.h0 a o q (by exact List.not_mem_nil)) I.nw ⟨rfl, .non⟩ (fun a ha => by cases ha) rfl
    | rt s ρ' =>
      have h2' : (if resS s = true then some s else none) = some r := h2
      split at h2'
      · cases h2'
        intro G' H' φ' σ' v fp I
        exact k G' H' v fp I.gh I.g0 (fun a o q => I.h0 a o q (by exact List.not_mem_nil)) I.nw (I.head.out ‹_›) (fun a ha => ⟨(I.tp _ List.mem_cons_self a ha).2.1, (I.tp _ List.mem_cons_self a ha).1⟩) ‹_›
      · cases h2'
    | bk ρ' => cases h2
    | ct ρ' => cases h2
  · cases hg

/-! ### a call of such a def -/
def callF (g : List PyData → Option S) (ta : AE) : EE := fun ρ => (ta ρ).bind fun p => (viewL p.2 p.1).bind fun ds => (g ds).bind fun r => if flatS r = true then some (r, p.2) else none
/-- .. whose answer may hold on to its arguments: they are shared from then on -/
def callFz (g : List PyData → Option S) (ta : AE) : EE := fun ρ => (ta ρ).bind fun p => (frozeL p.1 p.2).bind fun q => (g q.1).map fun r => (r, q.2)
/-- the addresses of private objects -/
def Prv (φ : Nat → List Addr) (hs : List Hd) (a : Addr) : Prop := ∃ h ∈ hs, a ∈ h.fp ∨ ∃ i, h.s = .bor i ∧ a ∈ φ i
mutual
theorem Sh.flat {K : PySem.W.Frag} {G G' : Hp} (e : ∀ a xs, SqT K G a xs → SqT K G' a xs) : ∀ {v : V} {d : PyData}, Sh K G v d → flatD d = true → Sh K G' v d
  | _, _, .non, _ => .non
  | _, _, .bl b, _ => .bl b
  | _, _, .int i, _ => .int i
  | _, _, .str x, _ => .str x
  | _, _, .lst h r, q => by simp [flatD] at q
  | _, _, .tup h r, q => .tup (e _ _ h) (ShL.flat e r (by simpa [flatD] using q))
  | _, _, .dkk h k r, q => by simp [flatD] at q
  | _, _, .dtt h k r, q => by simp [flatD] at q
theorem ShL.flat {K : PySem.W.Frag} {G G' : Hp} (e : ∀ a xs, SqT K G a xs → SqT K G' a xs) : ∀ {vs : List V} {ds : List PyData}, ShL K G vs ds → flatD.flatAll ds = true → ShL K G' vs ds
  | _, _, .nil, _ => .nil
  | _, _, .cons (d := d) (ds := ds) h r, q => by
    have q' : flatD d = true ∧ flatD.flatAll ds = true := by simpa [flatD.flatAll] using q
    exact .cons (Sh.flat e h q'.1) (ShL.flat e r q'.2)
end
theorem RelS.flat {K : PySem.W.Frag} {G G' H : Hp} {v : V} {s : S} {fp : List Addr} (e : ∀ a xs, SqT K G a xs → SqT K G' a xs) (h : RelS K [] [] G H v s fp) (r : flatS s = true) : RelS K [] [] G' H v s fp := by
  cases s with
  | sh d => exact ⟨h.1, h.2.flat e r⟩
  | ls xs =>
    obtain ⟨a, ys, h1, h2, h3, h4⟩ := h
    exact ⟨a, ys, h1, h2, h3, h4.flat e r⟩
  | dk kvs =>
    obtain ⟨a, ys, h1, h2, h3, h4, h5⟩ := h
    exact ⟨a, ys, h1, h2, h3, h4, h5.flat e r⟩
  | dt kvs =>
    obtain ⟨a, ys, h1, h2, h3, h4, h5⟩ := h
    exact ⟨a, ys, h1, h2, h3, h4, h5.flat e r⟩
  | deck st => exact h
  | scr ns => cases r
  | bor i => cases r
  | mk G1 => cases r
/-- a private object is a list or a dict -/
theorem RelS.kind {K : PySem.W.Frag} {cs : List Nat} {σ : L2.St} {G H : Hp} {v : V} {s : S} {fp : List Addr} (r : RelS K cs σ G H v s fp) : ∀ a ∈ fp, (∃ xs, H a = some (.lst xs)) ∨ (∃ xs, H a = some (.dK xs)) ∨ ∃ xs, H a = some (.dT xs) := by
  intro b hb
  cases s with
  | sh d => rw [r.1] at hb; cases hb
  | ls ds =>
    obtain ⟨a, xs, h1, h2, h3, h4⟩ := r
    rw [h2] at hb; rw [List.mem_singleton.mp hb]; exact .inl ⟨_, h3⟩
  | dk kvs =>
    obtain ⟨a, xs, h1, h2, h3, h4⟩ := r
    rw [h2] at hb; rw [List.mem_singleton.mp hb]; exact .inr (.inl ⟨_, h3⟩)
  | dt kvs =>
    obtain ⟨a, xs, h1, h2, h3, h4⟩ := r
    rw [h2] at hb; rw [List.mem_singleton.mp hb]; exact .inr (.inr ⟨_, h3⟩)
  | deck st =>
    obtain ⟨a, c, h1, h2, h3, h4, h5⟩ := r
    rw [h2] at hb
    rcases List.mem_cons.mp hb with e | e
    · rw [e]; exact .inr (.inl ⟨_, h4⟩)
    · rw [List.mem_singleton.mp e]; exact .inl ⟨_, h5⟩
  | scr ns => rw [r.1] at hb; cases hb
  | bor i => rw [r.1] at hb; cases hb
  | mk G1 => rw [r.1] at hb; cases hb
open Classical in
/-- the shared part as the callee may see it -/
noncomputable def wide (G H : Hp) (P : Addr → Prop) : Hp := fun a => match G a with
  | some o => some o
  | none => if P a then H a else none
open Classical in
noncomputable def narrow (G : Hp) (P : Addr → Prop) : Hp := fun a => if P a then none else G a
section
variable {K : PySem.W.Frag} {F : Entry} {G G' H H' : Hp} {σ : L2.St} {ρ : Env} {φ : Nat → List Addr} {ts all : List Hd} {P : Addr → Prop}
theorem wide_le : Le G (wide G H P) := fun a o e => by unfold wide; rw [e]
theorem wide_in (l : Le G H) : Le (wide G H P) H := fun a o e => by
  unfold wide at e
  cases q : G a with
  | some u => rw [q] at e; cases e; exact l a _ q
  | none =>
    rw [q] at e
    simp only at e
    split at e
    · exact e
    · cases e
theorem wide_none {a : Addr} (g : G a = none) (h : ¬ P a) : wide G H P a = none := by
  unfold wide
  rw [g]
  simp only
  rw [if_neg h]
theorem wide_at {a : Addr} (g : G a = none) (h : P a) : wide G H P a = H a := by
  unfold wide
  rw [g]
  simp only
  rw [if_pos h]
theorem narrow_le : Le (narrow G P) G := fun a o e => by
  unfold narrow at e
  split at e
  · cases e
  · exact e
theorem narrow_out {a : Addr} (h : ¬ P a) : narrow G P a = G a := by unfold narrow; rw [if_neg h]
theorem narrow_in {a : Addr} (h : P a) : narrow G P a = none := by unfold narrow; rw [if_pos h]
theorem Fm.prvOf (I : Fm K F G H σ ρ φ all) {hs : List Hd} (hm : ∀ h ∈ hs, h ∈ all) {a : Addr} (p : Prv φ hs a) : G a = none ∧ H a ≠ none := by
  obtain ⟨h, h1, h2 | ⟨i, _, h2⟩⟩ := p
  · exact ⟨(I.tp h (hm h h1) a h2).1, (I.tm h (hm h h1)).there a h2⟩
  · exact ⟨(I.ph i a h2).1, (I.ph i a h2).2.1⟩
/-- the arguments, seen with their private objects shared -/
theorem Fm.wideL (I : Fm K F G H σ ρ φ all) : ∀ {hs us : List Hd} {ds : List PyData}, (∀ h ∈ us, h ∈ all) → (∀ h ∈ hs, h ∈ us) → Dn.viewL ρ (hs.map Hd.s) = some ds → ShL K (wide G H (Prv φ us)) (hs.map Hd.v) ds
  | [], us, ds, _, _, e => by cases e; exact .nil
  | h :: hs, us, ds, hm, hu, e => by
    simp only [List.map_cons, Dn.viewL] at e
    obtain ⟨d, h1, e⟩ := Option.bind_eq_some_iff.mp e
    obtain ⟨ds', h2, e⟩ := Option.map_eq_some_iff.mp e
    cases e
    refine .cons ?_ (Fm.wideL I hm (fun x hx => hu x (List.mem_cons_of_mem _ hx)) h2)
    have hin := hu h List.mem_cons_self
    have rh := I.tm h (hm h hin)
    have lst : ∀ {a : Addr} {xs : List V} {es : List PyData}, (a ∈ h.fp ∨ ∃ i, h.s = .bor i ∧ a ∈ φ i) → H a = some (.lst xs) → ShL K G xs es → Sh K (wide G H (Prv φ us)) (.ref a) (.list es) := fun {a xs es} p ha r => by
      have pa : Prv φ us a := ⟨h, hin, p⟩
      exact .lst (by rw [wide_at (I.prvOf hm pa).1 pa]; exact ha) (r.mono wide_le)
    obtain ⟨v, s, fp⟩ := h
    simp only at h1 rh lst ⊢
    cases s with
    | sh d' => cases h1; exact rh.2.mono wide_le
    | ls xs =>
      cases h1
      obtain ⟨a, ys, rfl, e2, q1, q2⟩ := rh
      exact lst (.inl (by rw [e2]; exact List.mem_cons_self)) q1 q2
    | bor i =>
      unfold Dn.view at h1
      cases q : ρ[i]? with
      | none => simp only [q] at h1; cases h1
      | some o =>
        cases o with
        | none => simp only [q] at h1; cases h1
        | some s' =>
          have r' := I.slot rh q
          cases s' with
          | sh d' => simp only [q] at h1; cases h1; exact r'.2.mono wide_le
          | ls xs =>
            simp only [q] at h1; cases h1
            obtain ⟨a, ys, rfl, e2, q1, q2⟩ := r'
            exact lst (.inr ⟨i, rfl, by rw [e2]; exact List.mem_cons_self⟩) q1 q2
          | _ => simp only [q] at h1; cases h1
    | _ => cases h1
theorem Fm.prvKind (I : Fm K F G H σ ρ φ all) {hs : List Hd} (hm : ∀ h ∈ hs, h ∈ all) (live : ∀ h ∈ hs, ∀ i, h.s = .bor i → ∃ s, ρ[i]? = some (some s)) {a : Addr} (p : Prv φ hs a) : (∃ xs, H a = some (.lst xs)) ∨ (∃ xs, H a = some (.dK xs)) ∨ ∃ xs, H a = some (.dT xs) := by
  obtain ⟨h, h1, h2 | ⟨i, e, h2⟩⟩ := p
  · exact (I.tm h (hm h h1)).kind a h2
  · obtain ⟨s, q⟩ := live h h1 i e
    obtain ⟨v, _, r⟩ := I.sl i s q
    exact r.kind a h2
end

section
variable {X : Cx} {F : Entry} {k : Nat} {f : Addr} {fd : FuncData} {ps : List Str} {x : Str} {p pos : Pos} {e : Expr} {es : List Expr} {ta : AE} {g : List PyData → Option S}
theorem viewL_live {ρ : Env} : ∀ {hs : List Hd} {ds : List PyData}, viewL ρ (hs.map Hd.s) = some ds → ∀ h ∈ hs, ∀ i, h.s = .bor i → ∃ s, ρ[i]? = some (some s)
  | [], _, _, h, hm, _, _ => by cases hm
  | u :: hs, ds, e, h, hm, i, ei => by
    simp only [List.map_cons, viewL] at e
    obtain ⟨d, h1, e⟩ := Option.bind_eq_some_iff.mp e
    obtain ⟨ds', h2, e⟩ := Option.map_eq_some_iff.mp e
    rcases List.mem_cons.mp hm with z | z
    · subst z
      rw [ei] at h1
      unfold view at h1
      cases q : ρ[i]? with
      | none => simp only [q] at h1; cases h1
      | some o =>
        cases o with
        | none => simp only [q] at h1; cases h1
        | some s' => exact ⟨s', rfl⟩
    · exact viewL_live h2 h z i ei
theorem viewL_length {ρ : Env} : ∀ {rs : List S} {ds : List PyData}, viewL ρ rs = some ds → ds.length = rs.length
  | [], _, e => by cases e; rfl
  | r :: rs, ds, e => by
    simp only [viewL] at e
    obtain ⟨d, h1, e⟩ := Option.bind_eq_some_iff.mp e
    obtain ⟨ds', h2, e⟩ := Option.map_eq_some_iff.mp e
    cases e
    rw [List.length_cons, List.length_cons, viewL_length h2]
theorem callF_run {m : Nat} (hmn : ∀ ds r, g ds = some r → ds.length = m) : ∀ σ H Q, tE X.K F (callF g ta) σ H Q → tCall (spF X.K m g) [] E0 (tAs X.K F ta) σ H Q := fun σ H Q ⟨G, ρ, φ, ts, r, ρ', I, hf, k⟩ => by
  unfold callF at hf
  obtain ⟨⟨rs, ρ1⟩, h1, hf⟩ := Option.bind_eq_some_iff.mp hf
  obtain ⟨ds, h2, hf⟩ := Option.bind_eq_some_iff.mp hf
  obtain ⟨r', h3, hf⟩ := Option.bind_eq_some_iff.mp hf
  simp only at h2 hf
  split at hf
  · rename_i hfl
    cases hf
    refine ⟨G, ρ, φ, ts, rs, _, I, h1, fun G1 H1 φ1 hs e1 I1 => ?_⟩
    subst e1
    have hm : ∀ h ∈ hs, h ∈ hs.reverse ++ ts := fun h hh => List.mem_append_left _ (List.mem_reverse.mpr hh)
    have J := I1.dropN
    rw [List.append_nil]
    refine ⟨by rw [List.length_map, ← hmn _ _ h3, viewL_length h2, List.length_map], wide G1 H1 (Prv φ1 hs), ds, _, wide_in I1.gh, I1.wideL hm (fun h q => q) h2, h3, fun G2 H2 v fp l1 l2 l3 nw rr fr hres => ?_⟩
    have pN : ∀ {a}, Prv φ1 hs a → G1 a = none := fun q => (I1.prvOf hm q).1
    have l4 : Le G1 (narrow G2 (Prv φ1 hs)) := fun a o q => by
      have np : ¬ Prv φ1 hs a := fun z => by rw [pN z] at q; cases q
      rw [narrow_out np]
      exact l2 a o (wide_le a o q)
    have hidden : ∀ a, G1 a = none → H1 a ≠ none → narrow G2 (Prv φ1 hs) a = none := fun a q1 q2 => by
      by_cases z : Prv φ1 hs a
      · exact narrow_in z
      · rw [narrow_out z]
        exact nw a q2 (wide_none q1 z)
    have I2 : Fm X.K F (narrow G2 (Prv φ1 hs)) H2 σ ρ' φ1 ts := J.grow l4 (fun a o q => l1 a o (narrow_le a o q))
      (fun a q1 q2 => by
        cases z : H1 a with
        | none => exact absurd z q2
        | some o => exact l3 a o z)
      (fun i a ha => hidden a (J.ph i a ha).1 (J.ph i a ha).2.1) (fun t ht a ha => hidden a (J.tp t ht a ha).1 ((J.tm t ht).there a ha))
      (fun a q1 q2 => by
        have g1 := J.nw a q1 q2
        by_cases z : a ∈ F.M0
        · exact hidden a g1 (J.m0 a z)
        · cases q : F.H0 a with
          | none => exact absurd q q1
          | some o => exact hidden a g1 (by rw [J.h0 a o q z]; simp))
    have tupN : ∀ a xs, SqT X.K G2 a xs → SqT X.K (narrow G2 (Prv φ1 hs)) a xs := fun a xs q => by
      have np : ∀ o, G2 a = some o → (∀ xs, o ≠ .lst xs) → (∀ xs, o ≠ .dK xs) → (∀ xs, o ≠ .dT xs) → ¬ Prv φ1 hs a := fun o q1 n1 n2 n3 z => by
        rcases I1.prvKind hm (viewL_live h2) z with ⟨ys, hy⟩ | ⟨ys, hy⟩ | ⟨ys, hy⟩
        · have := l3 a _ hy; rw [l1 a o q1] at this; exact n1 _ (Option.some.inj this)
        · have := l3 a _ hy; rw [l1 a o q1] at this; exact n2 _ (Option.some.inj this)
        · have := l3 a _ hy; rw [l1 a o q1] at this; exact n3 _ (Option.some.inj this)
      rcases q with (q | ⟨o, q⟩) | q
      · exact .inl (.inl (by rw [narrow_out (np _ q (fun _ => nofun) (fun _ => nofun) fun _ => nofun)]; exact q))
      · exact .inl (.inr ⟨o, by rw [narrow_out (np _ q (fun _ => nofun) (fun _ => nofun) fun _ => nofun)]; exact q⟩)
      · exact .inr q
    refine k _ H2 φ1 v fp (I2.push (((rr.flat tupN hfl)).into hres) fun a ha => ?_)
    have hfr := (fr a ha).1
    obtain ⟨f0, f1, f2, f3⟩ := J.fresh hfr
    refine ⟨?_, f0, f2, f3⟩
    by_cases z : Prv φ1 hs a
    · exact narrow_in z
    · rw [narrow_out z]; exact (fr a ha).2
  · cases hf
theorem c_call {m : Nat} (C : CtxOk X) (D : FnG X.prog X.w X.K X.mg X.base k f fd ps (spF X.K m g)) (hmn : ∀ ds r, g ds = some r → ds.length = m) (hr : Room k X.A) (hg : Gl X x) (hm : X.mg x = some (.ref f)) (hk : PySem.W.keepIn X.K (.ref f) = true) (hb : Binds X.K fd ps [])
    (ha : DAs X F (e :: es) ta) (hdb : (x == ("__debug__" : Str)) = false := by decide) (he : starEach (e :: es) X.env = (false, eval e X.env) :: starEach es X.env := by rfl) (hpl : (backTo pos (starEach es X.env)).any (·.1) = false := by rfl) :
    DE X F (.Call (.Name x p) (e :: es) [] pos) (callF g ta) := pe_imp (pe_callG C D hr hg hm hk hb ha hdb he hpl) (callF_run hmn)
theorem frozeR_length : ∀ {rs : List S} {ρ ρ' : Env} {ds : List PyData}, frozeR rs ρ = some (ds, ρ') → ds.length = rs.length
  | [], _, _, _, e => by cases e; rfl
  | r :: rs, ρ, ρ', ds, e => by
    simp only [frozeR] at e
    obtain ⟨⟨d, ρ1⟩, h1, e⟩ := Option.bind_eq_some_iff.mp e
    obtain ⟨⟨ds', ρ2⟩, h2, e⟩ := Option.map_eq_some_iff.mp e
    cases e
    rw [List.length_cons, List.length_cons, frozeR_length h2]
theorem callFz_run {m : Nat} : ∀ σ H Q, tE X.K F (callFz g ta) σ H Q → (∀ ds r, g ds = some r → ds.length = m) → tCall (spF X.K m g) [] E0 (tAs X.K F ta) σ H Q := fun σ H Q ⟨G, ρ, φ, ts, r, ρ', I, hf, k⟩ hmn => by
  unfold callFz at hf
  obtain ⟨⟨rs, ρ1⟩, h1, hf⟩ := Option.bind_eq_some_iff.mp hf
  obtain ⟨⟨ds, ρ2⟩, h2, hf⟩ := Option.bind_eq_some_iff.mp hf
  obtain ⟨r', h3, hf⟩ := Option.map_eq_some_iff.mp hf
  cases hf
  refine ⟨G, ρ, φ, ts, rs, _, I, h1, fun G1 H1 φ1 hs e1 I1 => ?_⟩
  subst e1
  obtain ⟨G2, φ2, I2, r2, l2⟩ := I1.frozeL h2
  rw [List.append_nil]
  refine ⟨by rw [r2.length, hmn _ _ h3], G2, ds, _, I2.gh, r2, h3, fun G3 H3 v fp l3 l4 l5 nw rr fr hres => ?_⟩
  have I3 : Fm X.K F G3 H3 σ _ φ2 ts := I2.grow l4 l3
    (fun a q1 q2 => by
      cases z : H1 a with
      | none => exact absurd z q2
      | some o => exact l5 a o z)
    (fun i a ha => nw a (I2.ph i a ha).2.1 (I2.ph i a ha).1) (fun t ht a ha => nw a ((I2.tm t ht).there a ha) (I2.tp t ht a ha).1)
    (fun a q1 q2 => by
      have g1 := I2.nw a q1 q2
      by_cases z : a ∈ F.M0
      · exact nw a (I2.m0 a z) g1
      · cases q : F.H0 a with
        | none => exact absurd q q1
        | some o => exact nw a (by rw [I2.h0 a o q z]; simp) g1)
  refine k _ H3 φ2 v fp (I3.push (rr.into hres) fun a ha => ?_)
  obtain ⟨f0, f1, f2, f3⟩ := I2.fresh (fr a ha).1
  exact ⟨(fr a ha).2, f0, f2, f3⟩
theorem c_callz {m : Nat} (C : CtxOk X) (D : FnG X.prog X.w X.K X.mg X.base k f fd ps (spF X.K m g)) (hmn : ∀ ds r, g ds = some r → ds.length = m) (hr : Room k X.A) (hg : Gl X x) (hm : X.mg x = some (.ref f)) (hk : PySem.W.keepIn X.K (.ref f) = true) (hb : Binds X.K fd ps [])
    (ha : DAs X F (e :: es) ta) (hdb : (x == ("__debug__" : Str)) = false := by decide) (he : starEach (e :: es) X.env = (false, eval e X.env) :: starEach es X.env := by rfl) (hpl : (backTo pos (starEach es X.env)).any (·.1) = false := by rfl) :
    DE X F (.Call (.Name x p) (e :: es) [] pos) (callFz g ta) := pe_imp (pe_callG C D hr hg hm hk hb ha hdb he hpl) fun σ H Q h => callFz_run σ H Q h hmn
theorem bodyG_len {n m : Nat} {f : SE} : ∀ ds r, bodyG n m f ds = some r → ds.length = m := fun ds r h => by
  unfold bodyG at h
  split at h
  · assumption
  · cases h
end
end Dn
namespace Dn
open PySem PyProof.Rows L2
/-! Part 8: a law's script and its deck; lists changed in place -/

theorem key_mixed (b : Bool) : ¬ ((Sum.inr (ckS b) : Key) = .inr "mixed") := by cases b <;> decide
theorem key_draws (b : Bool) : ¬ ((Sum.inr (ckS b) : Key) = .inr "draws") := by cases b <;> decide
theorem key_md : ¬ ((Sum.inr "mixed" : Key) = .inr "draws") := by decide
theorem dk_cells (st : Deck) (c : Addr) : valV (deckKvs st c) (.inr (ckS st.ck)) = some (.ref c) := valV_pos rfl
theorem dk_mixed (st : Deck) (c : Addr) : valV (deckKvs st c) (.inr "mixed") = some (.int st.mixed) := by
  unfold deckKvs
  rw [valV_neg (key_mixed _), valV_pos rfl]
theorem dk_draws (st : Deck) (c : Addr) : valV (deckKvs st c) (.inr "draws") = some (.int st.draws) := by
  unfold deckKvs
  rw [valV_neg (key_draws _), valV_neg key_md, valV_pos rfl]
theorem dk_put (st : Deck) (c : Addr) (n : Int) : putK (deckKvs st c) (.inr "draws") (.int n) = deckKvs { st with draws := n } c := by
  unfold deckKvs putK
  obtain ⟨b, _, _, _⟩ := st
  cases b <;> rfl

section
variable {K : PySem.W.Frag} {F : Entry} {G H : Hp} {σ : L2.St} {ρ : Env} {φ : Nat → List Addr} {ts : List Hd}
theorem deckAt_of {st : Deck} {i : Nat} (e : ρ[i]? = some (some (.deck st))) : deckAt ρ i = true := by unfold deckAt; rw [e] <;> rfl
/-- the deck in slot i, its objects -/
theorem Fm.deck (I : Fm K F G H σ ρ φ ts) {i : Nat} {st : Deck} (e : ρ[i]? = some (some (.deck st))) : ∃ a c, σ[i]? = some (some (.ref a)) ∧ φ i = [a, c] ∧ a ≠ c ∧ H a = some (.dK (deckKvs st c)) ∧ H c = some (.lst (st.cells.map V.int)) ∧ G a = none ∧ G c = none := by
  obtain ⟨v, h1, a, c, rfl, h2, h3, h4, h5⟩ := I.sl i _ e
  exact ⟨a, c, h1, h2, h3, h4, h5, (I.ph i a (by rw [h2]; exact List.mem_cons_self)).1, (I.ph i c (by rw [h2]; exact List.mem_cons_of_mem _ List.mem_cons_self)).1⟩
/-- the deck's cells or numbers have changed -/
theorem Fm.setDeck {H' : Hp} (I : Fm K F G H σ ρ φ ts) {i : Nat} {st st' : Deck} (e : ρ[i]? = some (some (.deck st))) {a c : Addr} (ef : φ i = [a, c]) (ea : σ[i]? = some (some (.ref a))) (ne : a ≠ c) (kp : ∀ b, b ≠ a → b ≠ c → H' b = H b) (h1 : H' a = some (.dK (deckKvs st' c))) (h2 : H' c = some (.lst (st'.cells.map V.int))) :
    Fm K F G H' σ (ρ.set i (some (.deck st'))) φ ts := by
  have ga := (I.ph i a (by rw [ef]; exact List.mem_cons_self)).1
  have gc := (I.ph i c (by rw [ef]; exact List.mem_cons_of_mem _ List.mem_cons_self)).1
  refine I.upAt i _ (fun _ _ q => q) (fun b u q => ?_) (fun b _ _ hb => ?_) (fun b hb => ?_) (fun j b hb => (I.ph j b hb).1) (fun t ht b hb => (I.tp t ht b hb).1) I.nw ⟨_, ea, a, c, rfl, ef, ne, h1, h2⟩ ?_ (fun _ => nofun)
  · rw [kp b (fun z => by rw [z, ga] at q; cases q) (fun z => by rw [z, gc] at q; cases q)]
    exact I.gh b u q
  · rw [ef] at hb
    exact kp b (fun z => hb (by rw [z]; exact List.mem_cons_self)) (fun z => hb (by rw [z]; exact List.mem_cons_of_mem _ List.mem_cons_self))
  · rw [ef] at hb
    rcases List.mem_cons.mp hb with z | z
    · rw [z, h1]; simp
    · rw [List.mem_singleton.mp z, h2]; simp
  · rw [deckAt_of e] <;> rfl
/-- the list in slot i -/
theorem Fm.slotList (I : Fm K F G H σ ρ φ ts) {i : Nat} {ds : List PyData} (e : ρ[i]? = some (some (.ls ds))) : ∃ a xs, σ[i]? = some (some (.ref a)) ∧ φ i = [a] ∧ H a = some (.lst xs) ∧ ShL K G xs ds ∧ G a = none := by
  obtain ⟨v, h1, a, xs, rfl, h2, h3, h4⟩ := I.sl i _ e
  exact ⟨a, xs, h1, h2, h3, h4, (I.ph i a (by rw [h2]; exact List.mem_cons_self)).1⟩
theorem Fm.setList (I : Fm K F G H σ ρ φ ts) {i : Nat} {ds es : List PyData} (e : ρ[i]? = some (some (.ls ds))) {a : Addr} {ys : List V} (ef : φ i = [a]) (ea : σ[i]? = some (some (.ref a))) (r : ShL K G ys es) :
    Fm K F G (L2.upd H a (.lst ys)) σ (ρ.set i (some (.ls es))) φ ts := by
  have ga := (I.ph i a (by rw [ef]; exact List.mem_cons_self)).1
  have nd : deckAt ρ i = false := by unfold deckAt; rw [e] <;> rfl
  refine I.upAt i _ (fun _ _ q => q) (fun b u q => ?_) (fun b _ _ hb => ?_) (fun b hb => ?_) (fun j b hb => (I.ph j b hb).1) (fun t ht b hb => (I.tp t ht b hb).1) I.nw ⟨_, ea, a, ys, rfl, ef, upd_same, r⟩ (by rw [nd]; rfl) (fun _ => nofun)
  · rw [upd_ne (fun z => by rw [z, ga] at q; cases q)]
    exact I.gh b u q
  · rw [ef] at hb
    exact upd_ne (fun z => hb (by rw [z]; exact List.mem_cons_self))
  · rw [ef] at hb
    rw [List.mem_singleton.mp hb, upd_same]; simp
end

section
variable {X : Cx} {F : Entry} {e : Expr} {es : List Expr} {pos p p1 p2 p3 apos : Pos} {f : EE} {ta : AE} {x : Str} {st : Stmt}
/-! ### the deck -/
def deckOf (ρ : Env) (i : Nat) : Option Deck := match ρ[i]? with
  | some (some (.deck st)) => some st
  | _ => none
theorem deckOf_some {ρ : Env} {i : Nat} {st : Deck} (h : deckOf ρ i = some st) : ρ[i]? = some (some (.deck st)) := by
  unfold deckOf at h
  split at h
  · cases h; assumption
  · cases h
def mixedE (i : Nat) : EE := fun ρ => (deckOf ρ i).map fun st => (.sh (.int st.mixed), ρ)
def drawsE (i : Nat) : EE := fun ρ => (deckOf ρ i).map fun st => (.sh (.int st.draws), ρ)
theorem c_mixed (C : CtxOk X) {i j : Nat} (hs : NoSl (.Constant (.str "mixed") j p2)) (h : PE X (.Name x p1) (tVar i)) : DE X F (.Subscript (.Name x p1) (.Constant (.str "mixed") j p2) pos) (mixedE i) := pe_imp (pe_dget (by have := C.un; omega) h pe_str hs) fun σ H Q ⟨G, ρ, φ, ts, r, ρ', I, hf, k⟩ => by
  obtain ⟨st, h1, hf⟩ := Option.map_eq_some_iff.mp hf
  cases hf
  obtain ⟨a, c, q1, q2, q3, q4, q5, _⟩ := I.deck (deckOf_some h1)
  have g := DGet.k (k := .inr "mixed") q4
  rw [dk_mixed] at g
  exact ⟨_, q1, a, _, rfl, g, k _ _ _ _ [] (I.pushD (.int _))⟩
theorem c_draws (C : CtxOk X) {i j : Nat} (hs : NoSl (.Constant (.str "draws") j p2)) (h : PE X (.Name x p1) (tVar i)) : DE X F (.Subscript (.Name x p1) (.Constant (.str "draws") j p2) pos) (drawsE i) := pe_imp (pe_dget (by have := C.un; omega) h pe_str hs) fun σ H Q ⟨G, ρ, φ, ts, r, ρ', I, hf, k⟩ => by
  obtain ⟨st, h1, hf⟩ := Option.map_eq_some_iff.mp hf
  cases hf
  obtain ⟨a, c, q1, q2, q3, q4, q5, _⟩ := I.deck (deckOf_some h1)
  have g := DGet.k (k := .inr "draws") q4
  rw [dk_draws] at g
  exact ⟨_, q1, a, _, rfl, g, k _ _ _ _ [] (I.pushD (.int _))⟩
def putDrawsS (i : Nat) (f : EE) : SE := fun ρ => (f ρ).bind fun q => match view q.2 q.1 with
  | some (.int n) => (deckOf q.2 i).map fun st => .nx (q.2.set i (some (.deck { st with draws := n })))
  | _ => none
theorem s_draws (C : CtxOk X) {i j : Nat} (h : PE X (.Name x p1) (tVar i)) (hv : DE X F e f) (hs : swapsWith e (some (.Subscript (.Name x p1) (.Constant (.str "draws") j p2) p3)) pos.line X.env = pure false := by rfl) :
    DS X F (.Assign [.Subscript (.Name x p1) (.Constant (.str "draws") j p2) p3] e pos) (putDrawsS i f) := ps_imp (ps_dput (by have := C.un; omega) h pe_str hv hs) fun D σ H ⟨G, ρ, φ, ts, o, I, nb, hf, k⟩ => by
  unfold putDrawsS at hf
  obtain ⟨⟨r, ρ1⟩, h1, hf⟩ := Option.bind_eq_some_iff.mp hf
  simp only at hf
  split at hf
  · rename_i n hn
    obtain ⟨st, h2, hf⟩ := Option.map_eq_some_iff.mp hf
    cases hf
    refine ⟨G, ρ, φ, ts, r, ρ1, I, h1, fun G1 H1 φ1 v fp I1 => ?_⟩
    have hx : v = V.int n := (I1.view I1.head hn).int
    obtain ⟨a, c, q1, q2, q3, q4, q5, _⟩ := I1.deck (deckOf_some h2)
    have pt := DPut.k (k := .inr "draws") (v := V.int n) q4 (by show 3 < sizeLine; decide)
    rw [dk_put] at pt
    refine ⟨_, q1, a, _, rfl, by rw [hx]; exact pt, ?_⟩
    have J := I1.drop.setDeck (st' := { st with draws := n }) (H' := L2.upd H1 a (.dK (deckKvs { st with draws := n } c))) (deckOf_some h2) q2 q1 q3 (fun b hb _ => upd_ne hb) upd_same (by rw [upd_ne (Ne.symm q3)]; exact q5)
    exact k _ _ _ _ J
  · cases hf
theorem shaped_ints (ns : List Int) : SeqAt.shaped (.list (ns.map PyData.int)) = true := by
  have h1 : ∀ ns : List Int, PyData.canLayAll0 (ns.map PyData.int) = true := fun ns => by
    induction ns with
    | nil => rfl
    | cons n ns ih => simp [PyData.canLayAll0, PyData.canLay0, ih]
  have h2 : ∀ ns : List Int, PyData.depthAll (ns.map PyData.int) = 0 := fun ns => by
    induction ns with
    | nil => rfl
    | cons n ns ih => simp [PyData.depthAll, PyData.depth, ih]
  unfold SeqAt.shaped
  simp [PyData.canLay0, PyData.depth, h1 ns, h2 ns]
theorem eqv_nil (ns : List Int) : PyData.eqv (.list (ns.map PyData.int)) (.list []) = ns.isEmpty := by
  cases ns with
  | nil => rfl
  | cons n ns => rfl
def cellsB (i : Nat) : BE := fun ρ => (deckOf ρ i).map fun st => (!st.cells.isEmpty, ρ)
theorem b_cells (C : CtxOk X) {i j : Nat} {z : Str} {b : Bool} (hz : z = ckS b) (hs : NoSl (.Constant (.str z) j p2)) (h : PE X (.Name x p1) (tVar i)) :
    DB X F (.Compare (.Subscript (.Name x p1) (.Constant (.str z) j p2) p3) [.NotEq] [.List [] apos] pos) (fun ρ => (cellsB i ρ).bind fun q => if (deckOf ρ i).map Deck.ck = some b then some q else none) :=
  pt_imp (pt_cmpR (op_neD (by have := C.un; omega)) (pe_dget (by have := C.un; omega) h pe_str hs) (pe_lst pa_nil) (nomark _)) fun σ H Q ⟨G, ρ, φ, ts, r, ρ', I, hf, k⟩ => by
    obtain ⟨q, h1, hf⟩ := Option.bind_eq_some_iff.mp hf
    obtain ⟨st, h2, h1⟩ := Option.map_eq_some_iff.mp h1
    cases h1
    split at hf
    · rename_i hb
      cases hf
      rw [h2] at hb
      have hb' : st.ck = b := Option.some.inj hb
      obtain ⟨a, c, q1, q2, q3, q4, q5, _⟩ := I.deck (deckOf_some h2)
      have g := DGet.k (k := .inr z) q4
      rw [hz, ← hb', dk_cells] at g
      refine ⟨_, q1, a, _, rfl, by rw [hz, ← hb']; exact g, Nat.zero_le _, fun l hl => ?_⟩
      have J := I.newP hl (.lst [])
      have nl : c ≠ l := fun e => by rw [e, hl] at q5; cases q5
      refine ⟨.list (st.cells.map PyData.int), .list [], .lst (SqL.of (by rw [upd_ne nl]; exact q5)) ?_, .lst (SqL.of upd_same) .nil, shaped_ints _, rfl, ?_⟩
      · have : ∀ ns : List Int, DpAll X.K (L2.upd H l (.lst [])) (ns.map V.int) (ns.map PyData.int) := fun ns => by
          induction ns with
          | nil => exact .nil
          | cons n ns ih => exact .cons (.int n) ih
        exact this _
      · rw [eqv_nil]
        exact ⟨_, rfl, k _ _ _ J⟩
    · cases hf
def popCellE (i : Nat) (b : Bool) : EE := fun ρ => (deckOf ρ i).bind fun st => if st.ck = b then match st.cells.getLast? with
    | some n => some (.sh (.int n), ρ.set i (some (.deck { st with cells := st.cells.dropLast })))
    | none => none
  else none
theorem c_popCell (C : CtxOk X) {i j : Nat} {z : Str} {b : Bool} (hz : z = ckS b) (hs : NoSl (.Constant (.str z) j p2)) (h : PE X (.Name x p1) (tVar i))
    (hbase : attributeBase (.Subscript (.Name x p1) (.Constant (.str z) j p2) p3) "pop" X.env (eval (.Subscript (.Name x p1) (.Constant (.str z) j p2) p3) X.env) = eval (.Subscript (.Name x p1) (.Constant (.str z) j p2) p3) X.env := by rfl) (hline : (apos.endLine == pos.line) = true := by rfl) :
    DE X F (.Call (.Attribute (.Subscript (.Name x p1) (.Constant (.str z) j p2) p3) "pop" apos) [] [] pos) (popCellE i b) :=
  pe_imp (pe_bm0 PySem.F.plainAttrs_list PySem.F.slot_list_pop PySem.F.type_list_pop mt_pop (pe_dget (by have := C.un; omega) h pe_str hs) hbase hline) fun σ H Q ⟨G, ρ, φ, ts, r, ρ', I, hf, k⟩ => by
    unfold popCellE at hf
    obtain ⟨st, h2, hf⟩ := Option.bind_eq_some_iff.mp hf
    split at hf
    · rename_i hb
      split at hf
      · rename_i n hn
        cases hf
        obtain ⟨a, c, q1, q2, q3, q4, q5, _⟩ := I.deck (deckOf_some h2)
        have g := DGet.k (k := .inr z) q4
        rw [hz, ← hb, dk_cells] at g
        refine ⟨_, q1, a, .ref c, rfl, by rw [hz, ← hb]; exact g, Or.inl ⟨rfl, _, SqL.of q5⟩, c, _, .int n, rfl, rfl, q5, ?_, ?_⟩
        · rw [← List.getLast?_eq_getElem?, List.getLast?_map, hn] <;> rfl
        · have J := I.setDeck (st' := { st with cells := st.cells.dropLast }) (H' := L2.upd H c (.lst (st.cells.map V.int).dropLast)) (deckOf_some h2) q2 q1 q3 (fun b _ hb => upd_ne hb) (by rw [upd_ne q3]; exact q4) (by rw [upd_same, List.map_dropLast])
          exact k _ _ _ _ [] (J.pushD (.int _))
      · cases hf
    · cases hf
def pushCellE (b : Bool) (ta : AE) : EE := fun ρ => (deckOf ρ 0).bind fun st => if st.ck = b then (ta ρ).bind fun q => (viewL q.2 q.1).bind fun ds => match ds with
    | [.int n] => (deckOf q.2 0).bind fun st' => if st'.ck = b ∧ st'.cells.length < 1000000 then some (.sh .none, q.2.set 0 (some (.deck { st' with cells := st'.cells ++ [n] }))) else none
    | _ => none
  else none
theorem c_pushCell (C : CtxOk X) {i j : Nat} {z : Str} {b : Bool} (hz : z = ckS b) (hs : NoSl (.Constant (.str z) j p2)) (h : PE X (.Name x p1) (tVar 0)) (hM : F.M0 ≠ []) (ha : DAs X F [e] ta)
    (hbase : attributeBase (.Subscript (.Name x p1) (.Constant (.str z) j p2) p3) "append" X.env (eval (.Subscript (.Name x p1) (.Constant (.str z) j p2) p3) X.env) = eval (.Subscript (.Name x p1) (.Constant (.str z) j p2) p3) X.env := by rfl)
    (hfew : ((backTo pos (starEach [e] X.env)).all (fun x => !x.1) && (backToKw pos (keywordEach [] X.env)).all (fun x => x.1.isSome) && decide ([e].length + ([] : List Keyword).length + (if ([] : List Keyword).isEmpty then 0 else 1) < 30)) = true := by rfl)
    (hline : (apos.endLine == pos.line) = true := by rfl) (hst : starEach [e] X.env = (false, eval e X.env) :: starEach [] X.env := by rfl) (hpl : (backTo pos (starEach [] X.env)).any (·.1) = false := by rfl) :
    DE X F (.Call (.Attribute (.Subscript (.Name x p1) (.Constant (.str z) j p2) p3) "append" apos) [e] [] pos) (pushCellE b ta) :=
  pe_imp (pe_bm PySem.F.plainAttrs_list PySem.F.slot_list_append PySem.F.type_list_append mt_append (pe_dget (by have := C.un; omega) h pe_str hs) ha hbase hfew hline hst hpl) fun σ H Q ⟨G, ρ, φ, ts, r, ρ', I, hf, k⟩ => by
    unfold pushCellE at hf
    obtain ⟨st, h2, hf⟩ := Option.bind_eq_some_iff.mp hf
    split at hf
    · rename_i hb
      obtain ⟨⟨rs, ρ1⟩, h3, hf⟩ := Option.bind_eq_some_iff.mp hf
      obtain ⟨ds, h4, hf⟩ := Option.bind_eq_some_iff.mp hf
      simp only at h4 hf
      split at hf
      · rename_i n
        obtain ⟨st', h5, hf⟩ := Option.bind_eq_some_iff.mp hf
        split at hf
        · rename_i hb'
          cases hf
          obtain ⟨a, c, q1, q2, q3, q4, q5, _⟩ := I.deck (deckOf_some h2)
          have g := DGet.k (k := .inr z) q4
          rw [hz, ← hb, dk_cells] at g
          refine ⟨_, q1, a, .ref c, rfl, by rw [hz, ← hb]; exact g, Or.inl ⟨rfl, _, SqL.of q5⟩, G, ρ, φ, ts, rs, ρ1, I, h3, fun G1 H1 φ1 hs1 e1 I1 => ?_⟩
          subst e1
          have hm : ∀ h ∈ hs1, h ∈ hs1.reverse ++ ts := fun h hh => List.mem_append_left _ (List.mem_reverse.mpr hh)
          obtain ⟨v, e2, hv⟩ := shwl1 (I1.viewL hm h4)
          have J := I1.dropN
          obtain ⟨a', c', r1, r2, r3, r4, r5, _⟩ := J.deck (deckOf_some h5)
          have e3 : φ1 0 = φ 0 := (J.md hM).1.trans (I.md hM).1.symm
          rw [r2, q2] at e3
          injection e3 with e4 e5
          injection e5 with e6 _
          subst e4 e6
          refine ⟨c', _, v, rfl, e2, r5, ?_, ?_⟩
          · rw [List.length_map]
            exact Nat.lt_of_lt_of_le hb'.2 line_big
          · rw [hv.int]
            have J2 := J.setDeck (st' := { st' with cells := st'.cells ++ [n] }) (H' := L2.upd H1 c' (.lst (st'.cells.map V.int ++ [.int n]))) (deckOf_some h5) r2 r1 r3 (fun b _ hb => upd_ne hb) (by rw [upd_ne r3]; exact r4) (by rw [upd_same, List.map_append]; rfl)
            exact k _ _ _ _ [] (J2.pushD .non)
        · cases hf
      · cases hf
    · cases hf
end
end Dn
namespace Dn
open PySem PyProof.Rows L2
/-! Part 9: defs with a deck, defs with the script, keywords, methods of lists, zip -/

section
variable {X : Cx} {F : Entry} {e e2 : Expr} {es : List Expr} {pos p p1 p2 p3 apos : Pos} {f g h : EE} {ta : AE} {x : Str}

/-! ### the deck is made -/
def deckE (b : Bool) (f g h : EE) : EE := fun ρ => (f ρ).bind fun q1 => match q1.1 with
  | .ls ds => (intsOf ds).bind fun ns => (g q1.2).bind fun q2 => match q2.1 with
    | .sh (.int m) => (h q2.2).bind fun q3 => match q3.1 with
      | .sh (.int n) => some (.deck ⟨b, ns, m, n⟩, q3.2)
      | _ => none
    | _ => none
  | _ => none
theorem merge_deck (b : Bool) (c : Addr) (ns : List Int) (m n : Int) : mergeK [] [(.inr (ckS b), .ref c), (.inr "mixed", .int m), (.inr "draws", .int n)] = deckKvs ⟨b, ns, m, n⟩ c := by
  cases b <;> rfl
theorem c_deck {b : Bool} {z : Str} (hz : z = ckS b) {j1 j2 j3 : Nat} {e1 e3 : Expr} (h1 : DE X F e1 f) (h2 : DE X F e2 g) (h3 : DE X F e3 h) :
    DE X F (.Dict [some (.Constant (.str z) j1 p1), some (.Constant (.str "mixed") j2 p2), some (.Constant (.str "draws") j3 p3)] [e1, e2, e3] pos) (deckE b f g h) :=
  pe_imp (pe_disp (pps_cons pe_str h1 (pps_cons pe_str h2 (pps_cons pe_str h3 pps_nil))) rfl rfl (by simp) (show 3 ≤ 15 by decide)) fun σ H Q ⟨G, ρ, φ, ts, r, ρ', I, hf, k⟩ => by
    intro d hd
    unfold deckE at hf
    obtain ⟨⟨r1, ρ1⟩, q1, hf⟩ := Option.bind_eq_some_iff.mp hf
    simp only at hf
    split at hf
    · rename_i ds
      obtain ⟨ns, qn, hf⟩ := Option.bind_eq_some_iff.mp hf
      obtain ⟨⟨r2, ρ2⟩, q2, hf⟩ := Option.bind_eq_some_iff.mp hf
      simp only at hf
      split at hf
      · rename_i m
        obtain ⟨⟨r3, ρ3⟩, q3, hf⟩ := Option.bind_eq_some_iff.mp hf
        simp only at hf
        split at hf
        · rename_i n
          cases hf
          obtain ⟨f0, f1, f2, f3⟩ := I.fresh hd
          have I0 : Fm X.K F G (L2.upd H d (.dK [])) σ ρ φ (⟨.ref d, .dk [], [d]⟩ :: ts) := (I.newP hd (.dK [])).push ⟨d, [], rfl, rfl, upd_same, rfl, .nil⟩ fun a ha => by
            rw [List.mem_singleton.mp ha]; exact ⟨f1, f0, f2, f3⟩
          refine ⟨G, ρ, φ, _, _, ρ1, I0, q1, fun G1 H1 φ1 v1 fp1 I1 => ?_⟩
          refine ⟨G1, ρ1, φ1, _, _, ρ2, I1, q2, fun G2 H2 φ2 v2 fp2 I2 => ?_⟩
          refine ⟨G2, ρ2, φ2, _, _, _, I2, q3, fun G3 H3 φ3 v3 fp3 I3 => ?_⟩
          have s3 : v3 = .int n := ShW.int (.sc (I3.head.2 : Sh X.K G3 v3 (.int n)) : ShW X.K G3 H3 v3 (.int n))
          have I4 := I3.drop
          have s2 : v2 = .int m := ShW.int (.sc (I4.head.2 : Sh X.K G3 v2 (.int m)) : ShW X.K G3 H3 v2 (.int m))
          have I5 := I4.drop
          obtain ⟨c, xs, e1, e2, hc, rc⟩ := (I5.head : RelS X.K F.cs σ G3 H3 v1 (.ls ds) fp1)
          obtain ⟨d', ws, e3, e4, hdk, hk, _⟩ := (I5.drop.head : RelS X.K F.cs σ G3 H3 (.ref d) (.dk []) [d])
          have ed : d' = d := (List.cons.inj e4).1.symm
          subst ed
          have ews : ws = [] := by
            cases ws with
            | nil => rfl
            | cons _ _ => cases hk
          subst ews
          subst e1 e2 s2 s3
          rw [intsOf_some qn] at rc
          rw [rc.ints] at hc
          refine ⟨hdk, [(.inr z, .ref c), (.inr "mixed", .int m), (.inr "draws", .int n)], rfl, (show 3 ≤ 15 by decide), ?_⟩
          rw [hz, merge_deck b c ns m n]
          have dne : d' ≠ c := fun z => by rw [z, hc] at hdk; cases hdk
          have pw := List.pairwise_cons.mp I5.tt
          have t1 := I5.tp _ List.mem_cons_self c List.mem_cons_self
          have t2 := I5.tp _ (List.mem_cons_of_mem _ List.mem_cons_self) d' List.mem_cons_self
          have J := I5.drop.drop
          have J2 : Fm X.K F G3 (L2.upd H3 d' (.dK (deckKvs ⟨b, ns, m, n⟩ c))) σ ρ' φ3 ts := by
            have nd : ∀ {a}, a ≠ d' → L2.upd H3 d' (.dK (deckKvs ⟨b, ns, m, n⟩ c)) a = H3 a := fun q => upd_ne q
            refine ⟨fun a u q => ?_, J.g0, fun a u q hm => ?_, fun a hm => ?_, J.nw, J.len, fun i s q => ?_, J.nb, fun i a ha => ?_, J.dj, fun t ht => ?_, J.tp, J.md, J.tt⟩
            · rw [nd (fun z => by rw [z, t2.1] at q; cases q)]; exact J.gh a u q
            · rw [nd (fun z => by rw [z, t2.2.1] at q; cases q)]; exact J.h0 a u q hm
            · by_cases z : a = d'
              · rw [z, upd_same]; simp
              · rw [nd z]; exact J.m0 a hm
            · obtain ⟨w, a1, a2⟩ := J.sl i s q
              exact ⟨w, a1, a2.mono (fun _ _ q => q) fun a ha => nd fun z => t2.2.2 i (by rw [← z]; exact ha)⟩
            · obtain ⟨a1, a2, a3⟩ := J.ph i a ha
              exact ⟨a1, by rw [nd fun z => t2.2.2 i (by rw [← z]; exact ha)]; exact a2, a3⟩
            · exact (J.tm t ht).mono (fun _ _ q => q) fun a ha => nd fun z => (List.pairwise_cons.mp pw.2).1 t ht d' List.mem_cons_self (by rw [← z]; exact ha)
          refine k _ _ _ _ [d', c] (J2.push ⟨d', c, rfl, rfl, dne, upd_same, by rw [upd_ne (Ne.symm dne)]; exact hc⟩ fun a ha => ?_)
          rcases List.mem_cons.mp ha with z | z
          · rw [z]; exact ⟨t2.1, t2.2.1, t2.2.2, fun t ht => (List.pairwise_cons.mp pw.2).1 t ht d' List.mem_cons_self⟩
          · rw [List.mem_singleton.mp z]; exact ⟨t1.1, t1.2.1, t1.2.2, fun t ht => pw.1 t (List.mem_cons_of_mem _ ht) c List.mem_cons_self⟩
        · cases hf
      · cases hf
    · cases hf
/-- script[:n] -/
def scrOf (ρ : Env) (i : Nat) : Option (List Int) := match ρ[i]? with
  | some (some (.scr ns)) => some ns
  | _ => none
theorem scrOf_some {ρ : Env} {i : Nat} {ns : List Int} (h : scrOf ρ i = some ns) : ρ[i]? = some (some (.scr ns)) := by
  unfold scrOf at h
  split at h
  · cases h; assumption
  · cases h
def cutScrE (i : Nat) (n : Nat) : EE := fun ρ => (scrOf ρ i).map fun ns => (.ls ((ns.take n).map PyData.int), ρ)
theorem cutV_front (xs : List V) (n : Nat) : cutV xs none (some (n : Int)) = xs.take n := by
  unfold cutV
  rw [HT.sIx_none, HT.sIx_nat]
  simp only [Nat.sub_zero, List.drop_zero]
  rcases Nat.le_total n xs.length with h | h
  · rw [Nat.min_eq_left h]
  · rw [Nat.min_eq_right h, List.take_of_length_le (Nat.le_refl _), List.take_of_length_le h]
theorem c_cutScr {i n j : Nat} (hv : PE X (.Name x p1) (tVar i)) : DE X F (.Subscript (.Name x p1) (.Slice none (some (.Constant (.int (n : Nat)) j p2)) none p3) pos) (cutScrE i n) :=
  pe_imp (pe_slice sl_list hv po_none (po_some pe_int)) fun σ H Q ⟨G, ρ, φ, ts, r, ρ', I, hf, k⟩ => by
    unfold cutScrE at hf
    obtain ⟨ns, h1, hf⟩ := Option.map_eq_some_iff.mp hf
    cases hf
    obtain ⟨v, h2, _, a, rfl, h3⟩ := I.sl i _ (scrOf_some h1)
    refine ⟨_, h2, _, rfl, a, _, rfl, Le.sqL I.gh h3, fun q hq => ?_⟩
    rw [cutV_front, ← List.map_take]
    exact k _ _ _ _ _ (I.newL hq (shl_ints _))

/-! ### defs of a deck -/
def spK (K : PySem.W.Frag) (n : Nat) (g : Deck → List PyData → Option (S × Deck)) : Sp := fun vs H Q _ => vs.length = n + 1 ∧ ∃ G a c st ds r st' us, vs = .ref a :: us ∧ Le G H ∧ a ≠ c ∧ G a = none ∧ G c = none ∧ H a = some (.dK (deckKvs st c)) ∧ H c = some (.lst (st.cells.map V.int)) ∧ ShL K G us ds ∧ g st ds = some (r, st') ∧
  ∀ G' H' v fp, Le G' H' → Le G G' → (∀ b o, H b = some o → b ≠ a → b ≠ c → H' b = some o) → H' a = some (.dK (deckKvs st' c)) → H' c = some (.lst (st'.cells.map V.int)) → (∀ b, H b ≠ none → G b = none → G' b = none) → RelS K [] [] G' H' v r fp → (∀ b ∈ fp, H b = none ∧ G' b = none) → resS r = true → Q v H'
def startK (n : Nat) (st : Deck) (ds : List PyData) : Env := some (.deck st) :: (ds.map (fun d => some (.sh d)) ++ List.replicate (n - 1 - ds.length) none)
def outK (o : Out) : Option (S × Deck) := match o with
  | .rt s ρ => if resS s = true then (deckOf ρ 0).map fun st => (s, st) else none
  | .nx ρ => (deckOf ρ 0).map fun st => (.sh .none, st)
  | _ => none
def bodyK (n m : Nat) (f : SE) (st : Deck) (ds : List PyData) : Option (S × Deck) := if ds.length = m then (f (startK n st ds)).bind outK else none
theorem startK_get {n i : Nat} {st : Deck} {ds : List PyData} {s : S} (h : (startK n st ds)[i]? = some (some s)) : (i = 0 ∧ s = .deck st) ∨ ∃ j d, i = j + 1 ∧ ds[j]? = some d ∧ s = .sh d := by
  unfold startK at h
  cases i with
  | zero => simp at h; exact .inl ⟨rfl, h.symm⟩
  | succ j =>
    rw [List.getElem?_cons_succ] at h
    by_cases hi : j < ds.length
    · rw [List.getElem?_append_left (by simpa using hi), List.getElem?_map] at h
      cases q : ds[j]? with
      | none => rw [q] at h; cases h
      | some d => rw [q] at h; cases h; exact .inr ⟨j, d, rfl, q, rfl⟩
    · rw [List.getElem?_append_right (by simpa using hi)] at h
      have := List.eq_of_mem_replicate (List.mem_of_getElem? h)
      cases this
theorem Fm.entryK {K : PySem.W.Frag} {G H : Hp} {N : List Str} {us : List V} {ds : List PyData} {cs : List Nat} {a c : Addr} {st : Deck} (l : Le G H) (ne : a ≠ c) (ga : G a = none) (gc : G c = none) (ha : H a = some (.dK (deckKvs st c))) (hc : H c = some (.lst (st.cells.map V.int))) (r : ShL K G us ds) (hn : us.length + 1 ≤ N.length) :
    Fm K ⟨H, G, [a, c], cs⟩ G H (L2.start N (.ref a :: us)) (startK N.length st ds) (fun i => if i = 0 then [a, c] else []) [] where
  gh := l
  g0 := fun _ _ q => q
  h0 := fun _ _ q _ => q
  m0 := fun b hb => by
    rcases List.mem_cons.mp hb with z | z
    · rw [z, ha]; simp
    · rw [List.mem_singleton.mp z, hc]; simp
  nw := fun _ _ q => q
  len := by
    unfold L2.start startK
    simp only [List.length_append, List.length_map, List.length_replicate, List.length_cons, r.length]
    omega
  sl := fun i s e => by
    rcases startK_get e with ⟨rfl, rfl⟩ | ⟨j, d, rfl, h1, rfl⟩
    · exact ⟨.ref a, rfl, a, c, rfl, by simp, ne, ha, hc⟩
    · obtain ⟨v, h2, h3⟩ := r.get' h1
      exact ⟨v, start_get (by rw [List.getElem?_cons_succ]; exact h2), by simp, h3⟩
  nb := fun i j e => by
    rcases startK_get e with ⟨_, z⟩ | ⟨_, _, _, _, z⟩ <;> cases z
  ph := fun i b hb => by
    by_cases z : i = 0
    · subst z
      rw [if_pos rfl] at hb
      rcases List.mem_cons.mp hb with y | y
      · rw [y]; exact ⟨ga, by rw [ha]; simp, .inr ⟨List.mem_cons_self, rfl⟩⟩
      · rw [List.mem_singleton.mp y]; exact ⟨gc, by rw [hc]; simp, .inr ⟨List.mem_cons_of_mem _ List.mem_cons_self, rfl⟩⟩
    · rw [if_neg z] at hb; cases hb
  dj := fun i j b hb hb' => by
    by_cases z : i = 0
    · by_cases y : j = 0
      · rw [z, y]
      · rw [if_neg y] at hb'; cases hb'
    · rw [if_neg z] at hb; cases hb
  tm := fun t h => by cases h
  tp := fun t h => by cases h
  md := fun _ => ⟨rfl, rfl⟩
  tt := List.Pairwise.nil
theorem bodyK_run {K : PySem.W.Frag} {N : List Str} {m : Nat} {cs : List Nat} {f : SE} {vs : List V} {H : Hp} {Q : VK} {E : XK} (hm : m + 1 ≤ N.length) (h : spK K m (bodyK N.length m f) vs H Q E) :
    ∃ F, F.cs = cs ∧ F.M0 ≠ [] ∧ tS K F f { nx := fun _ H' => Q .non H', rt := Q } (L2.start N vs) H := by
  obtain ⟨hl, G, a, c, st, ds, r, st', us, rfl, l, ne, ga, gc, ha, hc, sh, hg, k⟩ := h
  unfold bodyK at hg
  split at hg
  · rename_i hd
    obtain ⟨o, h1, h2⟩ := Option.bind_eq_some_iff.mp hg
    have ends : ∀ {G' H' φ' σ' ρ' ts}, Fm K ⟨H, G, [a, c], cs⟩ G' H' σ' ρ' φ' ts → deckOf ρ' 0 = some st' → H' a = some (.dK (deckKvs st' c)) ∧ H' c = some (.lst (st'.cells.map V.int)) := fun {G' H' φ' σ' ρ' ts} I e => by
      obtain ⟨a', c', q1, q2, q3, q4, q5, _⟩ := I.deck (deckOf_some e)
      have e2 := (I.md (by simp)).1
      rw [q2] at e2
      injection e2 with e3 e4
      injection e4 with e5 _
      subst e3 e5
      exact ⟨q4, q5⟩
    have kept : ∀ {G' H' φ' σ' ρ' ts}, Fm K ⟨H, G, [a, c], cs⟩ G' H' σ' ρ' φ' ts → ∀ b o, H b = some o → b ≠ a → b ≠ c → H' b = some o := fun I b o q n1 n2 => I.h0 b o q fun hm => by
      rcases List.mem_cons.mp hm with z | z
      · exact n1 z
      · exact n2 (List.mem_singleton.mp z)
    refine ⟨⟨H, G, [a, c], cs⟩, rfl, by simp, G, _, _, [], o, Fm.entryK l ne ga gc ha hc sh (by rw [sh.length, hd]; exact hm), (fun t ht => by cases ht), h1, ?_⟩
    cases o with
    | nx ρ' =>
      have h2' : (deckOf ρ' 0).map (fun st => (S.sh .none, st)) = some (r, st') := h2
      obtain ⟨sx, e1, e2⟩ := Option.map_eq_some_iff.mp h2'
      cases e2
      intro G' H' φ' σ' I
      obtain ⟨q1, q2⟩ := ends I e1
      exact k G' H' .non [] I.gh I.g0 (kept I) q1 q2 I.nw ⟨rfl, .non⟩ (fun a ha => by cases ha) rfl
    | rt s ρ' =>
      have h2' : (if resS s = true then (deckOf ρ' 0).map fun st => (s, st) else none) = some (r, st') := h2
      split at h2'
      · obtain ⟨sx, e1, e2⟩ := Option.map_eq_some_iff.mp h2'
        cases e2
        intro G' H' φ' σ' v fp I
        obtain ⟨q1, q2⟩ := ends I e1
        exact k G' H' v fp I.gh I.g0 (kept I) q1 q2 I.nw (I.head.out ‹_›) (fun a ha => ⟨(I.tp _ List.mem_cons_self a ha).2.1, (I.tp _ List.mem_cons_self a ha).1⟩) ‹_›
      · cases h2'
    | bk ρ' => cases h2
    | ct ρ' => cases h2
  · cases hg

/-! ### a call of such a def -/
def callK (g : Deck → List PyData → Option (S × Deck)) (ta : AE) : EE := fun ρ => (ta ρ).bind fun p => match p.1 with
  | .bor i :: rs => (deckOf p.2 i).bind fun st => (viewL p.2 rs).bind fun ds => (g st ds).bind fun r => if flatS r.1 = true then some (r.1, p.2.set i (some (.deck r.2))) else none
  | _ => none
theorem view_deck {ρ : Env} {i : Nat} {st : Deck} (h : deckOf ρ i = some st) : view ρ (.bor i) = none := by
  unfold view
  simp only [deckOf_some h]
theorem view_no : ∀ {ρ : Env} {hs : List Hd} {ds : List PyData}, viewL ρ (hs.map Hd.s) = some ds → ∀ h ∈ hs, view ρ h.s ≠ none
  | _, [], _, _, h, hm => by cases hm
  | ρ, u :: hs, ds, e, h, hm => by
    simp only [List.map_cons, viewL] at e
    obtain ⟨d, h1, e⟩ := Option.bind_eq_some_iff.mp e
    obtain ⟨ds', h2, e⟩ := Option.map_eq_some_iff.mp e
    rcases List.mem_cons.mp hm with z | z
    · rw [z, h1]; simp
    · exact view_no h2 h z
theorem callK_run {m : Nat} {gg : Deck → List PyData → Option (S × Deck)} (hmn : ∀ st ds r, gg st ds = some r → ds.length = m) : ∀ σ H Q, tE X.K F (callK gg ta) σ H Q → tCall (spK X.K m gg) [] E0 (tAs X.K F ta) σ H Q := fun σ H Q ⟨G, ρ, φ, ts, r, ρ', I, hf, k⟩ => by
  unfold callK at hf
  obtain ⟨⟨rs0, ρ1⟩, h1, hf⟩ := Option.bind_eq_some_iff.mp hf
  simp only at hf
  split at hf
  · rename_i i rs
    obtain ⟨st, hst, hf⟩ := Option.bind_eq_some_iff.mp hf
    obtain ⟨ds, h2, hf⟩ := Option.bind_eq_some_iff.mp hf
    obtain ⟨⟨r', st'⟩, h3, hf⟩ := Option.bind_eq_some_iff.mp hf
    simp only at h2 hf
    split at hf
    · rename_i hfl
      cases hf
      refine ⟨G, ρ, φ, ts, _, _, I, h1, fun G1 H1 φ1 hs0 e1 I1 => ?_⟩
      obtain ⟨u, hs, rfl, eu, e2⟩ : ∃ u hs, hs0 = u :: hs ∧ u.s = .bor i ∧ hs.map Hd.s = rs := by
        cases hs0 with
        | nil => cases e1
        | cons u hs => exact ⟨u, hs, rfl, (List.cons.inj e1).1, (List.cons.inj e1).2⟩
      subst e2
      have hmA : ∀ h ∈ u :: hs, h ∈ (u :: hs).reverse ++ ts := fun h hh => List.mem_append_left _ (List.mem_reverse.mpr hh)
      have hm : ∀ h ∈ hs, h ∈ (u :: hs).reverse ++ ts := fun h hh => hmA h (List.mem_cons_of_mem _ hh)
      have J := I1.dropN
      obtain ⟨a, c, q1, q2, q3, q4, q5, q6, q7⟩ := J.deck (deckOf_some hst)
      have ru := I1.tm u (hmA u List.mem_cons_self)
      rw [eu] at ru
      have ev : u.v = .ref a := by
        have := ru.2.2
        rw [q1] at this
        exact (Option.some.inj (Option.some.inj this)).symm
      have notP : ∀ b, b ∈ φ1 i → ¬ Prv φ1 hs b := fun b hb ⟨h, hh, z⟩ => by
        rcases z with z | ⟨j, ej, z⟩
        · exact (I1.tp h (hm h hh) b z).2.2 i hb
        · have ij : j = i := J.dj j i b z hb
          subst ij
          have := view_no h2 h hh
          rw [ej, view_deck hst] at this
          exact this rfl
      have ma : a ∈ φ1 i := by rw [q2]; exact List.mem_cons_self
      have mc : c ∈ φ1 i := by rw [q2]; exact List.mem_cons_of_mem _ List.mem_cons_self
      rw [List.append_nil]
      refine ⟨by rw [List.length_map, List.length_cons, ← hmn _ _ _ h3, viewL_length h2, List.length_map], wide G1 H1 (Prv φ1 hs), a, c, st, ds, _, st', hs.map Hd.v, by rw [List.map_cons, ev], wide_in I1.gh, q3, wide_none q6 (notP a ma), wide_none q7 (notP c mc), q4, q5, I1.wideL hm (fun h q => q) h2, h3, fun G2 H2 v fp l1 l2 l3 w1 w2 nw rr fr hres => ?_⟩
      have pN : ∀ {b}, Prv φ1 hs b → G1 b = none := fun q => (I1.prvOf hm q).1
      have l4 : Le G1 (narrow G2 (Prv φ1 hs)) := fun b o q => by
        have np : ¬ Prv φ1 hs b := fun z => by rw [pN z] at q; cases q
        rw [narrow_out np]
        exact l2 b o (wide_le b o q)
      have hidden : ∀ b, G1 b = none → H1 b ≠ none → narrow G2 (Prv φ1 hs) b = none := fun b y1 y2 => by
        by_cases z : Prv φ1 hs b
        · exact narrow_in z
        · rw [narrow_out z]
          exact nw b y2 (wide_none y1 z)
      have kp : ∀ b, G1 b = none → H1 b ≠ none → b ∉ φ1 i → H2 b = H1 b := fun b y1 y2 y3 => by
        cases z : H1 b with
        | none => exact absurd z y2
        | some o => exact l3 b o z (fun e => y3 (by rw [e]; exact ma)) (fun e => y3 (by rw [e]; exact mc))
      have I2 : Fm X.K F (narrow G2 (Prv φ1 hs)) H2 σ (ρ1.set i (some (.deck st'))) φ1 ts := J.upAt i _ l4 (fun b o q => l1 b o (narrow_le b o q)) kp
        (fun b hb => by
          rw [q2] at hb
          rcases List.mem_cons.mp hb with z | z
          · rw [z, w1]; simp
          · rw [List.mem_singleton.mp z, w2]; simp)
        (fun j b hb => hidden b (J.ph j b hb).1 (J.ph j b hb).2.1) (fun t ht b hb => hidden b (J.tp t ht b hb).1 ((J.tm t ht).there b hb))
        (fun b y1 y2 => by
          have g1 := J.nw b y1 y2
          by_cases z : b ∈ F.M0
          · exact hidden b g1 (J.m0 b z)
          · cases q : F.H0 b with
            | none => exact absurd q y1
            | some o => exact hidden b g1 (by rw [J.h0 b o q z]; simp))
        ⟨_, q1, a, c, rfl, q2, q3, w1, w2⟩ (by rw [deckAt_of (deckOf_some hst)]; rfl) (fun _ => nofun)
      have tupN : ∀ b xs, SqT X.K G2 b xs → SqT X.K (narrow G2 (Prv φ1 hs)) b xs := fun b xs q => by
        have np : ∀ o, G2 b = some o → (∀ xs, o ≠ .lst xs) → (∀ xs, o ≠ .dK xs) → (∀ xs, o ≠ .dT xs) → ¬ Prv φ1 hs b := fun o y1 n1 n2 n3 z => by
          have nb : b ∉ φ1 i := fun hb => notP b hb z
          have same := kp b (pN z) (I1.prvOf hm z).2 nb
          have e := l1 b o y1
          rw [same] at e
          rcases I1.prvKind hm (viewL_live h2) z with ⟨ys, hy⟩ | ⟨ys, hy⟩ | ⟨ys, hy⟩
          · rw [hy] at e; exact n1 _ (Option.some.inj e).symm
          · rw [hy] at e; exact n2 _ (Option.some.inj e).symm
          · rw [hy] at e; exact n3 _ (Option.some.inj e).symm
        rcases q with (q | ⟨o, q⟩) | q
        · exact .inl (.inl (by rw [narrow_out (np _ q (fun _ => nofun) (fun _ => nofun) fun _ => nofun)]; exact q))
        · exact .inl (.inr ⟨o, by rw [narrow_out (np _ q (fun _ => nofun) (fun _ => nofun) fun _ => nofun)]; exact q⟩)
        · exact .inr q
      refine k _ H2 φ1 v fp (I2.push ((rr.flat tupN hfl).into hres) fun b hb => ?_)
      obtain ⟨f0, f1, f2, f3⟩ := J.fresh (fr b hb).1
      refine ⟨?_, f0, f2, f3⟩
      by_cases z : Prv φ1 hs b
      · exact narrow_in z
      · rw [narrow_out z]; exact (fr b hb).2
    · cases hf
  · cases hf
theorem c_callK {k m : Nat} {fa : Addr} {fd : FuncData} {ps : List Str} {gg : Deck → List PyData → Option (S × Deck)} (C : CtxOk X) (D : FnG X.prog X.w X.K X.mg X.base k fa fd ps (spK X.K m gg)) (hmn : ∀ st ds r, gg st ds = some r → ds.length = m) (hr : Room k X.A) (hg : Gl X x) (hm : X.mg x = some (.ref fa)) (hk : PySem.W.keepIn X.K (.ref fa) = true) (hb : Binds X.K fd ps [])
    (ha : DAs X F (e :: es) ta) (hdb : (x == ("__debug__" : Str)) = false := by decide) (he : starEach (e :: es) X.env = (false, eval e X.env) :: starEach es X.env := by rfl) (hpl : (backTo pos (starEach es X.env)).any (·.1) = false := by rfl) :
    DE X F (.Call (.Name x p) (e :: es) [] pos) (callK gg ta) := pe_imp (pe_callG C D hr hg hm hk hb ha hdb he hpl) (callK_run hmn)
theorem bodyK_len {n m : Nat} {f : SE} : ∀ st ds r, bodyK n m f st ds = some r → ds.length = m := fun st ds r h => by
  unfold bodyK at h
  split at h
  · assumption
  · cases h

/-! ### defs of the script -/
def spN (K : PySem.W.Frag) (g : List Int → Option S) : Sp := fun vs H Q _ => vs.length = 1 ∧ ∃ G a ns r, vs = [.ref a] ∧ Le G H ∧ SqL K G a (ns.map V.int) ∧ g ns = some r ∧
  ∀ G' H' v fp, Le G' H' → Le G G' → Le H H' → (∀ a, H a ≠ none → G a = none → G' a = none) → RelS K [] [] G' H' v r fp → (∀ a ∈ fp, H a = none ∧ G' a = none) → resS r = true → Q v H'
def startN (n : Nat) (ns : List Int) : Env := some (.scr ns) :: List.replicate (n - 1) none
def bodyN (n : Nat) (f : SE) (ns : List Int) : Option S := (f (startN n ns)).bind outG
theorem bodyN_run {K : PySem.W.Frag} {N : List Str} {cs : List Nat} {f : SE} {vs : List V} {H : Hp} {Q : VK} {E : XK} (hm : 1 ≤ N.length) (h : spN K (bodyN N.length f) vs H Q E) :
    ∃ F, F.cs = cs ∧ tS K F f { nx := fun _ H' => Q .non H', rt := Q } (L2.start N vs) H := by
  obtain ⟨hl, G, a, ns, r, rfl, l, hS, hg, k⟩ := h
  obtain ⟨o, h1, h2⟩ := Option.bind_eq_some_iff.mp hg
  have gets : ∀ {i : Nat} {s : S}, (startN N.length ns)[i]? = some (some s) → i = 0 ∧ s = .scr ns := fun {i s} e => by
    unfold startN at e
    cases i with
    | zero => simp at e; exact ⟨rfl, e.symm⟩
    | succ j =>
      rw [List.getElem?_cons_succ] at e
      have := List.eq_of_mem_replicate (List.mem_of_getElem? e)
      cases this
  have I0 : Fm K ⟨H, G, [], cs⟩ G H (L2.start N [.ref a]) (startN N.length ns) (fun _ => []) [] :=
    { gh := l, g0 := fun _ _ q => q, h0 := fun _ _ q _ => q, m0 := (fun a h => by cases h), nw := fun _ _ q => q
      len := by
        unfold L2.start startN
        simp only [List.length_append, List.length_map, List.length_replicate, List.length_cons, List.length_nil]
        omega
      sl := fun i s e => by
        obtain ⟨rfl, rfl⟩ := gets e
        exact ⟨.ref a, rfl, rfl, a, rfl, hS⟩
      nb := fun i j e => by
        obtain ⟨_, z⟩ := gets e
        cases z
      ph := fun i a h => by cases h
      dj := fun i j a h => by cases h
      tm := fun t h => by cases h
      tp := fun t h => by cases h
      md := fun h => absurd rfl h
      tt := List.Pairwise.nil }
  refine ⟨⟨H, G, [], cs⟩, rfl, G, _, _, [], o, I0, (fun t ht => by cases ht), h1, ?_⟩
  cases o with
  | nx ρ' =>
    cases h2
    intro G' H' φ' σ' I
    exact k G' H' .non [] I.gh I.g0 (fun a o q => I.h0 a o q (by exact List.not_mem_nil)) I.nw ⟨rfl, .non⟩ (fun a ha => by cases ha) rfl
  | rt s ρ' =>
    have h2' : (if resS s = true then some s else none) = some r := h2
    split at h2'
    · cases h2'
      intro G' H' φ' σ' v fp I
      exact k G' H' v fp I.gh I.g0 (fun a o q => I.h0 a o q (by exact List.not_mem_nil)) I.nw (I.head.out ‹_›) (fun a ha => ⟨(I.tp _ List.mem_cons_self a ha).2.1, (I.tp _ List.mem_cons_self a ha).1⟩) ‹_›
    · cases h2'
  | bk ρ' => cases h2
  | ct ρ' => cases h2
def callN (g : List Int → Option S) (i : Nat) : EE := fun ρ => (scrOf ρ i).bind fun ns => (g ns).bind fun r => if flatS r = true then some (r, ρ) else none
theorem c_callN {k i : Nat} {fa : Addr} {fd : FuncData} {ps : List Str} {y : Str} {gg : List Int → Option S} (C : CtxOk X) (D : FnG X.prog X.w X.K X.mg X.base k fa fd ps (spN X.K gg)) (hr : Room k X.A) (hg : Gl X x) (hm : X.mg x = some (.ref fa)) (hk : PySem.W.keepIn X.K (.ref fa) = true) (hb : Binds X.K fd ps [])
    (ha : PE X (.Name y p1) (tVar i)) (hdb : (x == ("__debug__" : Str)) = false := by decide) (he : starEach [.Name y p1] X.env = (false, eval (.Name y p1) X.env) :: starEach [] X.env := by rfl) (hpl : (backTo pos (starEach [] X.env)).any (·.1) = false := by rfl) :
    DE X F (.Call (.Name x p) [.Name y p1] [] pos) (callN gg i) := pe_imp (pe_callG C D hr hg hm hk hb (pa_cons ha pa_nil he) hdb he hpl) fun σ H Q ⟨G, ρ, φ, ts, r, ρ', I, hf, kk⟩ => by
  unfold callN at hf
  obtain ⟨ns, h1, hf⟩ := Option.bind_eq_some_iff.mp hf
  obtain ⟨r', h3, hf⟩ := Option.bind_eq_some_iff.mp hf
  split at hf
  · cases hf
    obtain ⟨v, h2, _, a, rfl, h4⟩ := I.sl i _ (scrOf_some h1)
    refine ⟨_, h2, rfl, G, a, ns, _, rfl, I.gh, h4, h3, fun G3 H3 v fp l3 l4 l5 nw rr fr hres => ?_⟩
    have I3 : Fm X.K F G3 H3 σ _ φ ts := I.grow l4 l3
      (fun a q1 q2 => by
        cases z : H a with
        | none => exact absurd z q2
        | some o => exact l5 a o z)
      (fun i a ha => nw a (I.ph i a ha).2.1 (I.ph i a ha).1) (fun t ht a ha => nw a ((I.tm t ht).there a ha) (I.tp t ht a ha).1)
      (fun a q1 q2 => by
        have g1 := I.nw a q1 q2
        by_cases z : a ∈ F.M0
        · exact nw a (I.m0 a z) g1
        · cases q : F.H0 a with
          | none => exact absurd q q1
          | some o => exact nw a (by rw [I.h0 a o q z]; simp) g1)
    refine kk _ H3 φ v fp (I3.push (rr.into hres) fun a ha => ?_)
    obtain ⟨f0, f1, f2, f3⟩ := I.fresh (fr a ha).1
    exact ⟨(fr a ha).2, f0, f2, f3⟩
  · cases hf
end
end Dn
namespace Dn
open PySem PyProof.Rows L2
/-! Part 10: methods of lists in slots, keywords, zip, enumerate -/
section
variable {X : Cx} {F : Entry} {tg e e2 : Expr} {es : List Expr} {pos p p1 p2 p3 apos : Pos} {f g h : EE} {ta : AE} {x : Str}

/-! ### xs.append(e), xs.extend(e), xs.pop() -/
def lsOf (ρ : Env) (i : Nat) : Option (List PyData) := match ρ[i]? with
  | some (some (.ls ds)) => some ds
  | _ => none
theorem lsOf_some {ρ : Env} {i : Nat} {ds : List PyData} (h : lsOf ρ i = some ds) : ρ[i]? = some (some (.ls ds)) := by
  unfold lsOf at h
  split at h
  · cases h; assumption
  · cases h
/-- the item is shared, the list is looked at behind it -/
def appendE (i : Nat) (ta : AE) : EE := fun ρ => (lsOf ρ i).bind fun _ => (ta ρ).bind fun p => match p.1 with
  | [r] => (froze p.2 r).bind fun q => (lsOf q.2 i).bind fun ds => if ds.length < 1000000 then some (.sh .none, q.2.set i (some (.ls (ds ++ [q.1])))) else none
  | _ => none
theorem list1 {hs : List Hd} {r : S} (h : hs.map Hd.s = [r]) : ∃ u : Hd, hs = [u] ∧ u.s = r := by
  match hs, h with
  | [u], h => exact ⟨u, rfl, by simpa using h⟩
theorem same_ref {v v' : V} {σ : L2.St} {i : Nat} (h : σ[i]? = some (some v)) (h' : σ[i]? = some (some v')) : v = v' := by
  rw [h] at h'
  exact Option.some.inj (Option.some.inj h')
theorem c_append {i : Nat} (hv : PE X (.Name x p1) (tVar i)) (ha : DAs X F [e] ta)
    (hbase : attributeBase (.Name x p1) "append" X.env (eval (.Name x p1) X.env) = eval (.Name x p1) X.env := by rfl)
    (hfew : ((backTo pos (starEach [e] X.env)).all (fun x => !x.1) && (backToKw pos (keywordEach [] X.env)).all (fun x => x.1.isSome) && decide ([e].length + ([] : List Keyword).length + (if ([] : List Keyword).isEmpty then 0 else 1) < 30)) = true := by rfl)
    (hline : (apos.endLine == pos.line) = true := by rfl) (hst : starEach [e] X.env = (false, eval e X.env) :: starEach [] X.env := by rfl) (hpl : (backTo pos (starEach [] X.env)).any (·.1) = false := by rfl) :
    DE X F (.Call (.Attribute (.Name x p1) "append" apos) [e] [] pos) (appendE i ta) :=
  pe_imp (pe_bm PySem.F.plainAttrs_list PySem.F.slot_list_append PySem.F.type_list_append mt_append hv ha hbase hfew hline hst hpl) fun σ H Q ⟨G, ρ, φ, ts, r, ρ', I, hf, k⟩ => by
    unfold appendE at hf
    obtain ⟨ds0, h0, hf⟩ := Option.bind_eq_some_iff.mp hf
    obtain ⟨⟨rs, ρ1⟩, h1, hf⟩ := Option.bind_eq_some_iff.mp hf
    simp only at hf
    split at hf
    · obtain ⟨⟨d, ρ2⟩, h2, hf⟩ := Option.bind_eq_some_iff.mp hf
      obtain ⟨ds, h3, hf⟩ := Option.bind_eq_some_iff.mp hf
      simp only at h2 h3 hf
      split at hf
      · rename_i hz
        cases hf
        obtain ⟨a, xs, q1, q2, q3, q4, _⟩ := I.slotList (lsOf_some h0)
        refine ⟨_, q1, Or.inl ⟨rfl, _, SqL.of q3⟩, G, ρ, φ, ts, _, ρ1, I, h1, fun G1 H1 φ1 hs e1 I1 => ?_⟩
        obtain ⟨u, rfl, rfl⟩ := list1 e1
        have I1' : Fm X.K F G1 H1 σ ρ1 φ1 (u :: ts) := I1
        obtain ⟨G2, φ2, I2, _⟩ := I1'.froze h2
        obtain ⟨a', ys, r1, r2, r3, r4, _⟩ := I2.slotList (lsOf_some h3)
        cases same_ref q1 r1
        refine ⟨a, ys, u.v, rfl, rfl, r3, ?_, ?_⟩
        · rw [r4.length]
          exact Nat.lt_of_lt_of_le hz line_big
        · have J := I2.drop.setList (lsOf_some h3) r2 r1 (r4.append (.cons I2.head.2 .nil))
          exact k _ _ _ _ [] (J.pushD .non)
      · cases hf
    · cases hf
def extendE (i : Nat) (ta : AE) : EE := fun ρ => (lsOf ρ i).bind fun _ => (ta ρ).bind fun p => (viewL p.2 p.1).bind fun vs => match vs with
  | [.list es] => (lsOf p.2 i).bind fun ds => if ds.length + es.length < 1000000 then some (.sh .none, p.2.set i (some (.ls (ds ++ es)))) else none
  | _ => none
theorem c_extend {i : Nat} (hv : PE X (.Name x p1) (tVar i)) (ha : DAs X F [e] ta)
    (hbase : attributeBase (.Name x p1) "extend" X.env (eval (.Name x p1) X.env) = eval (.Name x p1) X.env := by rfl)
    (hfew : ((backTo pos (starEach [e] X.env)).all (fun x => !x.1) && (backToKw pos (keywordEach [] X.env)).all (fun x => x.1.isSome) && decide ([e].length + ([] : List Keyword).length + (if ([] : List Keyword).isEmpty then 0 else 1) < 30)) = true := by rfl)
    (hline : (apos.endLine == pos.line) = true := by rfl) (hst : starEach [e] X.env = (false, eval e X.env) :: starEach [] X.env := by rfl) (hpl : (backTo pos (starEach [] X.env)).any (·.1) = false := by rfl) :
    DE X F (.Call (.Attribute (.Name x p1) "extend" apos) [e] [] pos) (extendE i ta) :=
  pe_imp (pe_bm PySem.F.plainAttrs_list PySem.F.slot_list_extend PySem.F.type_list_extend mt_extend hv ha hbase hfew hline hst hpl) fun σ H Q ⟨G, ρ, φ, ts, r, ρ', I, hf, k⟩ => by
    unfold extendE at hf
    obtain ⟨ds0, h0, hf⟩ := Option.bind_eq_some_iff.mp hf
    obtain ⟨⟨rs, ρ1⟩, h1, hf⟩ := Option.bind_eq_some_iff.mp hf
    obtain ⟨vs, h2, hf⟩ := Option.bind_eq_some_iff.mp hf
    simp only at h2 hf
    split at hf
    · obtain ⟨ds, h3, hf⟩ := Option.bind_eq_some_iff.mp hf
      split at hf
      · rename_i hz
        cases hf
        obtain ⟨a, xs, q1, q2, q3, q4, _⟩ := I.slotList (lsOf_some h0)
        refine ⟨_, q1, Or.inl ⟨rfl, _, SqL.of q3⟩, G, ρ, φ, ts, _, ρ1, I, h1, fun G1 H1 φ1 hs e1 I1 => ?_⟩
        subst e1
        obtain ⟨w, e2, hw⟩ := shwl1 (I1.viewL (fun h hh => List.mem_append_left _ (List.mem_reverse.mpr hh)) h2)
        have J0 := I1.dropN
        obtain ⟨b, zs, rfl, hb, rz⟩ := hw.list I1.gh
        obtain ⟨a', ys, r1, r2, r3, r4, _⟩ := J0.slotList (lsOf_some h3)
        cases same_ref q1 r1
        refine ⟨a, b, ys, zs, rfl, e2, r3, hb, ?_, ?_⟩
        · rw [r4.length, rz.length]
          exact Nat.le_of_lt (Nat.lt_of_lt_of_le hz line_big)
        · have J := J0.setList (lsOf_some h3) r2 r1 (r4.append rz)
          exact k _ _ _ _ [] (J.pushD .non)
      · cases hf
    · cases hf
def popE (i : Nat) : EE := fun ρ => (lsOf ρ i).bind fun ds => match ds.getLast? with
  | some d => some (.sh d, ρ.set i (some (.ls ds.dropLast)))
  | none => none
theorem c_pop {i : Nat} (hv : PE X (.Name x p1) (tVar i)) (hbase : attributeBase (.Name x p1) "pop" X.env (eval (.Name x p1) X.env) = eval (.Name x p1) X.env := by rfl) (hline : (apos.endLine == pos.line) = true := by rfl) :
    DE X F (.Call (.Attribute (.Name x p1) "pop" apos) [] [] pos) (popE i) :=
  pe_imp (pe_bm0 PySem.F.plainAttrs_list PySem.F.slot_list_pop PySem.F.type_list_pop mt_pop hv hbase hline) fun σ H Q ⟨G, ρ, φ, ts, r, ρ', I, hf, k⟩ => by
    unfold popE at hf
    obtain ⟨ds, h0, hf⟩ := Option.bind_eq_some_iff.mp hf
    split at hf
    · rename_i d hd
      cases hf
      obtain ⟨a, xs, q1, q2, q3, q4, _⟩ := I.slotList (lsOf_some h0)
      rw [List.getLast?_eq_getElem?] at hd
      obtain ⟨v, hv1, hv2⟩ := q4.get' hd
      refine ⟨_, q1, Or.inl ⟨rfl, _, SqL.of q3⟩, a, xs, v, rfl, rfl, q3, by rw [q4.length]; exact hv1, ?_⟩
      have J := I.setList (lsOf_some h0) q2 q1 q4.dropLast
      exact k _ _ _ _ [] (J.pushD hv2)
    · cases hf

/-! ### f(k = v, ..) -/
structure KwB (K : PySem.W.Frag) (fd : FuncData) (ps ks : List Str) (sel : List Nat) : Prop where
  to : ∀ (s : Shared) (ws : List Value), K.In s.heap → ws.length = ks.length → ∃ us, sel.mapM (fun i => ws[i]?) = some us ∧ us.length = ps.length ∧ BindsTo s fd ⟨[], ks.zip ws⟩ (ps.zip us)
theorem vals_sel {vs : List V} {ws : List Value} (r : Vals vs ws) : ∀ {sel : List Nat} {us : List Value}, sel.mapM (fun i => ws[i]?) = some us → ∃ xs, sel.mapM (fun i => vs[i]?) = some xs ∧ Vals xs us
  | [], us, h => by
    simp only [List.mapM_nil, pure, Option.some.injEq] at h
    subst h
    exact ⟨[], rfl, .nil⟩
  | i :: sel, us, h => by
    simp only [List.mapM_cons, bind, pure] at h ⊢
    obtain ⟨u, h1, h⟩ := Option.bind_eq_some_iff.mp h
    obtain ⟨us', h2, h⟩ := Option.bind_eq_some_iff.mp h
    cases h
    obtain ⟨xs, h3, h4⟩ := vals_sel r h2
    cases q : vs[i]? with
    | none => rw [r.none_of q] at h1; cases h1
    | some v =>
      obtain ⟨u', h5, h6⟩ := r.get q
      rw [h5] at h1
      cases h1
      exact ⟨v :: xs, by rw [h3]; rfl, .cons h6 h4⟩
/-- keywords' values, from the left -/
abbrev DKs (X : Cx) (F : Entry) (kws : List Keyword) (f : AE) : Prop := PK X kws (tAs X.K F f)
theorem pk_imp {kws : List Keyword} {t t' : TA} (h : PK X kws t) (k : ∀ σ H Q, t' σ H Q → t σ H Q) : PK X kws t' := ⟨fun p pins s σ H Q I w => h.run p pins s σ H Q I (k σ H Q w)⟩
theorem k_nil : DKs X F [] nilA := pk_imp pk_nil fun σ H Q ⟨G, ρ, φ, ts, rs, ρ', I, hf, k⟩ => by
  cases hf
  exact k G H φ [] rfl I
theorem k_cons {nm : Option Str} {kpos : Pos} {kws : List Keyword} (ha : DE X F e f) (hr : DKs X F kws ta) : DKs X F (⟨nm, e, kpos⟩ :: kws) (consA f ta) := pk_imp (pk_cons ha hr) fun σ H Q ⟨G, ρ, φ, ts, rs, ρ', I, hf, k⟩ => by
  unfold consA at hf
  obtain ⟨⟨ra, ρ1⟩, h1, hf⟩ := Option.bind_eq_some_iff.mp hf
  obtain ⟨⟨rs', ρ2⟩, h2, hf⟩ := Option.map_eq_some_iff.mp hf
  cases hf
  refine ⟨G, ρ, φ, ts, ra, ρ1, I, h1, fun G1 H1 φ1 va fpa I1 => ⟨G1, ρ1, φ1, _, rs', _, I1, h2, fun G2 H2 φ2 hs e2 I2 => ?_⟩⟩
  refine k G2 H2 φ2 (⟨va, ra, fpa⟩ :: hs) (by rw [List.map_cons, e2]) ?_
  rw [List.reverse_cons, List.append_assoc]
  exact I2
theorem pe_callKw {k : Nat} {fa : Addr} {fd : FuncData} {ps ks : List Str} {sp : Sp} {sel : List Nat} {kws : List Keyword} {tk : TA} (C : CtxOk X) (D : FnG X.prog X.w X.K X.mg X.base k fa fd ps sp) (hr : Room k X.A) (hg : Gl X x) (hm : X.mg x = some (.ref fa)) (hk : PySem.W.keepIn X.K (.ref fa) = true) (hb : KwB X.K fd ps ks sel)
    (hkw : PK X kws tk) (hall : (backToKw pos (keywordEach kws X.env)).all (·.1.isSome) = true := by rfl) (hks : (backToKw pos (keywordEach kws X.env)).filterMap (·.1) = ks := by rfl)
    (hdb : (x == ("__debug__" : Str)) = false := by decide) (hpl : ((backTo pos (starEach [] X.env)).any (·.1) || (backToKw pos (keywordEach kws X.env)).any (·.1.isNone)) = false := by rfl) :
    PE X (.Call (.Name x p) [] kws pos) (fun σ H Q => tk σ H fun zs H2 => zs.length = ks.length ∧ ∃ xs, sel.mapM (fun i => zs[i]?) = some xs ∧ sp xs H2 Q E0) := by
  constructor
  intro pins s σ H Q I hw
  apply wpAny_Call_Name_kw
  apply ld_glob I hg hm _ hdb
  apply PySem.W.callWith_KW0 (h₀ := X.base) I.ok.mod.kin hk hall _ hpl
  apply thn (hkw.run pos pins s σ H _ I hw)
  rintro ws s1 ⟨zs, H1, I1, rz, hl, xs, hxs, q⟩
  refine ⟨I1.kIn, ?_⟩
  rw [hks]
  obtain ⟨us, e1, e2, bnd⟩ := hb.to s1 ws I1.kIn (by rw [← rz.length]; exact hl)
  obtain ⟨ys, e3, rv⟩ := vals_sel rz e1
  rw [hxs] at e3
  cases e3
  apply wpAny_call
  apply codeAny_mono (D.go X.A X.stack s1 H1 ⟨[], ks.zip ws⟩ us xs Q E0 hr C.gd I1.env0 bnd rv q)
  intro res s' hq
  match res, hq with
  | .ok (.ret u), hq => exact I1.after hq
def callFk (g : List PyData → Option S) (n : Nat) (sel : List Nat) (ta : AE) : EE := fun ρ => (ta ρ).bind fun p => if p.1.length = n then (sel.mapM fun i => p.1[i]?).bind fun rs => (viewL p.2 rs).bind fun ds => (g ds).bind fun r => if flatS r = true then some (r, p.2) else none else none
theorem sel_map {α β : Type} (f : α → β) (l : List α) : ∀ {sel : List Nat} {ys : List β}, sel.mapM (fun i => (l.map f)[i]?) = some ys → ∃ xs, sel.mapM (fun i => l[i]?) = some xs ∧ xs.map f = ys ∧ ∀ x ∈ xs, x ∈ l
  | [], ys, h => by
    simp only [List.mapM_nil, pure, Option.some.injEq] at h
    subst h
    exact ⟨[], rfl, rfl, fun x hx => by cases hx⟩
  | i :: sel, ys, h => by
    simp only [List.mapM_cons, bind, pure] at h ⊢
    obtain ⟨y, h1, h⟩ := Option.bind_eq_some_iff.mp h
    obtain ⟨ys', h2, h⟩ := Option.bind_eq_some_iff.mp h
    cases h
    obtain ⟨xs, h3, h4, h5⟩ := sel_map f l h2
    rw [List.getElem?_map] at h1
    obtain ⟨x, h6, h7⟩ := Option.map_eq_some_iff.mp h1
    refine ⟨x :: xs, by rw [h6, h3]; rfl, by rw [List.map_cons, h7, h4], fun z hz => ?_⟩
    rcases List.mem_cons.mp hz with q | q
    · rw [q]; exact List.mem_of_getElem? h6
    · exact h5 z q
theorem sel_map' {α β : Type} (f : α → β) (l : List α) : ∀ {sel : List Nat} {xs : List α}, sel.mapM (fun i => l[i]?) = some xs → sel.mapM (fun i => (l.map f)[i]?) = some (xs.map f)
  | [], xs, h => by
    simp only [List.mapM_nil, pure, Option.some.injEq] at h
    subst h; rfl
  | i :: sel, xs, h => by
    simp only [List.mapM_cons, bind, pure] at h ⊢
    obtain ⟨y, h1, h⟩ := Option.bind_eq_some_iff.mp h
    obtain ⟨ys', h2, h⟩ := Option.bind_eq_some_iff.mp h
    cases h
    rw [List.getElem?_map, h1, sel_map' f l h2] <;> rfl
/-- what callF_run shows, for chosen holders among those on the way -/
theorem callSel_run {m : Nat} {gg : List PyData → Option S} (hmn : ∀ ds r, gg ds = some r → ds.length = m) {G1 H1 : Hp} {σ : L2.St} {ρ1 : Env} {φ1 : Nat → List Addr} {all ts hs : List Hd} {ds : List PyData} {r : S} {Q : VK} (I1 : Fm X.K F G1 H1 σ ρ1 φ1 (all ++ ts)) (hm : ∀ h ∈ hs, h ∈ all) (h2 : viewL ρ1 (hs.map Hd.s) = some ds) (h3 : gg ds = some r) (hfl : flatS r = true)
    (k : ∀ G' H' φ' v fp, Fm X.K F G' H' σ ρ1 φ' (⟨v, r, fp⟩ :: ts) → Q v H') : spF X.K m gg (hs.map Hd.v) H1 Q E0 := by
  have hm' : ∀ h ∈ hs, h ∈ all ++ ts := fun h hh => List.mem_append_left _ (hm h hh)
  have J : Fm X.K F G1 H1 σ ρ1 φ1 ts := I1.dropN
  refine ⟨by rw [List.length_map, ← hmn _ _ h3, viewL_length h2, List.length_map], wide G1 H1 (Prv φ1 hs), ds, _, wide_in I1.gh, I1.wideL hm' (fun h q => q) h2, h3, fun G2 H2 v fp l1 l2 l3 nw rr fr hres => ?_⟩
  have pN : ∀ {a}, Prv φ1 hs a → G1 a = none := fun q => (I1.prvOf hm' q).1
  have l4 : Le G1 (narrow G2 (Prv φ1 hs)) := fun a o q => by
    have np : ¬ Prv φ1 hs a := fun z => by rw [pN z] at q; cases q
    rw [narrow_out np]
    exact l2 a o (wide_le a o q)
  have hidden : ∀ a, G1 a = none → H1 a ≠ none → narrow G2 (Prv φ1 hs) a = none := fun a q1 q2 => by
    by_cases z : Prv φ1 hs a
    · exact narrow_in z
    · rw [narrow_out z]
      exact nw a q2 (wide_none q1 z)
  have I2 : Fm X.K F (narrow G2 (Prv φ1 hs)) H2 σ ρ1 φ1 ts := J.grow l4 (fun a o q => l1 a o (narrow_le a o q))
    (fun a q1 q2 => by
      cases z : H1 a with
      | none => exact absurd z q2
      | some o => exact l3 a o z)
    (fun i a ha => hidden a (J.ph i a ha).1 (J.ph i a ha).2.1) (fun t ht a ha => hidden a (J.tp t ht a ha).1 ((J.tm t ht).there a ha))
    (fun a q1 q2 => by
      have g1 := J.nw a q1 q2
      by_cases z : a ∈ F.M0
      · exact hidden a g1 (J.m0 a z)
      · cases q : F.H0 a with
        | none => exact absurd q q1
        | some o => exact hidden a g1 (by rw [J.h0 a o q z]; simp))
  have tupN : ∀ a xs, SqT X.K G2 a xs → SqT X.K (narrow G2 (Prv φ1 hs)) a xs := fun a xs q => by
    have np : ∀ o, G2 a = some o → (∀ xs, o ≠ .lst xs) → (∀ xs, o ≠ .dK xs) → (∀ xs, o ≠ .dT xs) → ¬ Prv φ1 hs a := fun o q1 n1 n2 n3 z => by
      rcases I1.prvKind hm' (viewL_live h2) z with ⟨ys, hy⟩ | ⟨ys, hy⟩ | ⟨ys, hy⟩
      · have := l3 a _ hy; rw [l1 a o q1] at this; exact n1 _ (Option.some.inj this)
      · have := l3 a _ hy; rw [l1 a o q1] at this; exact n2 _ (Option.some.inj this)
      · have := l3 a _ hy; rw [l1 a o q1] at this; exact n3 _ (Option.some.inj this)
    rcases q with (q | ⟨o, q⟩) | q
    · exact .inl (.inl (by rw [narrow_out (np _ q (fun _ => nofun) (fun _ => nofun) fun _ => nofun)]; exact q))
    · exact .inl (.inr ⟨o, by rw [narrow_out (np _ q (fun _ => nofun) (fun _ => nofun) fun _ => nofun)]; exact q⟩)
    · exact .inr q
  refine k _ H2 φ1 v fp (I2.push (((rr.flat tupN hfl)).into hres) fun a ha => ?_)
  have hfr := (fr a ha).1
  obtain ⟨f0, f1, f2, f3⟩ := J.fresh hfr
  refine ⟨?_, f0, f2, f3⟩
  by_cases z : Prv φ1 hs a
  · exact narrow_in z
  · rw [narrow_out z]; exact (fr a ha).2
theorem c_callKw {k m : Nat} {fa : Addr} {fd : FuncData} {ps ks : List Str} {sel : List Nat} {kws : List Keyword} {gg : List PyData → Option S} (C : CtxOk X) (D : FnG X.prog X.w X.K X.mg X.base k fa fd ps (spF X.K m gg)) (hmn : ∀ ds r, gg ds = some r → ds.length = m) (hr : Room k X.A) (hg : Gl X x) (hm : X.mg x = some (.ref fa)) (hk : PySem.W.keepIn X.K (.ref fa) = true) (hb : KwB X.K fd ps ks sel)
    (hkw : DKs X F kws ta) (hall : (backToKw pos (keywordEach kws X.env)).all (·.1.isSome) = true := by rfl) (hks : (backToKw pos (keywordEach kws X.env)).filterMap (·.1) = ks := by rfl)
    (hdb : (x == ("__debug__" : Str)) = false := by decide) (hpl : ((backTo pos (starEach [] X.env)).any (·.1) || (backToKw pos (keywordEach kws X.env)).any (·.1.isNone)) = false := by rfl) :
    DE X F (.Call (.Name x p) [] kws pos) (callFk gg ks.length sel ta) :=
  pe_imp (pe_callKw (sel := sel) C D hr hg hm hk hb hkw hall hks hdb hpl) fun σ H Q ⟨G, ρ, φ, ts, r, ρ', I, hf, kk⟩ => by
    unfold callFk at hf
    obtain ⟨⟨rs, ρ1⟩, h1, hf⟩ := Option.bind_eq_some_iff.mp hf
    simp only at hf
    split at hf
    · rename_i hl
      obtain ⟨rs', h2, hf⟩ := Option.bind_eq_some_iff.mp hf
      obtain ⟨ds, h3, hf⟩ := Option.bind_eq_some_iff.mp hf
      obtain ⟨r', h4, hf⟩ := Option.bind_eq_some_iff.mp hf
      split at hf
      · rename_i hfl
        cases hf
        refine ⟨G, ρ, φ, ts, rs, _, I, h1, fun G1 H1 φ1 hs e1 I1 => ?_⟩
        subst e1
        obtain ⟨us, e2, e3, e4⟩ := sel_map Hd.s hs h2
        subst e3
        refine ⟨by rw [List.length_map] at hl ⊢; exact hl, us.map Hd.v, sel_map' Hd.v hs e2, ?_⟩
        exact callSel_run hmn I1 (fun h hh => List.mem_reverse.mpr (e4 h hh)) h3 h4 hfl kk
      · cases hf
    · cases hf
end
end Dn
namespace Dn
open PySem PyProof.Rows L2
/-! Part 11: comprehensions in place, zip, the law's end -/
section
variable {X : Cx} {F : Entry} {tg e e2 elt iter : Expr} {es ifs : List Expr} {pos p p1 spos : Pos} {f el : EE} {ta : AE} {x : Str} {scope : Scope} {own : List (Str × Nat)} {it : IE} {g : GE} {tt : BE}
theorem CtxOk.blk (C : CtxOk X) {s : Shared} {H : Hp} {scope : Scope} {cenv : PySem.Env} {fp : List Addr} : CtxOk (X.blk s H scope cenv fp) := ⟨C.calm, C.nd, C.un, C.gd⟩
theorem c_lc (C : CtxOk X) (hvs : ∀ p ∈ own, p.2 ∈ F.cs) (hi : DI X F tg iter it) (ok : BlkOk X.N X.env.scope scope own)
    (hg : ∀ (s : Shared) (H : Hp) (D : Addr) (cl : List (Str × Addr)) (fp : List Addr), DG (Blk X scope s H D cl fp) F tg (own.map (·.2)) g)
    (ht : ∀ (s : Shared) (H : Hp) (D : Addr) (cl : List (Str × Addr)) (fp : List Addr), DTs (Blk X scope s H D cl fp) F ifs tt)
    (he : ∀ (s : Shared) (H : Hp) (D : Addr) (cl : List (Str × Addr)) (fp : List Addr), DE (Blk X scope s H D cl fp) F elt el) (hs : ∀ x, foldedSetIterable iter X.env x = pure x := by intro _; rfl) :
    DE X F (.ListComp elt [⟨tg, iter, ifs, 0⟩] scope pos) (lcE (own.map (·.2)) it g tt el) := pe_imp (pe_lc C.calm C.nd hi ok hg ht he hs) (lc_run hvs)
theorem s_setLc {i : Nat} {y : Str} {py : Pos} (C : CtxOk X) (hy : X.N[i]? = some y) (hyl : X.env.scope.names.lookup y = some .local) (hsw : swapsWith (.ListComp elt [⟨tg, iter, ifs, 0⟩] scope pos) (some (.Name y py)) spos.line X.env = pure true)
    (hvs : ∀ p ∈ own, p.2 ∈ F.cs) (hi : DI X F tg iter it) (ok : BlkOk X.N X.env.scope scope own)
    (hg : ∀ (s : Shared) (H : Hp) (D : Addr) (cl : List (Str × Addr)) (fp : List Addr), DG (Blk X scope s H D cl fp) F tg (own.map (·.2)) g)
    (ht : ∀ (s : Shared) (H : Hp) (D : Addr) (cl : List (Str × Addr)) (fp : List Addr), DTs (Blk X scope s H D cl fp) F ifs tt)
    (he : ∀ (s : Shared) (H : Hp) (D : Addr) (cl : List (Str × Addr)) (fp : List Addr), DE (Blk X scope s H D cl fp) F elt el) (hs : ∀ x, foldedSetIterable iter X.env x = pure x := by intro _; rfl) :
    DS X F (.Assign [.Name y py] (.ListComp elt [⟨tg, iter, ifs, 0⟩] scope pos) spos) (asgS i (lcE (own.map (·.2)) it g tt el)) :=
  ps_imp (ps_setLc (i := i) C.calm C.nd hy hyl hsw hi ok hg ht he hs) fun D σ H h => by
    obtain ⟨G, ρ, φ, ts, r, ρ', I, hf, k⟩ := asg_run D σ H h
    exact lc_run hvs σ H _ ⟨G, ρ, φ, ts, r, ρ', I, hf, k⟩

/-! ### zip of two -/
def zipD (xs ys : List PyData) : List PyData := (xs.zip ys).map fun p => .tuple [p.1, p.2]
def zipI (ta : AE) : IE := fun ρ => (ta ρ).bind fun p => (frozeL p.1 p.2).bind fun q => match q.1 with
  | [.list xs, .list ys] => some (zipD xs ys, q.2)
  | [.tuple xs, .tuple ys] => some (zipD xs ys, q.2)
  | _ => none
theorem zipD_get {xs ys : List PyData} {i : Nat} (h : i < (zipD xs ys).length) : ∃ a b, xs[i]? = some a ∧ ys[i]? = some b ∧ (zipD xs ys)[i]? = some (.tuple [a, b]) := by
  unfold zipD at h ⊢
  rw [List.length_map, List.length_zip] at h
  have h1 : i < xs.length := by omega
  have h2 : i < ys.length := by omega
  exact ⟨xs[i], ys[i], by simp [h1], by simp [h2], by rw [List.getElem?_map, List.getElem?_eq_getElem (by rw [List.length_zip]; omega), List.getElem_zip]; rfl⟩
theorem i_zip {tpos : Pos} {elts : List Expr} {kk : Nat} (hg : Gl X "zip") (hm : X.mg "zip" = none) (ha : DAs X F [e, e2] ta)
    (hs : starEach [e, e2] X.env = (false, eval e X.env) :: starEach [e2] X.env := by rfl) (hpl : (backTo pos (starEach [e2] X.env)).any (·.1) = false := by rfl) :
    DI X F (.Tuple elts kk tpos) (.Call (.Name "zip" p) [e, e2] [] pos) (zipI ta) := pi_imp (RZ.pi_zipA hg hm ha hs hpl) fun σ H R ⟨G, ρ, φ, ts, ds, ρ', I, hf, k⟩ => by
  unfold zipI at hf
  obtain ⟨⟨rs, ρ1⟩, h1, hf⟩ := Option.bind_eq_some_iff.mp hf
  obtain ⟨⟨dd, ρ2⟩, h2, hf⟩ := Option.bind_eq_some_iff.mp hf
  simp only at h2 hf
  split at hf
  · cases hf
    refine ⟨G, ρ, φ, ts, rs, ρ1, I, h1, fun G1 H1 φ1 hs e1 I1 => ?_⟩
    subst e1
    obtain ⟨G2, φ2, I2, r2, l2⟩ := I1.frozeL h2
    revert r2
    generalize hs.map Hd.v = vs
    intro r2
    cases r2 with
    | cons ra rr =>
      cases rr with
      | cons rb rr =>
        cases rr
        cases ra with
        | lst h3 r3 =>
          cases rb with
          | lst h4 r4 =>
            refine ⟨_, _, _, _, rfl, .inl ⟨SqL.of (I2.gh _ _ h3), SqL.of (I2.gh _ _ h4), k G2 H1 φ2 _ I2 ⟨fun i H l hi => ?_, fun i H l hi => ?_, fun i H x H' l hi y => ?_⟩⟩⟩
            · obtain ⟨a, b, q1, q2, _⟩ := zipD_get hi
              obtain ⟨v, q3, _⟩ := r3.get' q1
              obtain ⟨w, q4, _⟩ := r4.get' q2
              exact ⟨_, _, v, w, SqL.of (l _ _ h3), SqL.of (l _ _ h4), q3, q4⟩
            · refine ⟨_, _, SqL.of (l _ _ h3), SqL.of (l _ _ h4), ?_⟩
              unfold zipD at hi
              rw [List.length_map, List.length_zip, ← r3.length, ← r4.length] at hi
              omega
            · obtain ⟨T, v, w, e1, e2, e3, q1, q2⟩ := y
              obtain ⟨a, b, q3, q4, q5⟩ := zipD_get hi
              obtain ⟨d1, z1, z2⟩ := r3.get (q1 _ (SqL.of (l _ _ h3)))
              obtain ⟨d2, z3, z4⟩ := r4.get (q2 _ (SqL.of (l _ _ h4)))
              rw [q3] at z1
              rw [q4] at z3
              cases z1
              cases z3
              exact ⟨_, q5, .inr ⟨T, _, _, e1, e2, e3, rfl, .cons z2 (.cons z4 .nil)⟩⟩
  · cases hf
    refine ⟨G, ρ, φ, ts, rs, ρ1, I, h1, fun G1 H1 φ1 hs e1 I1 => ?_⟩
    subst e1
    obtain ⟨G2, φ2, I2, r2, l2⟩ := I1.frozeL h2
    revert r2
    generalize hs.map Hd.v = vs
    intro r2
    cases r2 with
    | cons ra rr =>
      cases rr with
      | cons rb rr =>
        cases rr
        cases ra with
        | tup h3 r3 =>
          cases rb with
          | tup h4 r4 =>
            refine ⟨_, _, _, _, rfl, .inr ⟨Le.sqT I2.gh h3, Le.sqT I2.gh h4, k G2 H1 φ2 _ I2 ⟨fun i H l hi => ?_, fun i H l hi => ?_, fun i H x H' l hi y => ?_⟩⟩⟩
            · obtain ⟨a, b, q1, q2, _⟩ := zipD_get hi
              obtain ⟨v, q3, _⟩ := r3.get' q1
              obtain ⟨w, q4, _⟩ := r4.get' q2
              exact ⟨_, _, v, w, Le.sqT l h3, Le.sqT l h4, q3, q4⟩
            · refine ⟨_, _, Le.sqT l h3, Le.sqT l h4, ?_⟩
              unfold zipD at hi
              rw [List.length_map, List.length_zip, ← r3.length, ← r4.length] at hi
              omega
            · obtain ⟨T, v, w, e1, e2, e3, q1, q2⟩ := y
              obtain ⟨a, b, q3, q4, q5⟩ := zipD_get hi
              obtain ⟨d1, z1, z2⟩ := r3.get (q1 _ (Le.sqT l h3))
              obtain ⟨d2, z3, z4⟩ := r4.get (q2 _ (Le.sqT l h4))
              rw [q3] at z1
              rw [q4] at z3
              cases z1
              cases z3
              exact ⟨_, q5, .inr ⟨T, _, _, e1, e2, e3, rfl, .cons z2 (.cons z4 .nil)⟩⟩
  · cases hf
end
end Dn
namespace Dn
open PySem PyProof.Rows L2 PySem.Spec
/-! Part 12: the law's end -/
/-- what the law's call has to show -/
def Told (s0 : Shared) (r : Result) (s' : Shared) : Prop := r = .ok (.ret (.bool true)) ∧ OldK s0.heap s'.heap ∧ s'.os = s0.os ∧ AllBare s'.gens
section
variable {P : Program} {w : World} {K : PySem.W.Frag} {mg : Str → Option Value}
  {k : Nat} {fa sa : Addr} {fd : FuncData} {x : Str} {s0 : Shared} {vs : List Value} {ns : List Int}
/-- the law's promise: it answers True at every script -/
def spTrue (K : PySem.W.Frag) (n : Nat) : Sp := fun us H Q _ => ∃ (a : Addr) (ns : List Int), us = [.ref a] ∧ ns.length ≤ n ∧ SqL K H a (ns.map V.int) ∧ ∀ H', Q (.bl true) H'
/-- entered from a heap that tracks at most the script -/
theorem told_from {mb : Str → Option Value} {n : Nat} {T : Hp}
    (inK : K.In s0.heap) (nsG : s0.heap.Ns mainGlobals mg) (nsB : s0.heap.Ns builtinsNs mb)
    (bt : ∀ y : Str, y ≠ "__name__" → mb y = bootBuiltins y) (free : s0.heap.NoLimit) (gens : s0.gens = #[])
    (obj : s0.heap.get? sa = some { cls := .type "list", data := .seq vs.toArray }) (hl : ns.length ≤ n) (hr : Room k callerA)
    (F : ∀ base : Heap, K.In base → base.Ns mainGlobals mg → FnG P w K mg base k fa fd [x] (spTrue K n))
    (bnd : ∀ (s : Shared) (u : Value), BindsTo s fd ⟨[u], []⟩ [(x, u)])
    (only : Only T) (scr : SqL K T sa (ns.map V.int)) (hok : HOk P w T s0.heap)
    (at_ : ∀ c, T c ≠ none → c = sa) (out : T sa ≠ none → K.lookup sa = none) :
    codeAny (model P w) callerA (.call (.ref fa) ⟨[.ref sa], []⟩) (Told s0) s0 := by
  have hid : ∀ {c : Addr} {z : Obj}, s0.heap.get? c = some z → T c = none →
      (hidT s0.heap T).get? c = some z := fun z1 z2 => hidT_get z1 z2
  have dct : ∀ {c : Addr} {z : Obj} {es : Array DictEntry} {ep : Nat}, s0.heap.get? c = some z →
      z.data = .dict es ep → T c = none := fun {c z es ep} z1 z2 => by
    cases q : T c with
    | none => rfl
    | some u =>
      obtain rfl := at_ c (by rw [q]; simp)
      have z3 := obj.symm.trans z1
      cases z3
      cases (show Data.seq vs.toArray _ = Data.dict es ep from z2)
  have nsT : ∀ {c : Addr} {m : Str → Option Value}, s0.heap.Ns c m → (hidT s0.heap T).Ns c m :=
    fun ⟨z, es, ep, z1, z2, z3⟩ => ⟨z, es, ep, hid z1 (dct z1 z2), z2, z3⟩
  have inT : K.In (hidT s0.heap T) := fun c z z1 => hid (inK c z z1) (by
    cases q : T c with
    | none => rfl
    | some u =>
      obtain rfl := at_ c (by rw [q]; simp)
      rw [out (by rw [q]; simp)] at z1
      cases z1)
  obtain ⟨mc, m1, m2⟩ := free
  have md : Mod K mg (hidT s0.heap T) := ⟨inT, nsT nsG, ⟨mb, nsT nsB, bt⟩, ⟨mc, nsT m1, m2⟩⟩
  have ev : Env0 P w K mg (hidT s0.heap T) callerA [] s0 T :=
    ⟨rfl, md, fun c z q => of_hidT q, Nat.le_of_eq (hidT_size _ _), trivial,
     (fun c q => by cases (show c ∈ ([] : List Addr) from q)), hok, .of_eq gens⟩
  have run := (F _ inT (nsT nsG)).go callerA [] s0 T ⟨[.ref sa], []⟩ [.ref sa] [.ref sa]
    (fun v _ => v = .bl true) (fun _ _ _ => False) hr rfl ev (bnd s0 (.ref sa)) (.cons rfl .nil)
    ⟨sa, ns, rfl, hl, scr, fun _ => rfl⟩
  refine codeAny_mono run fun r s' q => ?_
  match r, q with
  | .error _, q => exact q.elim
  | .ok .next, q => exact q.elim
  | .ok .brk, q => exact q.elim
  | .ok .cont, q => exact q.elim
  | .ok (.ret u), ⟨v, T', o1, o2, o3, o4, o5, o6⟩ =>
    obtain rfl : v = V.bl true := o6
    obtain rfl : u = Value.bool true := o5
    refine ⟨rfl, OldK.of_keep fun c z z1 => ?_, o1, o2⟩
    cases q : T c with
    | none => exact o3.keep c z z1 q (fun q' => by cases (show c ∈ ([] : List Addr) from q')) (by simp)
    | some u =>
      rcases only c with q2 | ⟨ob, xs, q2⟩
      · rw [q2] at q; cases q
      · obtain ⟨z2, _⟩ := hok c _ q2
        obtain ⟨z3, _⟩ := o4 c _ (o3.frzs c ob _ q2)
        rw [z1] at z2
        cases z2
        exact z3
theorem told_law {mb : Str → Option Value} {n : Nat} (hn : n ≤ sizeLine)
    (inK : K.In s0.heap) (nsG : s0.heap.Ns mainGlobals mg) (nsB : s0.heap.Ns builtinsNs mb)
    (bt : ∀ y : Str, y ≠ "__name__" → mb y = bootBuiltins y) (free : s0.heap.NoLimit) (gens : s0.gens = #[])
    (obj : s0.heap.get? sa = some { cls := .type "list", data := .seq vs.toArray }) (hi : IntsAre vs ns)
    (hl : ns.length ≤ n) (hr : Room k callerA)
    (F : ∀ base : Heap, K.In base → base.Ns mainGlobals mg → FnG P w K mg base k fa fd [x] (spTrue K n))
    (bnd : ∀ (s : Shared) (u : Value), BindsTo s fd ⟨[u], []⟩ [(x, u)]) :
    codeAny (model P w) callerA (.call (.ref fa) ⟨[.ref sa], []⟩) (Told s0) s0 := by
  have vl := vals_ints hi
  have ll := hi.length
  have lz := Nat.le_trans hl hn
  cases q : K.lookup sa with
  | some z =>
    have z1 := obj.symm.trans (inK sa z q)
    cases z1
    exact told_from (T := fun _ => none) inK nsG nsB bt free gens obj hl hr F bnd (fun _ => .inl rfl)
      (.inr ⟨_, vs.toArray, _, q, rfl, rfl, rfl, (by rw [List.size_toArray, ll]; exact lz), (by simpa using vl)⟩)
      (fun c u z => by cases (show (none : Option HO) = some u from z)) (fun c z => absurd rfl z) (fun z => absurd rfl z)
  | none =>
    refine told_from (T := fun c => if c = sa then some (.frz { cls := .type "list", data := .seq vs.toArray } (.lst (ns.map V.int))) else none)
      inK nsG nsB bt free gens obj hl hr F bnd (fun c => ?_) (.inl (.inr ⟨_, if_pos rfl⟩)) (fun c u z => ?_) (fun c z => ?_) (fun _ => q)
    · by_cases y : c = sa
      · exact .inr ⟨_, _, if_pos y⟩
      · exact .inl (if_neg y)
    · by_cases y : c = sa
      · have z' := (if_pos y).symm.trans z
        cases z'
        rw [y]
        exact ⟨obj, (by rw [List.length_map]; exact lz), vs, _, vl, obj⟩
      · cases ((if_neg y).symm.trans z)
    · by_cases y : c = sa
      · exact y
      · exact absurd (if_neg y) z
end
/-- the goal that is left behind the head -/
theorem walkG {l : PySem.W.OpenLaw} {n k : Nat} {q : Program} {loose : List Str} {XP : (Str → Option Value) → Heap → Prop}
    {YP : World → Heap → Prop} {d : DefRec} {K : Params → PySem.W.Frag} {x : Str}
    (hn : l.most = some n) (hz : n ≤ sizeLine) (hd : d.params.defaults = []) (hr : Room k callerA)
    (hY : ∀ (w : World) (h : Heap), YP w h → (K w.params).In h)
    (F : ∀ (w : World) (mg : Str → Option Value) (fa : Addr) (h : Heap), (K w.params).In h → h.Ns mainGlobals mg → mg d.name = some (.ref fa) →
      ∃ fd : FuncData, (∀ (s : Shared) (u : Value), BindsTo s fd ⟨[u], []⟩ [(x, u)]) ∧
        ∀ base : Heap, (K w.params).In base → base.Ns mainGlobals mg →
          FnG l.prog w (K w.params) mg base k fa fd [x] (spTrue (K w.params) n)) :
    PySem.W.WalkO q loose XP YP l.row.toRowW d [] (fun f vs => PySem.call f vs) := by
  refine Att.attach_call hn hd ?_
  intro w s00 s0 mg mb fa o pm cd doc sa vs ns G Y h1 h2 h3 hmg hobj hi hl hg
  have inK := hY w _ Y
  obtain ⟨fd, hb, hF⟩ := F w mg fa _ inK G.T.g hmg
  exact told_law hz inK G.T.g G.T.b G.T.builtins G.T.nolimit hg hobj hi hl hr hF hb
/-- from the law's denotation -/
theorem law_true {P : Program} {w : World} {K : PySem.W.Frag} {mg : Str → Option Value} {base : Heap} {k n : Nat} {fa : Addr} {fd : FuncData} {ps : List Str} {g : List Int → Option S}
    (D : FnG P w K mg base k fa fd ps (spN K g)) (h : ∀ ns : List Int, ns.length ≤ n → g ns = some (.sh (.bool true))) (h1 : ps.length = 1) : FnG P w K mg base k fa fd ps (spTrue K n) :=
  ⟨fun vs H Q E ⟨a, ns, z, _⟩ => by rw [z, h1]; rfl,
   fun A outer s H args us vs Q E hr hgd ev bnd vals ⟨a, ns, z, hl, hs, hq⟩ => D.go A outer s H args us vs Q E hr hgd ev bnd vals
    ⟨by rw [z]; rfl, H, a, ns, _, z, fun _ _ q => q, hs, h ns hl, fun G' H' v fp l1 l2 l3 l4 hres l5 l6 => by
      have q : Sh K G' v (.bool true) := hres.2
      cases q
      exact hq H'⟩⟩
end Dn
namespace Dn
open PySem PyProof.Rows L2
/-! Part 13: more operators -/
section
variable {X : Cx} {F : Entry} {a b e : Expr} {pos p : Pos} {fa fb f : EE} {x : Str}
theorem d_ip {g : Int → Int → Int} : OpD X F (ipI g) (gInt0 g) := by
  intro G H σ ρ φ ts x y d e r Q I hx hy hg k
  unfold gInt0 at hg
  split at hg
  · cases hg
    exact ⟨_, _, hx.int, hy.int, k G H φ _ [] (I.pushD (.int _))⟩
  · cases hg
theorem s_incr {i : Nat} {pos' : Pos} (C : CtxOk X) (hi : X.N[i]? = some x) (hx : Loc X.env.scope x) (he : DE X F e f) (hf : X.fn x = true ∨ X.env.scope.names.lookup x = some .local := by first | exact .inl rfl | exact .inr rfl | assumption) :
    DS X F (.AugAssign (.Name x pos') .Add e pos) (augS i (gInt0 fun i j => i + j) f) := s_aug d_ip (ps_aug C.nd hi hx he ip_add hf)
def gPow : PyData → PyData → Option S := gInt (fun i j => decide (0 ≤ j) && decide (j ≤ 1000000) && decide (i.natAbs < 2 ^ 64)) fun i j => i ^ j.toNat
theorem c_pow (ha : DE X F a fa) (hb : DE X F b fb) : DE X F (.BinOp a .Pow b pos) (binE gPow fa fb) := c_bin op_pow (d_int fun i j h => by
  simp only [Bool.and_eq_true, decide_eq_true_eq] at h
  exact ⟨h.1.1, h.1.2, h.2⟩) ha hb
end
end Dn
namespace Dn
open PySem PyProof.Rows L2
section
variable {X : Cx} {F : Entry} {a b e : Expr} {pos p : Pos} {fa fb f : EE} {x : Str}
theorem b_eq (C : CtxOk X) (ha : DE X F a fa) (hb : DE X F b fb) : DB X F (.Compare a [.Eq] [b] pos) (truE (binE (eqS false) fa fb)) := b_cmpR (op_eqG C) d_eq ha hb (nomark _)
theorem b_ne (C : CtxOk X) (ha : DE X F a fa) (hb : DE X F b fb) : DB X F (.Compare a [.NotEq] [b] pos) (truE (binE (eqS true) fa fb)) := b_cmpR (op_neG C) d_ne ha hb (nomark _)
theorem b_lt (ha : DE X F a fa) (hb : DE X F b fb) : DB X F (.Compare a [.Lt] [b] pos) (truE (binE (gIntB fun i j => decide (i < j)) fa fb)) := b_cmpR op_lt d_intB ha hb (nomark _)
theorem b_le (ha : DE X F a fa) (hb : DE X F b fb) : DB X F (.Compare a [.LtE] [b] pos) (truE (binE (gIntB fun i j => decide (i ≤ j)) fa fb)) := b_cmpR op_le d_intB ha hb (nomark _)
theorem b_gt (ha : DE X F a fa) (hb : DE X F b fb) : DB X F (.Compare a [.Gt] [b] pos) (truE (binE (gIntB fun i j => decide (j < i)) fa fb)) := b_cmpR op_gt d_intB ha hb (nomark _)
theorem b_ge (ha : DE X F a fa) (hb : DE X F b fb) : DB X F (.Compare a [.GtE] [b] pos) (truE (binE (gIntB fun i j => decide (j ≤ i)) fa fb)) := b_cmpR op_ge d_intB ha hb (nomark _)
end
end Dn
namespace Dn
open PySem PyProof.Rows L2
theorem c_gint {X : Cx} {F : Entry} {x : Str} {pos : Pos} {i : Int} (hg : Gl X x) (hm : ∃ t, X.mg x = some (.int i t)) (hd : (x == ("__debug__" : Str)) = false := by decide) : DE X F (.Name x pos) (cst (.int i)) := by
  obtain ⟨t, e⟩ := hm
  exact c_of (pe_glob (v := .int i) hg e ⟨t, rfl⟩ hd) fun _ => .int i
end Dn
namespace Dn
open PySem PyProof.Rows L2
/-! Part 14: what is walked, list or tuple; enumerate; in; all, any; slices; stores by place -/
section
variable {X : Cx} {F : Entry} {a b e e2 tg : Expr} {es : List Expr} {pos p p1 p2 p3 : Pos} {fa fb f fi : EE} {ta : AE} {x : Str} {lo hi : Option Expr}
def anyI (f : EE) : IE := fun ρ => (f ρ).bind fun p => (froze p.2 p.1).bind fun q => match q.1 with
  | .list ds => some (ds, q.2)
  | .tuple ds => some (ds, q.2)
  | _ => none
theorem anyI_or {ρ : Dn.Env} {r : List PyData × Dn.Env} (h : anyI f ρ = some r) : seqI f ρ = some r ∨ tupI f ρ = some r := by
  unfold anyI at h
  obtain ⟨q, h1, h⟩ := Option.bind_eq_some_iff.mp h
  obtain ⟨⟨d, ρ2⟩, h2, h⟩ := Option.bind_eq_some_iff.mp h
  unfold seqI tupI
  rw [h1, Option.bind_some, Option.bind_some, h2, Option.bind_some, Option.bind_some]
  simp only at h ⊢
  cases d <;> simp_all
theorem i_any (h : DE X F e f) : DI X F tg e (anyI f) := ⟨fun pins s σ H R I ⟨G, ρ, φ, ts, ds, ρ', J, hf, k⟩ => by
  rcases anyI_or hf with q | q
  · exact (i_list h).run pins s σ H R I ⟨G, ρ, φ, ts, ds, ρ', J, q, k⟩
  · exact (i_tup h).run pins s σ H R I ⟨G, ρ, φ, ts, ds, ρ', J, q, k⟩⟩
/-! ### enumerate of a list -/
def enumD (n : Nat) : List PyData → List PyData
  | [] => []
  | d :: ds => .tuple [.int (n : Nat), d] :: enumD (n + 1) ds
theorem enumD_length : ∀ (ds : List PyData) (n : Nat), (enumD n ds).length = ds.length
  | [], _ => rfl
  | d :: ds, n => by rw [enumD, List.length_cons, List.length_cons, enumD_length ds]
theorem enumD_get : ∀ (ds : List PyData) (n i : Nat), (enumD n ds)[i]? = ds[i]?.map fun d => .tuple [.int ((n + i : Nat) : Int), d]
  | [], _, _ => by simp [enumD]
  | d :: ds, n, 0 => by simp [enumD]
  | d :: ds, n, i + 1 => by
    have := enumD_get ds (n + 1) i
    simp only [enumD, List.getElem?_cons_succ, this]
    congr 1
    funext d
    rw [show n + 1 + i = n + (i + 1) by omega]
def enumI (ta : AE) : IE := fun ρ => (ta ρ).bind fun p => (frozeL p.1 p.2).bind fun q => match q.1 with
  | [.list xs] => some (enumD 0 xs, q.2)
  | _ => none
theorem i_enum {tpos : Pos} {elts : List Expr} {kk : Nat} (hg : Gl X "enumerate") (hm : X.mg "enumerate" = none) (ha : DAs X F [e] ta) (hs : starEach [e] X.env = [(false, eval e X.env)] := by rfl) :
    DI X F (.Tuple elts kk tpos) (.Call (.Name "enumerate" p) [e] [] pos) (enumI ta) := pi_imp (pi_enum hg hm ha hs) fun σ H R ⟨G, ρ, φ, ts, ds, ρ', I, hf, k⟩ => by
  unfold enumI at hf
  obtain ⟨⟨rs, ρ1⟩, h1, hf⟩ := Option.bind_eq_some_iff.mp hf
  obtain ⟨⟨dd, ρ2⟩, h2, hf⟩ := Option.bind_eq_some_iff.mp hf
  simp only at h2 hf
  split at hf
  · cases hf
    refine ⟨G, ρ, φ, ts, rs, ρ1, I, h1, fun G1 H1 φ1 hs e1 I1 => ?_⟩
    subst e1
    obtain ⟨G2, φ2, I2, r2, l2⟩ := I1.frozeL h2
    revert r2
    generalize hs.map Hd.v = vs
    intro r2
    cases r2 with
    | cons ra rr =>
      cases rr
      cases ra with
      | lst h3 r3 =>
        refine ⟨_, _, rfl, SqL.of (I2.gh _ _ h3), k G2 H1 φ2 _ I2 ⟨fun i H l hi => ?_, fun i H l hi => ?_, fun i H x H' l hi y => ?_⟩⟩
        · rw [enumD_length] at hi
          obtain ⟨v, q3, _⟩ := r3.get' (List.getElem?_eq_getElem hi)
          exact ⟨_, v, SqL.of (l _ _ h3), q3⟩
        · rw [enumD_length] at hi
          exact ⟨_, SqL.of (l _ _ h3), by rw [r3.length]; exact hi⟩
        · obtain ⟨T, v, e1, e2, e3, q1⟩ := y
          obtain ⟨d1, z1, z2⟩ := r3.get (q1 _ (SqL.of (l _ _ h3)))
          refine ⟨.tuple [.int (i : Nat), d1], ?_, .inr ⟨T, _, _, e1, e2, e3, rfl, .cons (.int _) (.cons z2 .nil)⟩⟩
          rw [enumD_get, z1]
          simp
  · cases hf
/-! ### in, not in -/
def flat0 : PyData → Bool
  | .none => true
  | .bool _ => true
  | .int _ => true
  | .str _ => true
  | _ => false
def eq0 : PyData → PyData → Bool
  | .none, .none => true
  | .bool a, .bool b => a == b
  | .bool a, .int b => (if a then 1 else 0) == b
  | .int a, .bool b => a == (if b then 1 else 0)
  | .int a, .int b => a == b
  | .str a, .str b => a == b
  | _, _ => false
theorem Sh.flatV {K : PySem.W.Frag} {G : Hp} {v : V} {d : PyData} (h : Sh K G v d) (f : flat0 d = true) : L2.flatV v = true := by
  cases h <;> first | rfl | simp [flat0] at f
theorem ShL.flatV {K : PySem.W.Frag} {G : Hp} : ∀ {vs : List V} {ds : List PyData}, ShL K G vs ds → ds.all flat0 = true → vs.all L2.flatV = true
  | _, _, .nil, _ => rfl
  | _, _, .cons h r, f => by
    rw [List.all_cons, Bool.and_eq_true] at f ⊢
    exact ⟨h.flatV f.1, ShL.flatV r f.2⟩
theorem Sh.eqV {K : PySem.W.Frag} {G : Hp} {v w : V} {d e : PyData} (h : Sh K G v d) (h' : Sh K G w e) (f : flat0 d = true) (f' : flat0 e = true) : L2.eqV v w = eq0 d e := by
  cases h <;> cases h' <;> first | rfl | simp [flat0] at f | simp [flat0] at f'
theorem ShL.inV {K : PySem.W.Frag} {G : Hp} {w : V} {e : PyData} (h' : Sh K G w e) (f' : flat0 e = true) : ∀ {vs : List V} {ds : List PyData}, ShL K G vs ds → ds.all flat0 = true → L2.inV w vs = ds.any fun y => eq0 y e
  | _, _, .nil, _ => rfl
  | _, _, .cons h r, f => by
    rw [List.all_cons, Bool.and_eq_true] at f
    have ih := ShL.inV h' f' r f.2
    unfold L2.inV at ih ⊢
    rw [List.any_cons, List.any_cons, ih, h.eqV h' f.1 f']
def inS (neg : Bool) (d : PyData) : PyData → Option S
  | .tuple ds => if (flat0 d && ds.all flat0) = true then some (.sh (.bool (neg != ds.any fun y => eq0 y d))) else none
  | .list ds => if (flat0 d && ds.all flat0) = true then some (.sh (.bool (neg != ds.any fun y => eq0 y d)))
    else if (SeqAt.shaped d && SeqAt.shaped (.list ds)) = true then some (.sh (.bool (neg != ds.any fun z => PyData.eqv z d))) else none
  | _ => none
abbrev rInG (K : PySem.W.Frag) : R2 := fun x y H Q => rIn K false x y H Q ∨ rInD K x y H Q
abbrev rNinG (K : PySem.W.Frag) : R2 := fun x y H Q => rIn K true x y H Q ∨ rNotInD K x y H Q
theorem op_inG (C : CtxOk X) : OpR X (compareOp .In) (rInG X.K) := op_in_seq.or (op_inD (by have := C.un; omega))
theorem op_ninG (C : CtxOk X) : OpR X (compareOp .NotIn) (rNinG X.K) := op_notIn_seq.or (op_notInD (by have := C.un; omega))
theorem in_run {neg : Bool} {G H : Hp} {σ : L2.St} {ρ : Dn.Env} {φ : Nat → List Addr} {ts : List Hd} {x y : V} {d e : PyData} {r : S} {Q : VK} (I : Fm X.K F G H σ ρ φ ts) (hx : ShW X.K G H x d) (hy : ShW X.K G H y e) (hg : inS neg d e = some r)
    (k : ∀ G' H' φ' v fp, Fm X.K F G' H' σ ρ φ' (⟨v, r, fp⟩ :: ts) → Q v H') :
    rIn X.K neg x y H Q ∨ ∃ d' ds, Dp X.K H x d' ∧ Dp X.K H y (.list ds) ∧ SeqAt.shaped d' = true ∧ SeqAt.shaped (.list ds) = true ∧ Q (.bl (neg != ds.any fun z => PyData.eqv z d')) H := by
  unfold inS at hg
  have bb : ∀ b : Bool, (if neg then !b else b) = (neg != b) := fun b => by cases neg <;> cases b <;> rfl
  split at hg
  · rename_i ds
    split at hg
    · cases hg
      rename_i q
      rw [Bool.and_eq_true] at q
      obtain ⟨p, us, rfl, h3, r3⟩ := hy.tup
      have hx' := hx.sh I.gh
      refine .inl ⟨p, us, rfl, .inr (Le.sqT I.gh h3), hx'.flatV q.1, r3.flatV q.2, ?_⟩
      rw [bb, ShL.inV hx' q.1 (r3.mono I.gh) q.2]
      exact k G H φ _ [] (I.pushD (.bl _))
    · cases hg
  · rename_i ds
    obtain ⟨p, us, rfl, h3, r3⟩ := hy.list I.gh
    have hx' := hx.sh I.gh
    split at hg
    · cases hg
      rename_i q
      rw [Bool.and_eq_true] at q
      refine .inl ⟨p, us, rfl, .inl (SqL.of h3), hx'.flatV q.1, r3.flatV q.2, ?_⟩
      rw [bb, ShL.inV hx' q.1 (r3.mono I.gh) q.2]
      exact k G H φ _ [] (I.pushD (.bl _))
    · split at hg
      · cases hg
        rename_i q
        rw [Bool.and_eq_true] at q
        exact .inr ⟨d, ds, shaped_dp hx' q.1, shaped_dp (hy.sh I.gh) q.2, q.1, q.2, k G H φ _ [] (I.pushD (.bl _))⟩
      · cases hg
  · cases hg
theorem d_in : OpD X F (rInG X.K) (inS false) := fun G H σ ρ φ ts x y d e r Q I hx hy hg k => by
  rcases in_run I hx hy hg k with h | ⟨d', ds, h1, h2, h3, h4, h5⟩
  · exact .inl h
  · exact .inr ⟨d', ds, h1, h2, h3, h4, by rw [Bool.false_bne] at h5; exact h5⟩
theorem d_nin : OpD X F (rNinG X.K) (inS true) := fun G H σ ρ φ ts x y d e r Q I hx hy hg k => by
  rcases in_run I hx hy hg k with h | ⟨d', ds, h1, h2, h3, h4, h5⟩
  · exact .inl h
  · exact .inr ⟨d', ds, h1, h2, h3, h4, by rw [Bool.true_bne] at h5; exact h5⟩
end
end Dn
namespace Dn
open PySem PyProof.Rows L2
/-! Part 15: all, any; slices; stores by place; math.comb -/
section
variable {X : Cx} {F : Entry} {a b e e2 tg : Expr} {es : List Expr} {pos p p1 p2 p3 tpos : Pos} {fa fb f fi : EE} {ta : AE} {x : Str} {lo hi : Option Expr}
def boolsOf : List PyData → Option (List Bool)
  | [] => some []
  | .bool b :: ds => (boolsOf ds).map fun bs => b :: bs
  | _ => none
theorem boolsOf_some : ∀ {ds : List PyData} {bs : List Bool}, boolsOf ds = some bs → ds = bs.map PyData.bool
  | [], bs, h => by cases h; rfl
  | .bool b :: ds, bs, h => by
    obtain ⟨cs, h1, rfl⟩ := Option.map_eq_some_iff.mp h
    rw [List.map_cons, ← boolsOf_some h1]
  | .none :: _, _, h => by cases h
  | .int _ :: _, _, h => by cases h
  | .str _ :: _, _, h => by cases h
  | .list _ :: _, _, h => by cases h
  | .tuple _ :: _, _, h => by cases h
  | .dict _ :: _, _, h => by cases h
theorem ShL.bools {K : PySem.W.Frag} {G : Hp} : ∀ {vs : List V} {bs : List Bool}, ShL K G vs (bs.map PyData.bool) → vs = bs.map V.bl
  | _, [], .nil => rfl
  | _, b :: bs, .cons h r => by
    cases h
    rw [ShL.bools r] <;> rfl
def gAll : List PyData → Option S
  | [.list xs] => (boolsOf xs).map fun bs => .sh (.bool (bs.all id))
  | _ => none
def gAny : List PyData → Option S
  | [.list xs] => (boolsOf xs).map fun bs => .sh (.bool (bs.any id))
  | _ => none
theorem ca_all : CaD X F (rAll X.K) gAll := by
  intro G H σ ρ φ ts vs ds r Q I hw hg k
  unfold gAll at hg
  split at hg
  · obtain ⟨ns, h1, h2⟩ := Option.map_eq_some_iff.mp hg
    cases h2
    obtain ⟨v, rfl, h⟩ := shwl1 hw
    obtain ⟨q, us, rfl, h3, r1⟩ := h.list I.gh
    rw [boolsOf_some h1] at r1
    rw [r1.bools] at h3
    exact ⟨_, ns, rfl, SqL.of h3, k _ _ _ _ [] (I.pushD (.bl _))⟩
  · cases hg
theorem ca_any : CaD X F (rAny X.K) gAny := by
  intro G H σ ρ φ ts vs ds r Q I hw hg k
  unfold gAny at hg
  split at hg
  · obtain ⟨ns, h1, h2⟩ := Option.map_eq_some_iff.mp hg
    cases h2
    obtain ⟨v, rfl, h⟩ := shwl1 hw
    obtain ⟨q, us, rfl, h3, r1⟩ := h.list I.gh
    rw [boolsOf_some h1] at r1
    rw [r1.bools] at h3
    exact ⟨_, ns, rfl, SqL.of h3, k _ _ _ _ [] (I.pushD (.bl _))⟩
  · cases hg
/-! ### slices -/
abbrev OE := Dn.Env → Option (Option Int × Dn.Env)
def tO (K : PySem.W.Frag) (F : Entry) (f : OE) : TO := fun σ H Q => ∃ G ρ φ ts r ρ', Fm K F G H σ ρ φ ts ∧ f ρ = some (r, ρ') ∧ ∀ G' H' φ', Fm K F G' H' σ ρ' φ' ts → Q r H'
abbrev DO (X : Cx) (F : Entry) (e : Option Expr) (f : OE) : Prop := PO X e (tO X.K F f)
theorem po_imp {e : Option Expr} {t t' : TO} (h : PO X e t) (k : ∀ σ H Q, t' σ H Q → t σ H Q) : PO X e t' := ⟨fun pins s σ H Q I w => h.run pins s σ H Q I (k σ H Q w)⟩
def noO : OE := fun ρ => some (none, ρ)
def atO (f : EE) : OE := fun ρ => (f ρ).bind fun p => match view p.2 p.1 with | some (.int i) => some (some i, p.2) | _ => none
theorem o_no : DO X F none noO := po_imp po_none fun σ H Q ⟨G, ρ, φ, ts, r, ρ', I, hf, k⟩ => by
  cases hf
  exact k G H φ I
theorem o_at (h : DE X F e f) : DO X F (some e) (atO f) := po_imp (po_some h) fun σ H Q ⟨G, ρ, φ, ts, r, ρ', I, hf, k⟩ => by
  unfold atO at hf
  obtain ⟨⟨s, ρ1⟩, h1, hf⟩ := Option.bind_eq_some_iff.mp hf
  simp only at hf
  split at hf
  · cases hf
    rename_i i hi
    refine ⟨G, ρ, φ, ts, s, ρ', I, h1, fun G1 H1 φ1 v fp I1 => ?_⟩
    exact ⟨i, (I1.view I1.head hi).int, k G1 H1 φ1 I1.drop⟩
  · cases hf
def cutD (xs : List PyData) (lo hi : Option Int) : List PyData := (xs.drop (HT.sIx xs.length 0 lo)).take (HT.sIx xs.length xs.length hi - HT.sIx xs.length 0 lo)
theorem ShL.cut {K : PySem.W.Frag} {G : Hp} {vs : List V} {ds : List PyData} (h : ShL K G vs ds) (lo hi : Option Int) : ShL K G (cutV vs lo hi) (cutD ds lo hi) := by
  unfold cutV cutD
  rw [h.length]
  exact (h.drop _).take _
def gCut (lo hi : Option Int) : PyData → Option S
  | .list xs => some (.ls (cutD xs lo hi))
  | .tuple xs => some (.sh (.tuple (cutD xs lo hi)))
  | _ => none
def cutE (f : EE) (fl fh : OE) : EE := fun ρ => (f ρ).bind fun p => (fl p.2).bind fun l => (fh l.2).bind fun u => (view u.2 p.1).bind fun d => (gCut l.1 u.1 d).map fun r => (r, u.2)
theorem c_cut {fl fh : OE} (he : DE X F e f) (hl : DO X F lo fl) (hh : DO X F hi fh) : DE X F (.Subscript e (.Slice lo hi none p2) pos) (cutE f fl fh) :=
  pe_imp (pe_slice (SlR.or sl_list sl_tupA) he hl hh) fun σ H Q ⟨G, ρ, φ, ts, r, ρ', I, hf, k⟩ => by
    unfold cutE at hf
    obtain ⟨⟨s, ρ1⟩, h1, hf⟩ := Option.bind_eq_some_iff.mp hf
    obtain ⟨⟨l, ρ2⟩, h2, hf⟩ := Option.bind_eq_some_iff.mp hf
    obtain ⟨⟨u, ρ3⟩, h3, hf⟩ := Option.bind_eq_some_iff.mp hf
    obtain ⟨d, h4, hf⟩ := Option.bind_eq_some_iff.mp hf
    obtain ⟨r', h5, h6⟩ := Option.map_eq_some_iff.mp hf
    cases h6
    refine ⟨G, ρ, φ, ts, s, ρ1, I, h1, fun G1 H1 φ1 v fp I1 => ⟨G1, ρ1, φ1, _, l, ρ2, I1, h2, fun G2 H2 φ2 I2 => ⟨G2, ρ2, φ2, _, u, ρ3, I2, h3, fun G3 H3 φ3 I3 => ?_⟩⟩⟩
    have hx := I3.view I3.head h4
    unfold gCut at h5
    split at h5
    · cases h5
      obtain ⟨q, us, rfl, h6, r1⟩ := hx.list I3.gh
      exact .inl ⟨q, us, rfl, SqL.of h6, fun p np => k _ _ φ3 _ _ (I3.drop.newL np (r1.cut l u))⟩
    · cases h5
      obtain ⟨q, us, rfl, h6, r1⟩ := hx.tup
      refine .inr ⟨q, us, rfl, Le.sqT I3.gh h6, fun w => ?_, fun _ p np => k _ _ φ3 _ _ (I3.drop.newT np (r1.cut l u))⟩
      have e : ∀ ys : List PyData, us.length = ys.length → cutD ys l u = ys := fun ys hy => by
        unfold cutD
        rw [← hy, w.1, w.2, List.drop_zero, Nat.sub_zero, hy, List.take_length]
      dsimp only at k
      rw [e _ r1.length] at k
      exact k _ _ φ3 _ [] (I3.drop.pushD (.tup h6 r1))
    · cases h5
/-! ### xs[i] = v, xs[i] op= v: a list in a slot -/
theorem get_list : PGet X (rIxL X.K) := by
  intro pins s σ H x y v u Q I rx ry h
  obtain ⟨p, xs, i, z, rfl, rfl, hq, he, q⟩ := h
  cases rx
  obtain ⟨t, rfl⟩ := ry
  obtain ⟨its, r, pl, hz⟩ := I.list hq
  obtain ⟨j, h1, h2, h3, h4, h5⟩ := atI_get he
  obtain ⟨w, ew, rw'⟩ := r.get h2
  have hl := r.length
  have hn := line63
  have fin : EP X pins σ Q w s := ⟨z, H, I, rw', q⟩
  by_cases h0 : 0 ≤ i
  · have hj : i.toNat = j := by
      rw [seqIndex_of h0 h5] at h1
      exact Option.some.inj h1
    exact wpAny_getItem_list pl.isList h0 (by omega) (by rw [hj]; simpa using ew) fin
  · have hj : (i + (its.toArray.size : Int)).toNat = j := by
      rw [seqIndex_neg (by omega) h4] at h1
      rw [List.size_toArray, ← hl]
      exact Option.some.inj h1
    exact wpAny_getItem_list_neg pl.isList (by omega) (by rw [List.size_toArray] <;> omega) (by omega) (by rw [hj]; simpa using ew) fin
/-- what is on the way goes into place k of the list in slot i -/
def setAt (i : Nat) (k : Int) (d : PyData) (ρ : Dn.Env) : Option Dn.Env := (lsOf ρ i).bind fun ds => (ixN ds.length k).map fun j => ρ.set i (some (.ls (ds.set j d)))
def setIxS (i : Nat) (f fi : EE) : SE := fun ρ => (f ρ).bind fun p => (froze p.2 p.1).bind fun q => (lsOf q.2 i).bind fun _ => (fi q.2).bind fun u => match view u.2 u.1 with
  | some (.int k) => (setAt i k q.1 u.2).map .nx
  | _ => none
theorem setAt_some {i : Nat} {k : Int} {d : PyData} {ρ ρ' : Dn.Env} (h : setAt i k d ρ = some ρ') : ∃ ds j, ρ[i]? = some (some (.ls ds)) ∧ ixN ds.length k = some j ∧ ρ' = ρ.set i (some (.ls (ds.set j d))) := by
  unfold setAt at h
  obtain ⟨ds, h1, h⟩ := Option.bind_eq_some_iff.mp h
  obtain ⟨j, h2, rfl⟩ := Option.map_eq_some_iff.mp h
  exact ⟨ds, j, lsOf_some h1, h2, rfl⟩
theorem s_setIx {i : Nat} {st : Stmt} (h : PS X st (tAsg (tE X.K F f) (gSub (tVar i) (tE X.K F fi) rSetL))) : DS X F st (setIxS i f fi) := ps_imp h fun D σ H ⟨G, ρ, φ, ts, o, I, nb, hf, k⟩ => by
  unfold setIxS at hf
  obtain ⟨⟨r, ρ1⟩, h1, hf⟩ := Option.bind_eq_some_iff.mp hf
  obtain ⟨⟨d, ρ2⟩, h2, hf⟩ := Option.bind_eq_some_iff.mp hf
  obtain ⟨dz, hz, hf⟩ := Option.bind_eq_some_iff.mp hf
  obtain ⟨⟨s, ρ3⟩, h3, hf⟩ := Option.bind_eq_some_iff.mp hf
  simp only at hf hz h2 h3
  split at hf
  · rename_i kk hk
    obtain ⟨ρ4, h4, rfl⟩ := Option.map_eq_some_iff.mp hf
    obtain ⟨ds, j, e1, e2, rfl⟩ := setAt_some h4
    refine ⟨G, ρ, φ, ts, r, ρ1, I, h1, fun G1 H1 φ1 v fp I1 => ?_⟩
    obtain ⟨G2, φ2, I2, l2⟩ := I1.froze h2
    obtain ⟨a, xs, q1, q2, q3, q4, q5⟩ := I2.slotList (lsOf_some hz)
    refine ⟨_, q1, G2, ρ2, φ2, _, s, ρ3, I2, h3, fun G3 H3 φ3 w fp3 I3 => ?_⟩
    have hx := I3.view I3.head hk
    obtain ⟨a', xs', z1, z2, z3, z4, z5⟩ := I3.slotList e1
    rw [q1] at z1
    cases z1
    refine ⟨a, xs', kk, j, rfl, hx.int, z3, by rw [z4.length]; exact e2, ?_⟩
    have hd : Sh X.K G3 v d := (I3.tm _ (List.mem_cons_of_mem _ List.mem_cons_self)).2
    exact k _ _ _ _ (I3.drop.drop.setList e1 z2 q1 (z4.set hd j))
  · cases hf
/-- xs[i] += e, the items ints -/
def augIxS (i : Nat) (gg : Int → Int → Int) (fi f : EE) : SE := fun ρ => (lsOf ρ i).bind fun _ => (fi ρ).bind fun u => match view u.2 u.1 with
  | some (.int k) => (lsOf u.2 i).bind fun ds => match atI ds k with
    | some (.int a) => (f u.2).bind fun p => match view p.2 p.1 with
      | some (.int b) => (setAt i k (.int (gg a b)) p.2).map .nx
      | _ => none
    | _ => none
  | _ => none
theorem s_augIx {i : Nat} {st : Stmt} {gg : Int → Int → Int} (h : PS X st (tAugS (tVar i) (tE X.K F fi) (tE X.K F f) (rIxL X.K) (ipI gg) rSetL)) : DS X F st (augIxS i gg fi f) := ps_imp h fun D σ H ⟨G, ρ, φ, ts, o, I, nb, hf, k⟩ => by
  unfold augIxS at hf
  obtain ⟨dz, hz, hf⟩ := Option.bind_eq_some_iff.mp hf
  obtain ⟨⟨s, ρ1⟩, h1, hf⟩ := Option.bind_eq_some_iff.mp hf
  simp only at hf
  split at hf
  · rename_i kk hk
    obtain ⟨ds, h2, hf⟩ := Option.bind_eq_some_iff.mp hf
    split at hf
    · rename_i a0 ha
      obtain ⟨⟨r, ρ2⟩, h3, hf⟩ := Option.bind_eq_some_iff.mp hf
      simp only at hf
      split at hf
      · rename_i b0 hb
        obtain ⟨ρ4, h4, rfl⟩ := Option.map_eq_some_iff.mp hf
        obtain ⟨ds', j, e1, e2, rfl⟩ := setAt_some h4
        obtain ⟨a, xs, q1, q2, q3, q4, q5⟩ := I.slotList (lsOf_some hz)
        refine ⟨_, q1, G, ρ, φ, ts, s, ρ1, I, h1, fun G1 H1 φ1 v fp I1 => ?_⟩
        have hx := (I1.view I1.head hk).int
        obtain ⟨a', xs', z1, z2, z3, z4, z5⟩ := I1.slotList (lsOf_some h2)
        rw [q1] at z1
        cases z1
        obtain ⟨w, e3, e4⟩ := z4.atI ha
        cases e4
        refine ⟨a, xs', kk, _, rfl, hx, SqL.of z3, e3, G1, ρ1, φ1, _, r, ρ2, I1, h3, fun G2 H2 φ2 y fp2 I2 => ?_⟩
        have hy := (I2.view I2.head hb).int
        refine ⟨a0, b0, rfl, hy, ?_⟩
        obtain ⟨a'', xs'', y1, y2, y3, y4, y5⟩ := I2.slotList e1
        rw [q1] at y1
        cases y1
        refine ⟨a, xs'', kk, j, rfl, hx, y3, by rw [y4.length]; exact e2, ?_⟩
        exact k _ _ _ _ (I2.drop.drop.setList e1 y2 q1 (y4.set (.int _) j))
      · cases hf
    · cases hf
  · cases hf
/-- xs[i], ys[j] = v, w -/
def pairIxS (i j : Nat) (f fi fj : EE) : SE := fun ρ => (f ρ).bind fun p => (froze p.2 p.1).bind fun q => match q.1 with
  | .tuple [d, e] => (lsOf q.2 i).bind fun _ => (fi q.2).bind fun u => match view u.2 u.1 with
    | some (.int k) => (setAt i k d u.2).bind fun ρ1 => (lsOf ρ1 j).bind fun _ => (fj ρ1).bind fun w => match view w.2 w.1 with
      | some (.int l) => (setAt j l e w.2).map .nx
      | _ => none
    | _ => none
  | _ => none
theorem s_pairIx {i j : Nat} {fj : EE} {st : Stmt} (h : PS X st (tAsg (tE X.K F f) (gTup X.K 2 (gCons (gSub (tVar i) (tE X.K F fi) rSetL) (gCons (gSub (tVar j) (tE X.K F fj) rSetL) gNil))))) : DS X F st (pairIxS i j f fi fj) := ps_imp h fun D σ H ⟨G, ρ, φ, ts, o, I, nb, hf, k⟩ => by
  unfold pairIxS at hf
  obtain ⟨⟨r, ρ1⟩, h1, hf⟩ := Option.bind_eq_some_iff.mp hf
  obtain ⟨⟨d, ρ2⟩, h2, hf⟩ := Option.bind_eq_some_iff.mp hf
  simp only at hf h2
  split at hf
  · rename_i d1 d2
    obtain ⟨dz, hz, hf⟩ := Option.bind_eq_some_iff.mp hf
    obtain ⟨⟨s, ρ3⟩, h3, hf⟩ := Option.bind_eq_some_iff.mp hf
    simp only at hf
    split at hf
    · rename_i kk hk
      obtain ⟨ρ4, h4, hf⟩ := Option.bind_eq_some_iff.mp hf
      obtain ⟨ez, gz, hf⟩ := Option.bind_eq_some_iff.mp hf
      obtain ⟨⟨s', ρ5⟩, h5, hf⟩ := Option.bind_eq_some_iff.mp hf
      simp only at hf
      split at hf
      · rename_i ll hll
        obtain ⟨ρ6, h6, rfl⟩ := Option.map_eq_some_iff.mp hf
        obtain ⟨ds, j1, e1, e2, rfl⟩ := setAt_some h4
        obtain ⟨es, j2, e3, e4, rfl⟩ := setAt_some h6
        refine ⟨G, ρ, φ, ts, r, ρ1, I, h1, fun G1 H1 φ1 v fp I1 => ?_⟩
        obtain ⟨G2, φ2, I2, l2⟩ := I1.froze h2
        have hd := I2.head.2
        dsimp only at hd
        generalize v = v0 at hd
        cases hd with
        | tup t1 t2 =>
          rename_i a0 xs0
          cases t2 with
          | cons t3 t4 =>
            rename_i x1 xs1
            cases t4 with
            | cons t5 t6 =>
              rename_i x2 xs2
              cases t6
              refine ⟨a0, [x1, x2], rfl, Le.sqT I2.gh t1, rfl, x1, [x2], rfl, ?_⟩
              have I3 := (I2.drop.pushD t5).pushD (t3)
              obtain ⟨a, xs, q1, q2, q3, q4, q5⟩ := I3.slotList (lsOf_some hz)
              refine ⟨_, q1, G2, ρ2, φ2, _, s, ρ3, I3, h3, fun G3 H3 φ3 w fp3 I4 => ?_⟩
              have hx := I4.view I4.head hk
              obtain ⟨a', xs', z1, z2, z3, z4, z5⟩ := I4.slotList e1
              rw [q1] at z1
              cases z1
              refine ⟨a, xs', kk, j1, rfl, hx.int, z3, by rw [z4.length]; exact e2, ?_⟩
              have hd1 : Sh X.K G3 x1 d1 := (I4.tm _ (List.mem_cons_of_mem _ List.mem_cons_self)).2
              have I5 := I4.drop.drop.setList e1 z2 q1 (z4.set hd1 j1)
              refine ⟨x2, [], rfl, ?_⟩
              obtain ⟨b, ys, y1, y2, y3, y4, y5⟩ := I5.slotList (lsOf_some gz)
              refine ⟨_, y1, _, _, _, _, s', ρ5, I5, h5, fun G6 H6 φ6 w6 fp6 I6 => ?_⟩
              have hx2 := I6.view I6.head hll
              obtain ⟨b', ys', w1, w2, w3, w4, w5⟩ := I6.slotList e3
              rw [y1] at w1
              cases w1
              refine ⟨b, ys', ll, j2, rfl, hx2.int, w3, by rw [w4.length]; exact e4, ?_⟩
              have hd2 : Sh X.K G6 x2 d2 := (I6.tm _ (List.mem_cons_of_mem _ List.mem_cons_self)).2
              exact ⟨rfl, k _ _ _ _ (I6.drop.drop.setList e3 w2 y1 (w4.set hd2 j2))⟩
      · cases hf
    · cases hf
  · cases hf
end
end Dn
namespace Dn
open PySem PySem.W PySem.Calls PyProof.Rows
/-! Part 16: math.comb -/
theorem entry_comb : entryFor table "math.comb" = some Builtin.«math.comb» := entryFor_of_tree (by kernel_rfl)
theorem kind_comb : builtinKind "math.comb" = none := by kernel_rfl
theorem plain_comb : plainId "math.comb" = true := by decide +kernel
theorem args_comb (a b : Value) : argsOk "math.comb" ⟨[a, b], []⟩ := by unfold argsOk; kernel_rfl
def combI (a b : Int) : Int := Builtin.Math.fallingProduct a (min b (a - b)).toNat / Builtin.Math.fallingProduct (min b (a - b)) (min b (a - b)).toNat
theorem run_comb (a : Int) (t : Tok) (b : Int) (u : Tok) (h0 : ¬ a < 0) (h1 : ¬ b < 0) (h2 : ¬ b > a) (h3 : ¬ min b (a - b) > Builtin.Math.maxSsize) (h4 : ¬ min b (a - b) > Builtin.Math.manyFactors) (h5 : ¬ min b (a - b) > 9000) (hsz : (combI a b).natAbs.log2 < bitsLine) :
    Gives (Builtin.«math.comb» ⟨[.int a t, .int b u], []⟩) (.int (combI a b)) :=
  .of_wp fun M A E s Q h => by
    obtain ⟨hp, g, d, tk, os⟩ := s
    wp_walk
    (try (refine wpAny_ite_false (decide_eq_false (Nat.not_le.mpr hsz)) ?_; wp_walk))
    exact ⟨_, rfl, h⟩
open L2
section
variable {X : Cx} {F : Entry}
def combOk (a b : Int) : Bool := decide (0 ≤ b) && decide (b ≤ a) && decide (a ≤ 1000) && decide ((combI a b).natAbs.log2 < 5000)
def rComb : List V → Hp → VK → Prop := fun vs H Q => ∃ a b : Int, vs = [.int a, .int b] ∧ combOk a b = true ∧ Q (.int (combI a b)) H
theorem cr_comb : CallR X (.builtin "math.comb") rComb := by
  intro pins s σ H vs us Q I r h
  obtain ⟨a, b, rfl, hc, q⟩ := h
  obtain ⟨t, u, rfl⟩ := Vals.int2 r
  simp only [combOk, Bool.and_eq_true, decide_eq_true_eq] at hc
  obtain ⟨⟨⟨c1, c2⟩, c3⟩, c4⟩ := hc
  have m1 : min b (a - b) ≤ 1000 := by omega
  have e1 : Builtin.Math.maxSsize = 9223372036854775807 := rfl
  have e2 : Builtin.Math.manyFactors = 20000 := rfl
  have e3 : 5000 ≤ bitsLine := by decide
  exact call_function_meets kind_comb plain_comb entry_comb (args_comb _ _) (run_comb a t b u (by omega) (by omega) (by omega) (by omega) (by omega) (by omega) (by omega)).meets ⟨.int _, H, I.tok _, ⟨_, rfl⟩, q⟩
def gComb : List PyData → Option S
  | [.int a, .int b] => if combOk a b = true then some (.sh (.int (combI a b))) else none
  | _ => none
theorem ca_comb : CaD X F rComb gComb := by
  intro G H σ ρ φ ts vs ds r Q I hw hg k
  unfold gComb at hg
  split at hg
  · split at hg
    · cases hg
      obtain ⟨v, w, rfl, h1, h2⟩ := shwl2 hw
      exact ⟨_, _, by rw [h1.int, h2.int], ‹_›, k _ _ φ _ [] (I.pushD (.int _))⟩
    · cases hg
  · cases hg
end
end Dn
namespace Dn
open PySem PyProof.Rows L2
/-! Part 17: loops over a list that stays a slot's own; the body stores into told slots alone -/
section
variable {X : Cx} {F : Entry} {e tg : Expr} {body : List Stmt} {st : Stmt} {rest : List Stmt} {pos p p1 p2 : Pos} {f : EE} {sf sg : SE} {x : Str}
/-- a statement that runs to its end and stores into the slots ws alone -/
def tSw (K : PySem.W.Frag) (F : Entry) (ws : List Nat) (f : SE) : TS := fun D σ H => ∃ G ρ φ ts ρ', Fm K F G H σ ρ φ ts ∧ NoBor ts ∧ f ρ = some (.nx ρ') ∧
  ∀ G' H' φ' σ', (∀ j, j ∉ ws → σ'[j]? = σ[j]?) → Fm K F G' H' σ' ρ' φ' ts → D.nx σ' H'
abbrev DW1 (X : Cx) (F : Entry) (st : Stmt) (ws : List Nat) (f : SE) : Prop := PS X st (tSw X.K F ws f)
abbrev DWs (X : Cx) (F : Entry) (st : List Stmt) (ws : List Nat) (f : SE) : Prop := PSs X st (tSw X.K F ws f)
theorem w_asg {i : Nat} {pos' : Pos} (h : PS X (.Assign [.Name x pos'] e pos) (tAsg (tE X.K F f) (gName i))) : DW1 X F (.Assign [.Name x pos'] e pos) [i] (asgS i f) := ps_imp h fun D σ H ⟨G, ρ, φ, ts, ρ', I, nb, hf, k⟩ => by
  unfold asgS at hf
  obtain ⟨⟨r, ρ1⟩, h1, hf⟩ := Option.bind_eq_some_iff.mp hf
  obtain ⟨⟨s, ρ2⟩, h2, hf⟩ := Option.bind_eq_some_iff.mp hf
  obtain ⟨ρ3, h3, hf⟩ := Option.map_eq_some_iff.mp hf
  cases hf
  simp only at h2 h3
  obtain ⟨q1, q2, rfl⟩ := setE_some h3
  refine ⟨G, ρ, φ, ts, r, ρ1, I, h1, fun G1 H1 φ1 v fp I1 => ?_⟩
  obtain ⟨⟨G2, φ2, fp2, I2⟩, ns⟩ := I1.own h2
  exact k _ _ _ _ (fun j hj => List.getElem?_set_ne fun z => hj (by rw [z]; exact List.mem_cons_self)) (I2.set q2 q1 ns fun t ht => nb t ht i)
theorem w_expr (h : DE X F e f) (hs : swapsWith e none pos.line X.env = pure false := by rfl) : DW1 X F (.Expr e pos) [] (exprS f) := ps_imp (ps_expr h hs) fun D σ H ⟨G, ρ, φ, ts, ρ', I, nb, hf, k⟩ => by
  unfold exprS at hf
  obtain ⟨⟨r, ρ1⟩, h1, hf⟩ := Option.map_eq_some_iff.mp hf
  cases hf
  exact ⟨G, ρ, φ, ts, r, ρ1, I, h1, fun G1 H1 φ1 v fp I1 => k _ _ _ _ (fun _ _ => rfl) I1.drop⟩
theorem w_nil : DWs X F [] [] nxS := pss_imp pss_nil fun D σ H ⟨G, ρ, φ, ts, ρ', I, nb, hf, k⟩ => by
  cases hf
  exact k _ _ _ _ (fun _ _ => rfl) I
theorem w_one {ws : List Nat} (h : DW1 X F st ws sf) : DWs X F [st] ws sf := pss_one h
theorem w_cons {ws vs : List Nat} (h : DW1 X F st ws sf) (hr : DWs X F rest vs sg) : DWs X F (st :: rest) (ws ++ vs) (seqS sf sg) := pss_imp (pss_cons h hr) fun D σ H ⟨G, ρ, φ, ts, ρ', I, nb, hf, k⟩ => by
  unfold seqS at hf
  obtain ⟨o, h1, hf⟩ := Option.bind_eq_some_iff.mp hf
  cases o with
  | nx ρ1 =>
    refine ⟨G, ρ, φ, ts, ρ1, I, nb, h1, fun G1 H1 φ1 σ1 f1 I1 => ?_⟩
    exact ⟨G1, ρ1, φ1, ts, ρ', I1, nb, hf, fun G2 H2 φ2 σ2 f2 I2 => k _ _ _ _ (fun j hj => (f2 j fun z => hj (List.mem_append_right _ z)).trans (f1 j fun z => hj (List.mem_append_left _ z))) I2⟩
  | rt s ρ1 => cases hf
  | bk ρ1 => cases hf
  | ct ρ1 => cases hf
theorem w_if {c : Expr} {t : BE} {orelse : List Stmt} {ws vs : List Nat} (hc : DB X F c t) (ha : DWs X F body ws sf) (hb : DWs X F orelse vs sg) : DW1 X F (.If c body orelse pos) (ws ++ vs) (ifS t sf sg) := ps_imp (ps_if hc ha hb) fun D σ H ⟨G, ρ, φ, ts, ρ', I, nb, hf, k⟩ => by
  unfold ifS at hf
  obtain ⟨⟨b, ρ1⟩, h1, hf⟩ := Option.bind_eq_some_iff.mp hf
  refine ⟨G, ρ, φ, ts, b, ρ1, I, h1, fun G1 H1 φ1 I1 => ?_⟩
  cases b with
  | true => exact ⟨G1, ρ1, φ1, ts, ρ', I1, nb, hf, fun G2 H2 φ2 σ2 f2 I2 => k _ _ _ _ (fun j hj => f2 j fun z => hj (List.mem_append_left _ z)) I2⟩
  | false => exact ⟨G1, ρ1, φ1, ts, ρ', I1, nb, hf, fun G2 H2 φ2 σ2 f2 I2 => k _ _ _ _ (fun j hj => f2 j fun z => hj (List.mem_append_right _ z)) I2⟩
/-- the turns: n left, the k-th one next, of the list in slot i as it stands -/
def liveGo (en : Bool) (i : Nat) (tg : GE) (f : SE) : Nat → Nat → Dn.Env → Option Dn.Env
  | 0, _, _ => none
  | n + 1, k, ρ => (lsOf ρ i).bind fun ds => match ds[k]? with
    | none => some ρ
    | some d => (tg (if en then .tuple [.int (k : Nat), d] else d) ρ).bind fun ρ1 => (f ρ1).bind fun o => match o with
      | .nx ρ' => liveGo en i tg f n (k + 1) ρ'
      | _ => none
def liveS (en : Bool) (i : Nat) (tg : GE) (f : SE) : SE := fun ρ => (lsOf ρ i).bind fun ds => (liveGo en i tg f (ds.length + 1) 0 ρ).map .nx
theorem live_run {en : Bool} {i : Nat} {vs ws : List Nat} {gg : GE} {g : TG} {tb : TS} (hv : i ∉ vs) (hw : i ∉ ws)
    (gi : ∀ v σ H Q, tG X.K F vs gg v σ H Q → g v σ H Q) (bi : ∀ D σ H, tSw X.K F ws sf D σ H → tb D σ H) {J : Addr → It}
    (jgo : ∀ k a H (xs : List V) x, H a = some (.lst xs) → xs[k]? = some x → (J a).go k H) (jst : ∀ k a H (xs : List V), H a = some (.lst xs) → xs.length ≤ k → (J a).stop k H)
    (jy : ∀ k a H (xs : List V) x v H', H a = some (.lst xs) → xs[k]? = some x → (J a).yld k H v H' → if en = true then ∃ T, v = .ref T ∧ H T = none ∧ H' = upd H T (.tup [.int (k : Nat), x]) else v = x ∧ H' = H)
    {wi : TI} (hi : ∀ σ H R, (∃ a xs, σ[i]? = some (some (.ref a)) ∧ H a = some (.lst xs) ∧ R (J a) H) → wi σ H R) :
    ∀ D σ H, tS X.K F (liveS en i gg sf) D σ H → tFor wi g tb D σ H := fun D σ H ⟨G, ρ, φ, ts, o, I, nb, hf, k⟩ => by
  unfold liveS at hf
  obtain ⟨ds, h1, hf⟩ := Option.bind_eq_some_iff.mp hf
  obtain ⟨ρe, h2, rfl⟩ := Option.map_eq_some_iff.mp hf
  obtain ⟨a, xs, q1, q2, q3, q4, q5⟩ := I.slotList (lsOf_some h1)
  refine hi σ H _ ⟨a, xs, q1, q3, ?_⟩
  refine ⟨fun k m σ H => σ[i]? = some (some (.ref a)) ∧ ∃ G ρ φ, Fm X.K F G H σ ρ φ ts ∧ liveGo en i gg sf m k ρ = some ρe, ⟨_, q1, G, ρ, φ, I, h2⟩, ?_⟩
  rintro kk m σ2 H2 ⟨s1, G2, ρ2, φ2, I2, hgo⟩
  cases m with
  | zero => cases hgo
  | succ m =>
    rw [liveGo] at hgo
    obtain ⟨ds2, g1, hgo⟩ := Option.bind_eq_some_iff.mp hgo
    obtain ⟨a', xs2, z1, z2, z3, z4, z5⟩ := I2.slotList (lsOf_some g1)
    rw [s1] at z1
    cases z1
    split at hgo
    · rename_i hn
      cases hgo
      refine .inl ⟨jst _ _ _ _ z3 (by rw [z4.length]; exact List.getElem?_eq_none_iff.mp hn), k _ _ _ _ I2⟩
    · rename_i d hd
      obtain ⟨v0, y1, y2⟩ := z4.get' hd
      obtain ⟨ρ3, g2, hgo⟩ := Option.bind_eq_some_iff.mp hgo
      obtain ⟨o2, g3, hgo⟩ := Option.bind_eq_some_iff.mp hgo
      cases o2 with
      | nx ρ4 =>
        refine .inr ⟨jgo _ _ _ _ _ z3 y1, fun σ' H' => σ'[i]? = some (some (.ref a)) ∧ ∃ G ρ φ, Fm X.K F G H' σ' ρ φ ts ∧ liveGo en i gg sf m (kk + 1) ρ = some ρe, fun σ' H' q => ⟨m, Nat.lt_succ_self m, q⟩, fun x H' hy => ?_⟩
        have hy := jy _ _ _ _ _ _ _ z3 y1 hy
        have got : ∃ G3, Fm X.K F G3 H' σ2 ρ2 φ2 ts ∧ Sh X.K G3 x (if en then .tuple [.int (kk : Nat), d] else d) := by
          cases en with
          | true =>
            obtain ⟨T, rfl, hT, rfl⟩ := hy
            have q := I2.newT hT (.cons (.int (kk : Nat)) (.cons y2 .nil))
            exact ⟨_, q.drop, q.head.2⟩
          | false =>
            obtain ⟨rfl, rfl⟩ := hy
            exact ⟨G2, I2, y2⟩
        obtain ⟨G3, I3, rx⟩ := got
        refine gi _ _ _ _ ⟨G3, ρ2, φ2, ts, _, ρ3, I3, rx, g2, fun t ht j _ => nb t ht j, fun G5 H5 φ5 σ5 I5 l5 f5 => ?_⟩
        refine bi _ _ _ ⟨G5, ρ3, φ5, ts, ρ4, I5, nb, g3, fun G6 H6 φ6 σ6 f6 I6 => ?_⟩
        exact ⟨by rw [f6 i hw, f5 i hv]; exact s1, G6, ρ4, φ6, I6, hgo⟩
      | rt s ρ4 => cases hgo
      | bk ρ4 => cases hgo
      | ct ρ4 => cases hgo
theorem s_forEnumLive {i : Nat} {vs ws : List Nat} {gg : GE} {tpos : Pos} {elts : List Expr} {kk : Nat} (hp : PassesOwn (model X.prog X.w) X.A X.env X.xe) (hc : X.calm = true) (hg : Gl X "enumerate") (hm : X.mg "enumerate" = none)
    (hx : PE X (.Name x p1) (tVar i)) (ht : DG X F (.Tuple elts kk tpos) vs gg) (hb : DWs X F body ws sf) (hv : i ∉ vs) (hw : i ∉ ws) (hs0 : starEach [.Name x p1] X.env = [(false, eval (.Name x p1) X.env)] := by rfl)
    (hs : ∀ y, foldedSetIterable (.Call (.Name "enumerate" p) [.Name x p1] [] p2) X.env y = pure y := by intro _; rfl) :
    DS X F (.For (.Tuple elts kk tpos) (.Call (.Name "enumerate" p) [.Name x p1] [] p2) body [] pos) (liveS true i gg sf) :=
  ps_imp (ps_for hp hc (pi_enum hg hm (pa_cons hx pa_nil) hs0) ht hb hs) (live_run (J := Ite X.K) hv hw (fun _ _ _ _ q => q) (fun _ _ _ q => q)
    (fun k a H xs x h1 h2 => ⟨xs, x, SqL.of h1, h2⟩) (fun k a H xs h1 h2 => ⟨xs, SqL.of h1, h2⟩)
    (fun k a H xs x v H' h1 h2 h3 => by
      obtain ⟨T, x', e1, e2, e3, e4⟩ := h3
      have := e4 _ (SqL.of h1)
      rw [h2] at this
      cases this
      rw [if_pos rfl]
      exact ⟨T, e1, e2, e3⟩)
    (fun σ H R ⟨a, xs, h1, h2, h3⟩ => ⟨_, h1, a, xs, rfl, SqL.of h2, h3⟩))
end
end Dn
namespace Dn
open PySem PyProof.Rows L2
/-! evaluation of denotations at written environments -/
section
variable {d1 d2 : Int} {ρ ρ' : Env} {f g h fa fb fc : EE} {t u : BE} {sf sg : SE} {ta : AE} {d e : PyData} {i j : Nat} {cs : List Nat}
@[simp] theorem ev_cst : cst d ρ = some (.sh d, ρ) := rfl
@[simp] theorem ev_bin {g : PyData → PyData → Option S} : binE g fa fb ρ = (fa ρ).bind fun p => (fb p.2).bind fun q => (view q.2 p.1).bind fun x => (view q.2 q.1).bind fun y => (g x y).map fun r => (r, q.2) := rfl
@[simp] theorem ev_un {g : PyData → Option S} : unE g fa ρ = (fa ρ).bind fun p => (view p.2 p.1).bind fun x => (g x).map fun r => (r, p.2) := rfl
@[simp] theorem ev_isi {p : PyData → Bool} : isiE p fa ρ = (fa ρ).bind fun q => (view q.2 q.1).bind fun x => some (.sh (.bool (p x)), q.2) := by
  unfold isiE unE; simp
@[simp] theorem ev_tru : truE fa ρ = (fa ρ).bind fun p => match view p.2 p.1 with | some (.bool b) => some (b, p.2) | _ => none := rfl
@[simp] theorem ev_notB : notB t ρ = (t ρ).map fun p => (!p.1, p.2) := rfl
@[simp] theorem ev_andB : andB t u ρ = (t ρ).bind fun p => if p.1 = true then u p.2 else some (false, p.2) := rfl
@[simp] theorem ev_orB : orB t u ρ = (t ρ).bind fun p => if p.1 = true then some (true, p.2) else u p.2 := rfl
@[simp] theorem ev_andE : andE f g ρ = (f ρ).bind fun p => match view p.2 p.1 with | some (.bool true) => g p.2 | some (.bool false) => some (.sh (.bool false), p.2) | _ => none := rfl
@[simp] theorem ev_orE : orE f g ρ = (f ρ).bind fun p => match view p.2 p.1 with | some (.bool false) => g p.2 | some (.bool true) => some (.sh (.bool true), p.2) | _ => none := rfl
@[simp] theorem ev_ifE : ifE t f g ρ = (t ρ).bind fun p => if p.1 = true then f p.2 else g p.2 := rfl
@[simp] theorem ev_chain {gg gg' : PyData → PyData → Option S} : chainE gg gg' fa fb fc ρ =
  (fa ρ).bind fun p => (fb p.2).bind fun q => (view q.2 p.1).bind fun x => (view q.2 q.1).bind fun y => match gg x y with
    | some (.sh (.bool true)) => (fc q.2).bind fun u => (view u.2 q.1).bind fun y' => (view u.2 u.1).bind fun z => (gg' y' z).map fun r => (r, u.2)
    | some (.sh (.bool false)) => some (.sh (.bool false), q.2)
    | _ => none := rfl
@[simp] theorem ev_nilA : nilA ρ = some ([], ρ) := rfl
@[simp] theorem ev_consA : consA f ta ρ = (f ρ).bind fun p => (ta p.2).map fun q => (p.1 :: q.1, q.2) := rfl
@[simp] theorem ev_tupE : tupE ta ρ = (ta ρ).bind fun p => (frozeL p.1 p.2).bind fun q => if q.1.length ≤ 1000000 then some (.sh (.tuple q.1), q.2) else none := rfl
@[simp] theorem ev_lstE : lstE ta ρ = (ta ρ).bind fun p => (frozeL p.1 p.2).bind fun q => if q.1.length ≤ 1000000 then some (.ls q.1, q.2) else none := rfl
@[simp] theorem ev_callE {g : List PyData → Option S} : callE g ta ρ = (ta ρ).bind fun p => (viewL p.2 p.1).bind fun ds => (g ds).map fun r => (r, p.2) := rfl
@[simp] theorem ev_callF {g : List PyData → Option S} : callF g ta ρ = (ta ρ).bind fun p => (viewL p.2 p.1).bind fun ds => (g ds).bind fun r => if flatS r = true then some (r, p.2) else none := rfl
@[simp] theorem ev_callFk {g : List PyData → Option S} {n : Nat} {sel : List Nat} : callFk g n sel ta ρ = (ta ρ).bind fun p => if p.1.length = n then (sel.mapM fun i => p.1[i]?).bind fun rs => (viewL p.2 rs).bind fun ds => (g ds).bind fun r => if flatS r = true then some (r, p.2) else none else none := rfl
@[simp] theorem ev_callK {g : Deck → List PyData → Option (S × Deck)} : callK g ta ρ = (ta ρ).bind fun p => match p.1 with
  | .bor i :: rs => (deckOf p.2 i).bind fun st => (viewL p.2 rs).bind fun ds => (g st ds).bind fun r => if flatS r.1 = true then some (r.1, p.2.set i (some (.deck r.2))) else none
  | _ => none := rfl
@[simp] theorem ev_callN {g : List Int → Option S} : callN g i ρ = (scrOf ρ i).bind fun ns => (g ns).bind fun r => if flatS r = true then some (r, ρ) else none := rfl
@[simp] theorem ev_yesB : yesB ρ = some (true, ρ) := rfl
def lcK (vs : List Nat) (tg : GE) (tt : BE) (el : EE) (ds : List PyData) (ρ : Env) : Option (S × Env) := if deadE ρ vs = true ∧ ds.length ≤ 1000000 then (lcGo vs tg tt el ds ρ).map fun q => (.ls q.1, q.2) else none
@[simp] theorem ev_lcE {vs : List Nat} {it : IE} {tg : GE} {tt : BE} {el : EE} : lcE vs it tg tt el ρ = (it ρ).bind fun p => lcK vs tg tt el p.1 p.2 := rfl
@[simp] theorem ev_seqI : seqI f ρ = (f ρ).bind fun p => (froze p.2 p.1).bind fun q => match q.1 with | .list ds => some (ds, q.2) | _ => none := rfl
@[simp] theorem ev_tupI : tupI f ρ = (f ρ).bind fun p => (froze p.2 p.1).bind fun q => match q.1 with | .tuple ds => some (ds, q.2) | _ => none := rfl
def rng1K (j : Int) (ρ : Env) : Option (List PyData × Env) := if okR j = true then some (rngD 0 j.toNat, ρ) else none
def rng2K (i j : Int) (ρ : Env) : Option (List PyData × Env) := if (okR j && okR i) = true then some (rngD i (j - i).toNat, ρ) else none
@[simp] theorem rng1K_ok (h1 : d1 ≤ 1000000) (h2 : -1000000 ≤ d1) : rng1K d1 ρ = some (rngD 0 d1.toNat, ρ) := if_pos (okR_iff.mpr ⟨h1, h2⟩)
@[simp] theorem rng2K_ok (h1 : d1 ≤ 1000000) (h2 : -1000000 ≤ d1) (h3 : d2 ≤ 1000000) (h4 : -1000000 ≤ d2) : rng2K d1 d2 ρ = some (rngD d1 (d2 - d1).toNat, ρ) := if_pos (by rw [Bool.and_eq_true, okR_iff, okR_iff]; exact ⟨⟨h3, h4⟩, h1, h2⟩)
@[simp] theorem ev_rng1 : rng1I ta ρ = (ta ρ).bind fun p => (viewL p.2 p.1).bind fun ds => match ds with | [.int j] => rng1K j p.2 | _ => none := rfl
@[simp] theorem ev_rng2 : rng2I ta ρ = (ta ρ).bind fun p => (viewL p.2 p.1).bind fun ds => match ds with | [.int i, .int j] => rng2K i j p.2 | _ => none := rfl
@[simp] theorem ev_zipI : zipI ta ρ = (ta ρ).bind fun p => (frozeL p.1 p.2).bind fun q => match q.1 with
  | [.list xs, .list ys] => some (zipD xs ys, q.2)
  | [.tuple xs, .tuple ys] => some (zipD xs ys, q.2)
  | _ => none := rfl
@[simp] theorem ev_nxS : nxS ρ = some (.nx ρ) := rfl
@[simp] theorem ev_seqS : seqS sf sg ρ = (sf ρ).bind fun o => match o with | .nx ρ' => sg ρ' | o => some o := rfl
@[simp] theorem ev_retS : retS f ρ = (f ρ).bind fun p => retE p.1 p.2 := rfl
@[simp] theorem ev_exprS : exprS f ρ = (f ρ).map fun p => .nx p.2 := rfl
@[simp] theorem ev_asgS : asgS i f ρ = (f ρ).bind fun p => (ownE p.1 p.2).bind fun q => (setE i q.1 q.2).map .nx := rfl
@[simp] theorem ev_asgG {tg : GE} : asgG tg f ρ = (f ρ).bind fun p => (froze p.2 p.1).bind fun q => (tg q.1 q.2).map .nx := rfl
@[simp] theorem ev_par2 : par2S i j ta ρ = (ta ρ).bind fun p => match p.1 with
  | [r1, r2] => (ownE r2 p.2).bind fun q2 => (ownE r1 q2.2).bind fun q1 => (setE j q2.1 q1.2).bind fun ρ1 => (setE i q1.1 ρ1).map .nx
  | _ => none := rfl
@[simp] theorem ev_par3 {l : Nat} : par3S i j l ta ρ = (ta ρ).bind fun p => match p.1 with
  | [r1, r2, r3] => (ownE r3 p.2).bind fun q3 => (ownE r2 q3.2).bind fun q2 => (ownE r1 q2.2).bind fun q1 => (setE l q3.1 q1.2).bind fun ρ0 => (setE j q2.1 ρ0).bind fun ρ1 => (setE i q1.1 ρ1).map .nx
  | _ => none := rfl
@[simp] theorem ev_aug {gg : PyData → PyData → Option S} : augS i gg f ρ = match ρ[i]? with
  | some (some (.sh d)) => (f ρ).bind fun p => (view p.2 p.1).bind fun y => (gg d y).bind fun r => match r with
    | .sh z => (setE i (.sh z) p.2).map .nx
    | _ => none
  | _ => none := rfl
@[simp] theorem ev_ifS : ifS t sf sg ρ = (t ρ).bind fun p => if p.1 = true then sf p.2 else sg p.2 := rfl
@[simp] theorem ev_forS {it : IE} {tg : GE} : forS it tg sf ρ = (it ρ).bind fun p => forGo tg sf p.1 p.2 := rfl
@[simp] theorem ev_nameG : nameG i d ρ = setE i (.sh d) ρ := rfl
@[simp] theorem ev_tupG {g : GsE} {ds : List PyData} : tupG g (.tuple ds) ρ = g ds ρ := rfl
@[simp] theorem ev_consG {g : GsE} {ds : List PyData} : consG i g (d :: ds) ρ = (setE i (.sh d) ρ).bind fun ρ' => g ds ρ' := rfl
@[simp] theorem ev_nilG : nilG [] ρ = some ρ := rfl
@[simp] theorem ev_mixed : mixedE i ρ = (deckOf ρ i).map fun st => (.sh (.int st.mixed), ρ) := rfl
@[simp] theorem ev_draws : drawsE i ρ = (deckOf ρ i).map fun st => (.sh (.int st.draws), ρ) := rfl
@[simp] theorem ev_putDraws : putDrawsS i f ρ = (f ρ).bind fun q => match view q.2 q.1 with
  | some (.int n) => (deckOf q.2 i).map fun st => .nx (q.2.set i (some (.deck { st with draws := n })))
  | _ => none := rfl
@[simp] theorem ev_cellsB : cellsB i ρ = (deckOf ρ i).map fun st => (!st.cells.isEmpty, ρ) := rfl
@[simp] theorem ev_popCell {b : Bool} : popCellE i b ρ = (deckOf ρ i).bind fun st => if st.ck = b then match st.cells.getLast? with
    | some n => some (.sh (.int n), ρ.set i (some (.deck { st with cells := st.cells.dropLast })))
    | none => none
  else none := rfl
@[simp] theorem ev_pushCell {b : Bool} : pushCellE b ta ρ = (deckOf ρ 0).bind fun st => if st.ck = b then (ta ρ).bind fun q => (viewL q.2 q.1).bind fun ds => match ds with
    | [.int n] => (deckOf q.2 0).bind fun st' => if st'.ck = b ∧ st'.cells.length < 1000000 then some (.sh .none, q.2.set 0 (some (.deck { st' with cells := st'.cells ++ [n] }))) else none
    | _ => none
  else none := rfl
@[simp] theorem ev_append : appendE i ta ρ = (lsOf ρ i).bind fun _ => (ta ρ).bind fun p => match p.1 with
  | [r] => (froze p.2 r).bind fun q => (lsOf q.2 i).bind fun ds => if ds.length < 1000000 then some (.sh .none, q.2.set i (some (.ls (ds ++ [q.1])))) else none
  | _ => none := rfl
@[simp] theorem ev_extend : extendE i ta ρ = (lsOf ρ i).bind fun _ => (ta ρ).bind fun p => (viewL p.2 p.1).bind fun vs => match vs with
  | [.list es] => (lsOf p.2 i).bind fun ds => if ds.length + es.length < 1000000 then some (.sh .none, p.2.set i (some (.ls (ds ++ es)))) else none
  | _ => none := rfl
@[simp] theorem ev_pop : popE i ρ = (lsOf ρ i).bind fun ds => match ds.getLast? with
  | some d => some (.sh d, ρ.set i (some (.ls ds.dropLast)))
  | none => none := rfl
end
@[simp] theorem ev_cutScr {ρ : Env} {i n : Nat} : cutScrE i n ρ = (scrOf ρ i).map fun ns => (.ls ((ns.take n).map PyData.int), ρ) := rfl
@[simp] theorem ev_deckE {b : Bool} {f g h : EE} {ρ : Env} : deckE b f g h ρ = (f ρ).bind fun q1 => match q1.1 with
  | .ls ds => (intsOf ds).bind fun ns => (g q1.2).bind fun q2 => match q2.1 with
    | .sh (.int m) => (h q2.2).bind fun q3 => match q3.1 with
      | .sh (.int n) => some (.deck ⟨b, ns, m, n⟩, q3.2)
      | _ => none
    | _ => none
  | _ => none := rfl
/-! slots by number -/
@[simp] theorem eg0 {α : Type} {a0 : α} {l : List α} : (a0 :: l)[0]? = some a0 := rfl
@[simp] theorem es0 {α : Type} {a0 b : α} {l : List α} : (a0 :: l).set 0 b = b :: l := rfl
@[simp] theorem eg1 {α : Type} {a0 a1 : α} {l : List α} : (a0 :: a1 :: l)[1]? = some a1 := rfl
@[simp] theorem es1 {α : Type} {a0 a1 b : α} {l : List α} : (a0 :: a1 :: l).set 1 b = a0 :: b :: l := rfl
@[simp] theorem eg2 {α : Type} {a0 a1 a2 : α} {l : List α} : (a0 :: a1 :: a2 :: l)[2]? = some a2 := rfl
@[simp] theorem es2 {α : Type} {a0 a1 a2 b : α} {l : List α} : (a0 :: a1 :: a2 :: l).set 2 b = a0 :: a1 :: b :: l := rfl
@[simp] theorem eg3 {α : Type} {a0 a1 a2 a3 : α} {l : List α} : (a0 :: a1 :: a2 :: a3 :: l)[3]? = some a3 := rfl
@[simp] theorem es3 {α : Type} {a0 a1 a2 a3 b : α} {l : List α} : (a0 :: a1 :: a2 :: a3 :: l).set 3 b = a0 :: a1 :: a2 :: b :: l := rfl
@[simp] theorem eg4 {α : Type} {a0 a1 a2 a3 a4 : α} {l : List α} : (a0 :: a1 :: a2 :: a3 :: a4 :: l)[4]? = some a4 := rfl
@[simp] theorem es4 {α : Type} {a0 a1 a2 a3 a4 b : α} {l : List α} : (a0 :: a1 :: a2 :: a3 :: a4 :: l).set 4 b = a0 :: a1 :: a2 :: a3 :: b :: l := rfl
@[simp] theorem eg5 {α : Type} {a0 a1 a2 a3 a4 a5 : α} {l : List α} : (a0 :: a1 :: a2 :: a3 :: a4 :: a5 :: l)[5]? = some a5 := rfl
@[simp] theorem es5 {α : Type} {a0 a1 a2 a3 a4 a5 b : α} {l : List α} : (a0 :: a1 :: a2 :: a3 :: a4 :: a5 :: l).set 5 b = a0 :: a1 :: a2 :: a3 :: a4 :: b :: l := rfl
@[simp] theorem eg6 {α : Type} {a0 a1 a2 a3 a4 a5 a6 : α} {l : List α} : (a0 :: a1 :: a2 :: a3 :: a4 :: a5 :: a6 :: l)[6]? = some a6 := rfl
@[simp] theorem es6 {α : Type} {a0 a1 a2 a3 a4 a5 a6 b : α} {l : List α} : (a0 :: a1 :: a2 :: a3 :: a4 :: a5 :: a6 :: l).set 6 b = a0 :: a1 :: a2 :: a3 :: a4 :: a5 :: b :: l := rfl
@[simp] theorem eg7 {α : Type} {a0 a1 a2 a3 a4 a5 a6 a7 : α} {l : List α} : (a0 :: a1 :: a2 :: a3 :: a4 :: a5 :: a6 :: a7 :: l)[7]? = some a7 := rfl
@[simp] theorem es7 {α : Type} {a0 a1 a2 a3 a4 a5 a6 a7 b : α} {l : List α} : (a0 :: a1 :: a2 :: a3 :: a4 :: a5 :: a6 :: a7 :: l).set 7 b = a0 :: a1 :: a2 :: a3 :: a4 :: a5 :: a6 :: b :: l := rfl
@[simp] theorem eg8 {α : Type} {a0 a1 a2 a3 a4 a5 a6 a7 a8 : α} {l : List α} : (a0 :: a1 :: a2 :: a3 :: a4 :: a5 :: a6 :: a7 :: a8 :: l)[8]? = some a8 := rfl
@[simp] theorem es8 {α : Type} {a0 a1 a2 a3 a4 a5 a6 a7 a8 b : α} {l : List α} : (a0 :: a1 :: a2 :: a3 :: a4 :: a5 :: a6 :: a7 :: a8 :: l).set 8 b = a0 :: a1 :: a2 :: a3 :: a4 :: a5 :: a6 :: a7 :: b :: l := rfl
@[simp] theorem eg9 {α : Type} {a0 a1 a2 a3 a4 a5 a6 a7 a8 a9 : α} {l : List α} : (a0 :: a1 :: a2 :: a3 :: a4 :: a5 :: a6 :: a7 :: a8 :: a9 :: l)[9]? = some a9 := rfl
@[simp] theorem es9 {α : Type} {a0 a1 a2 a3 a4 a5 a6 a7 a8 a9 b : α} {l : List α} : (a0 :: a1 :: a2 :: a3 :: a4 :: a5 :: a6 :: a7 :: a8 :: a9 :: l).set 9 b = a0 :: a1 :: a2 :: a3 :: a4 :: a5 :: a6 :: a7 :: a8 :: b :: l := rfl
@[simp] theorem eg10 {α : Type} {a0 a1 a2 a3 a4 a5 a6 a7 a8 a9 a10 : α} {l : List α} : (a0 :: a1 :: a2 :: a3 :: a4 :: a5 :: a6 :: a7 :: a8 :: a9 :: a10 :: l)[10]? = some a10 := rfl
@[simp] theorem es10 {α : Type} {a0 a1 a2 a3 a4 a5 a6 a7 a8 a9 a10 b : α} {l : List α} : (a0 :: a1 :: a2 :: a3 :: a4 :: a5 :: a6 :: a7 :: a8 :: a9 :: a10 :: l).set 10 b = a0 :: a1 :: a2 :: a3 :: a4 :: a5 :: a6 :: a7 :: a8 :: a9 :: b :: l := rfl
@[simp] theorem eg11 {α : Type} {a0 a1 a2 a3 a4 a5 a6 a7 a8 a9 a10 a11 : α} {l : List α} : (a0 :: a1 :: a2 :: a3 :: a4 :: a5 :: a6 :: a7 :: a8 :: a9 :: a10 :: a11 :: l)[11]? = some a11 := rfl
@[simp] theorem es11 {α : Type} {a0 a1 a2 a3 a4 a5 a6 a7 a8 a9 a10 a11 b : α} {l : List α} : (a0 :: a1 :: a2 :: a3 :: a4 :: a5 :: a6 :: a7 :: a8 :: a9 :: a10 :: a11 :: l).set 11 b = a0 :: a1 :: a2 :: a3 :: a4 :: a5 :: a6 :: a7 :: a8 :: a9 :: a10 :: b :: l := rfl
@[simp] theorem eg12 {α : Type} {a0 a1 a2 a3 a4 a5 a6 a7 a8 a9 a10 a11 a12 : α} {l : List α} : (a0 :: a1 :: a2 :: a3 :: a4 :: a5 :: a6 :: a7 :: a8 :: a9 :: a10 :: a11 :: a12 :: l)[12]? = some a12 := rfl
@[simp] theorem es12 {α : Type} {a0 a1 a2 a3 a4 a5 a6 a7 a8 a9 a10 a11 a12 b : α} {l : List α} : (a0 :: a1 :: a2 :: a3 :: a4 :: a5 :: a6 :: a7 :: a8 :: a9 :: a10 :: a11 :: a12 :: l).set 12 b = a0 :: a1 :: a2 :: a3 :: a4 :: a5 :: a6 :: a7 :: a8 :: a9 :: a10 :: a11 :: b :: l := rfl
@[simp] theorem eg13 {α : Type} {a0 a1 a2 a3 a4 a5 a6 a7 a8 a9 a10 a11 a12 a13 : α} {l : List α} : (a0 :: a1 :: a2 :: a3 :: a4 :: a5 :: a6 :: a7 :: a8 :: a9 :: a10 :: a11 :: a12 :: a13 :: l)[13]? = some a13 := rfl
@[simp] theorem es13 {α : Type} {a0 a1 a2 a3 a4 a5 a6 a7 a8 a9 a10 a11 a12 a13 b : α} {l : List α} : (a0 :: a1 :: a2 :: a3 :: a4 :: a5 :: a6 :: a7 :: a8 :: a9 :: a10 :: a11 :: a12 :: a13 :: l).set 13 b = a0 :: a1 :: a2 :: a3 :: a4 :: a5 :: a6 :: a7 :: a8 :: a9 :: a10 :: a11 :: a12 :: b :: l := rfl
@[simp] theorem eg14 {α : Type} {a0 a1 a2 a3 a4 a5 a6 a7 a8 a9 a10 a11 a12 a13 a14 : α} {l : List α} : (a0 :: a1 :: a2 :: a3 :: a4 :: a5 :: a6 :: a7 :: a8 :: a9 :: a10 :: a11 :: a12 :: a13 :: a14 :: l)[14]? = some a14 := rfl
@[simp] theorem es14 {α : Type} {a0 a1 a2 a3 a4 a5 a6 a7 a8 a9 a10 a11 a12 a13 a14 b : α} {l : List α} : (a0 :: a1 :: a2 :: a3 :: a4 :: a5 :: a6 :: a7 :: a8 :: a9 :: a10 :: a11 :: a12 :: a13 :: a14 :: l).set 14 b = a0 :: a1 :: a2 :: a3 :: a4 :: a5 :: a6 :: a7 :: a8 :: a9 :: a10 :: a11 :: a12 :: a13 :: b :: l := rfl
@[simp] theorem eg15 {α : Type} {a0 a1 a2 a3 a4 a5 a6 a7 a8 a9 a10 a11 a12 a13 a14 a15 : α} {l : List α} : (a0 :: a1 :: a2 :: a3 :: a4 :: a5 :: a6 :: a7 :: a8 :: a9 :: a10 :: a11 :: a12 :: a13 :: a14 :: a15 :: l)[15]? = some a15 := rfl
@[simp] theorem es15 {α : Type} {a0 a1 a2 a3 a4 a5 a6 a7 a8 a9 a10 a11 a12 a13 a14 a15 b : α} {l : List α} : (a0 :: a1 :: a2 :: a3 :: a4 :: a5 :: a6 :: a7 :: a8 :: a9 :: a10 :: a11 :: a12 :: a13 :: a14 :: a15 :: l).set 15 b = a0 :: a1 :: a2 :: a3 :: a4 :: a5 :: a6 :: a7 :: a8 :: a9 :: a10 :: a11 :: a12 :: a13 :: a14 :: b :: l := rfl
@[simp] theorem eg16 {α : Type} {a0 a1 a2 a3 a4 a5 a6 a7 a8 a9 a10 a11 a12 a13 a14 a15 a16 : α} {l : List α} : (a0 :: a1 :: a2 :: a3 :: a4 :: a5 :: a6 :: a7 :: a8 :: a9 :: a10 :: a11 :: a12 :: a13 :: a14 :: a15 :: a16 :: l)[16]? = some a16 := rfl
@[simp] theorem es16 {α : Type} {a0 a1 a2 a3 a4 a5 a6 a7 a8 a9 a10 a11 a12 a13 a14 a15 a16 b : α} {l : List α} : (a0 :: a1 :: a2 :: a3 :: a4 :: a5 :: a6 :: a7 :: a8 :: a9 :: a10 :: a11 :: a12 :: a13 :: a14 :: a15 :: a16 :: l).set 16 b = a0 :: a1 :: a2 :: a3 :: a4 :: a5 :: a6 :: a7 :: a8 :: a9 :: a10 :: a11 :: a12 :: a13 :: a14 :: a15 :: b :: l := rfl
@[simp] theorem eg17 {α : Type} {a0 a1 a2 a3 a4 a5 a6 a7 a8 a9 a10 a11 a12 a13 a14 a15 a16 a17 : α} {l : List α} : (a0 :: a1 :: a2 :: a3 :: a4 :: a5 :: a6 :: a7 :: a8 :: a9 :: a10 :: a11 :: a12 :: a13 :: a14 :: a15 :: a16 :: a17 :: l)[17]? = some a17 := rfl
@[simp] theorem es17 {α : Type} {a0 a1 a2 a3 a4 a5 a6 a7 a8 a9 a10 a11 a12 a13 a14 a15 a16 a17 b : α} {l : List α} : (a0 :: a1 :: a2 :: a3 :: a4 :: a5 :: a6 :: a7 :: a8 :: a9 :: a10 :: a11 :: a12 :: a13 :: a14 :: a15 :: a16 :: a17 :: l).set 17 b = a0 :: a1 :: a2 :: a3 :: a4 :: a5 :: a6 :: a7 :: a8 :: a9 :: a10 :: a11 :: a12 :: a13 :: a14 :: a15 :: a16 :: b :: l := rfl
@[simp] theorem eg18 {α : Type} {a0 a1 a2 a3 a4 a5 a6 a7 a8 a9 a10 a11 a12 a13 a14 a15 a16 a17 a18 : α} {l : List α} : (a0 :: a1 :: a2 :: a3 :: a4 :: a5 :: a6 :: a7 :: a8 :: a9 :: a10 :: a11 :: a12 :: a13 :: a14 :: a15 :: a16 :: a17 :: a18 :: l)[18]? = some a18 := rfl
@[simp] theorem es18 {α : Type} {a0 a1 a2 a3 a4 a5 a6 a7 a8 a9 a10 a11 a12 a13 a14 a15 a16 a17 a18 b : α} {l : List α} : (a0 :: a1 :: a2 :: a3 :: a4 :: a5 :: a6 :: a7 :: a8 :: a9 :: a10 :: a11 :: a12 :: a13 :: a14 :: a15 :: a16 :: a17 :: a18 :: l).set 18 b = a0 :: a1 :: a2 :: a3 :: a4 :: a5 :: a6 :: a7 :: a8 :: a9 :: a10 :: a11 :: a12 :: a13 :: a14 :: a15 :: a16 :: a17 :: b :: l := rfl
@[simp] theorem eg19 {α : Type} {a0 a1 a2 a3 a4 a5 a6 a7 a8 a9 a10 a11 a12 a13 a14 a15 a16 a17 a18 a19 : α} {l : List α} : (a0 :: a1 :: a2 :: a3 :: a4 :: a5 :: a6 :: a7 :: a8 :: a9 :: a10 :: a11 :: a12 :: a13 :: a14 :: a15 :: a16 :: a17 :: a18 :: a19 :: l)[19]? = some a19 := rfl
@[simp] theorem es19 {α : Type} {a0 a1 a2 a3 a4 a5 a6 a7 a8 a9 a10 a11 a12 a13 a14 a15 a16 a17 a18 a19 b : α} {l : List α} : (a0 :: a1 :: a2 :: a3 :: a4 :: a5 :: a6 :: a7 :: a8 :: a9 :: a10 :: a11 :: a12 :: a13 :: a14 :: a15 :: a16 :: a17 :: a18 :: a19 :: l).set 19 b = a0 :: a1 :: a2 :: a3 :: a4 :: a5 :: a6 :: a7 :: a8 :: a9 :: a10 :: a11 :: a12 :: a13 :: a14 :: a15 :: a16 :: a17 :: a18 :: b :: l := rfl
@[simp] theorem eg20 {α : Type} {a0 a1 a2 a3 a4 a5 a6 a7 a8 a9 a10 a11 a12 a13 a14 a15 a16 a17 a18 a19 a20 : α} {l : List α} : (a0 :: a1 :: a2 :: a3 :: a4 :: a5 :: a6 :: a7 :: a8 :: a9 :: a10 :: a11 :: a12 :: a13 :: a14 :: a15 :: a16 :: a17 :: a18 :: a19 :: a20 :: l)[20]? = some a20 := rfl
@[simp] theorem es20 {α : Type} {a0 a1 a2 a3 a4 a5 a6 a7 a8 a9 a10 a11 a12 a13 a14 a15 a16 a17 a18 a19 a20 b : α} {l : List α} : (a0 :: a1 :: a2 :: a3 :: a4 :: a5 :: a6 :: a7 :: a8 :: a9 :: a10 :: a11 :: a12 :: a13 :: a14 :: a15 :: a16 :: a17 :: a18 :: a19 :: a20 :: l).set 20 b = a0 :: a1 :: a2 :: a3 :: a4 :: a5 :: a6 :: a7 :: a8 :: a9 :: a10 :: a11 :: a12 :: a13 :: a14 :: a15 :: a16 :: a17 :: a18 :: a19 :: b :: l := rfl
@[simp] theorem eg21 {α : Type} {a0 a1 a2 a3 a4 a5 a6 a7 a8 a9 a10 a11 a12 a13 a14 a15 a16 a17 a18 a19 a20 a21 : α} {l : List α} : (a0 :: a1 :: a2 :: a3 :: a4 :: a5 :: a6 :: a7 :: a8 :: a9 :: a10 :: a11 :: a12 :: a13 :: a14 :: a15 :: a16 :: a17 :: a18 :: a19 :: a20 :: a21 :: l)[21]? = some a21 := rfl
@[simp] theorem es21 {α : Type} {a0 a1 a2 a3 a4 a5 a6 a7 a8 a9 a10 a11 a12 a13 a14 a15 a16 a17 a18 a19 a20 a21 b : α} {l : List α} : (a0 :: a1 :: a2 :: a3 :: a4 :: a5 :: a6 :: a7 :: a8 :: a9 :: a10 :: a11 :: a12 :: a13 :: a14 :: a15 :: a16 :: a17 :: a18 :: a19 :: a20 :: a21 :: l).set 21 b = a0 :: a1 :: a2 :: a3 :: a4 :: a5 :: a6 :: a7 :: a8 :: a9 :: a10 :: a11 :: a12 :: a13 :: a14 :: a15 :: a16 :: a17 :: a18 :: a19 :: a20 :: b :: l := rfl
@[simp] theorem eg22 {α : Type} {a0 a1 a2 a3 a4 a5 a6 a7 a8 a9 a10 a11 a12 a13 a14 a15 a16 a17 a18 a19 a20 a21 a22 : α} {l : List α} : (a0 :: a1 :: a2 :: a3 :: a4 :: a5 :: a6 :: a7 :: a8 :: a9 :: a10 :: a11 :: a12 :: a13 :: a14 :: a15 :: a16 :: a17 :: a18 :: a19 :: a20 :: a21 :: a22 :: l)[22]? = some a22 := rfl
@[simp] theorem es22 {α : Type} {a0 a1 a2 a3 a4 a5 a6 a7 a8 a9 a10 a11 a12 a13 a14 a15 a16 a17 a18 a19 a20 a21 a22 b : α} {l : List α} : (a0 :: a1 :: a2 :: a3 :: a4 :: a5 :: a6 :: a7 :: a8 :: a9 :: a10 :: a11 :: a12 :: a13 :: a14 :: a15 :: a16 :: a17 :: a18 :: a19 :: a20 :: a21 :: a22 :: l).set 22 b = a0 :: a1 :: a2 :: a3 :: a4 :: a5 :: a6 :: a7 :: a8 :: a9 :: a10 :: a11 :: a12 :: a13 :: a14 :: a15 :: a16 :: a17 :: a18 :: a19 :: a20 :: a21 :: b :: l := rfl
@[simp] theorem eg23 {α : Type} {a0 a1 a2 a3 a4 a5 a6 a7 a8 a9 a10 a11 a12 a13 a14 a15 a16 a17 a18 a19 a20 a21 a22 a23 : α} {l : List α} : (a0 :: a1 :: a2 :: a3 :: a4 :: a5 :: a6 :: a7 :: a8 :: a9 :: a10 :: a11 :: a12 :: a13 :: a14 :: a15 :: a16 :: a17 :: a18 :: a19 :: a20 :: a21 :: a22 :: a23 :: l)[23]? = some a23 := rfl
@[simp] theorem es23 {α : Type} {a0 a1 a2 a3 a4 a5 a6 a7 a8 a9 a10 a11 a12 a13 a14 a15 a16 a17 a18 a19 a20 a21 a22 a23 b : α} {l : List α} : (a0 :: a1 :: a2 :: a3 :: a4 :: a5 :: a6 :: a7 :: a8 :: a9 :: a10 :: a11 :: a12 :: a13 :: a14 :: a15 :: a16 :: a17 :: a18 :: a19 :: a20 :: a21 :: a22 :: a23 :: l).set 23 b = a0 :: a1 :: a2 :: a3 :: a4 :: a5 :: a6 :: a7 :: a8 :: a9 :: a10 :: a11 :: a12 :: a13 :: a14 :: a15 :: a16 :: a17 :: a18 :: a19 :: a20 :: a21 :: a22 :: b :: l := rfl
/-! parts that compute at constructors -/
section
variable {ρ : Env} {cs : List Nat} {i j : Nat} {d e : PyData} {ds es : List PyData} {s : S} {rs : List S}
@[simp] theorem ev_nameE : nameE cs i ρ = match ρ[i]? with
  | some (some (.sh d)) => some (.sh d, ρ)
  | some (some _) => if cs.contains i then none else some (.bor i, ρ)
  | _ => none := rfl
@[simp] theorem view_sh : view ρ (.sh d) = some d := rfl
@[simp] theorem view_ls : view ρ (.ls ds) = some (.list ds) := rfl
@[simp] theorem view_bor : view ρ (.bor i) = match ρ[i]? with
    | some (some (.sh d)) => some d
    | some (some (.ls xs)) => some (.list xs)
    | _ => none := rfl
@[simp] theorem viewL_nil : viewL ρ [] = some [] := rfl
@[simp] theorem viewL_cons : viewL ρ (s :: rs) = (view ρ s).bind fun d => (viewL ρ rs).map fun ds => d :: ds := rfl
@[simp] theorem froze_sh : froze ρ (.sh d) = some (d, ρ) := rfl
@[simp] theorem froze_ls : froze ρ (.ls ds) = some (.list ds, ρ) := rfl
@[simp] theorem froze_bor : froze ρ (.bor i) = match ρ[i]? with
    | some (some (.sh d)) => some (d, ρ)
    | some (some (.ls xs)) => some (.list xs, ρ.set i (some (.sh (.list xs))))
    | some (some (.dk kvs)) => some (.dict (kvs.map fun p => (keyD p.1, p.2)), ρ.set i (some (.sh (.dict (kvs.map fun p => (keyD p.1, p.2))))))
    | some (some (.dt kvs)) => some (.dict (kvs.map fun p => (.tuple (p.1.map keyD), p.2)), ρ.set i (some (.sh (.dict (kvs.map fun p => (.tuple (p.1.map keyD), p.2))))))
    | _ => none := rfl
@[simp] theorem frozeL_ev : frozeL rs ρ = (frozeR rs.reverse ρ).map fun p => (p.1.reverse, p.2) := rfl
@[simp] theorem frozeR_nil : frozeR [] ρ = some ([], ρ) := rfl
@[simp] theorem frozeR_cons : frozeR (s :: rs) ρ = (froze ρ s).bind fun p => (frozeR rs p.2).map fun q => (p.1 :: q.1, q.2) := rfl
@[simp] theorem ownE_sh : ownE (.sh d) ρ = some (.sh d, ρ) := rfl
@[simp] theorem ownE_ls : ownE (.ls ds) ρ = some (.ls ds, ρ) := rfl
@[simp] theorem ownE_deck {st : Deck} : ownE (.deck st) ρ = some (.deck st, ρ) := rfl
@[simp] theorem ownE_bor : ownE (.bor i) ρ = (froze ρ (.bor i)).map fun p => (.sh p.1, p.2) := rfl
@[simp] theorem setE_ev : setE i s ρ = if (i == 0 && deckAt ρ 0) = true then none else if i < ρ.length then some (ρ.set i (some s)) else none := rfl
@[simp] theorem deckAt_ev : deckAt ρ i = match ρ[i]? with
  | some (some s) => isDeck s
  | _ => false := rfl
@[simp] theorem isDeck_sh : isDeck (.sh d) = false := rfl
@[simp] theorem isDeck_ls : isDeck (.ls ds) = false := rfl
@[simp] theorem isDeck_deck {st : Deck} : isDeck (.deck st) = true := rfl
@[simp] theorem isDeck_scr {ns : List Int} : isDeck (.scr ns) = false := rfl
@[simp] theorem lsOf_ev : lsOf ρ i = match ρ[i]? with
  | some (some (.ls ds)) => some ds
  | _ => none := rfl
@[simp] theorem scrOf_ev : scrOf ρ i = match ρ[i]? with
  | some (some (.scr ns)) => some ns
  | _ => none := rfl
@[simp] theorem deckOf_ev : deckOf ρ i = match ρ[i]? with
  | some (some (.deck st)) => some st
  | _ => none := rfl
@[simp] theorem retE_sh : retE (.sh d) ρ = some (.rt (.sh d) ρ) := rfl
@[simp] theorem retE_ls : retE (.ls ds) ρ = some (.rt (.ls ds) ρ) := rfl
@[simp] theorem retE_deck {st : Deck} : retE (.deck st) ρ = some (.rt (.deck st) ρ) := rfl
@[simp] theorem retE_bor : retE (.bor i) ρ = match ρ[i]? with
    | some (some (.sh d)) => some (.rt (.sh d) ρ)
    | some (some (.ls xs)) => some (.rt (.ls xs) (ρ.set i none))
    | some (some (.dk xs)) => some (.rt (.dk xs) (ρ.set i none))
    | some (some (.dt xs)) => some (.rt (.dt xs) (ρ.set i none))
    | _ => none := rfl
@[simp] theorem outG_rt : outG (.rt s ρ) = if resS s = true then some s else none := rfl
@[simp] theorem outG_nx : outG (.nx ρ) = some (.sh .none) := rfl
@[simp] theorem outK_rt : outK (.rt s ρ) = if resS s = true then (deckOf ρ 0).map fun st => (s, st) else none := rfl
@[simp] theorem outK_nx : outK (.nx ρ) = (deckOf ρ 0).map fun st => (.sh .none, st) := rfl
@[simp] theorem resS_sh : resS (.sh d) = true := rfl
@[simp] theorem resS_ls : resS (.ls ds) = true := rfl
@[simp] theorem resS_deck {st : Deck} : resS (.deck st) = true := rfl
@[simp] theorem flatS_sh : flatS (.sh d) = flatD d := rfl
@[simp] theorem flatS_ls : flatS (.ls ds) = flatD.flatAll ds := rfl
@[simp] theorem flatS_deck {st : Deck} : flatS (.deck st) = true := rfl
@[simp] theorem flatD_int {i : Int} : flatD (.int i) = true := rfl
@[simp] theorem flatD_bool {i : Bool} : flatD (.bool i) = true := rfl
@[simp] theorem flatD_none : flatD .none = true := rfl
@[simp] theorem flatD_str {x : Str} : flatD (.str x) = true := rfl
@[simp] theorem flatD_tup : flatD (.tuple ds) = flatD.flatAll ds := rfl
@[simp] theorem flatAll_nil : flatD.flatAll [] = true := rfl
@[simp] theorem flatAll_cons : flatD.flatAll (d :: ds) = (flatD d && flatD.flatAll ds) := rfl
@[simp low] theorem gInt_int {c : Int → Int → Bool} {g : Int → Int → Int} {a b : Int} : gInt c g (.int a) (.int b) = if c a b = true then some (.sh (.int (g a b))) else none := rfl
@[simp] theorem gMod_ok {a b : Int} (h : 0 < b) : gInt (fun _ j => decide (0 < j)) (fun i j => i % j) (.int a) (.int b) = some (.sh (.int (a % b))) := by
  rw [gInt_int, if_pos (by simpa using h)]
@[simp] theorem gFdiv_ok {a b : Int} (h : 0 < b) (h2 : b < 1606938044258990275541962092341162602522202993782792835301376) : gInt (fun _ j => decide (0 < j) && decide (j.natAbs.log2 < 9000)) (fun i j => i / j) (.int a) (.int b) = some (.sh (.int (a / b))) := by
  have e2 : b.natAbs.log2 < 9000 := by
    by_cases z : b.natAbs = 0
    · omega
    · have e : b.natAbs.log2 < 200 := (Nat.log2_lt z).mpr (by show _ < 1606938044258990275541962092341162602522202993782792835301376; omega)
      omega
  rw [gInt_int, if_pos (by simp [h, e2])]
@[simp] theorem gPow_ok {a b : Int} (h0 : 0 ≤ b) (h1 : b ≤ 1000000) (h2 : -18446744073709551616 < a) (h3 : a < 18446744073709551616) : gPow (.int a) (.int b) = some (.sh (.int (a ^ b.toNat))) := by
  unfold gPow
  rw [gInt_int, if_pos]
  have : a.natAbs < 2 ^ 64 := by show _ < 18446744073709551616; omega
  simp [h0, h1, this]
@[simp] theorem gInt0_int {g : Int → Int → Int} {a b : Int} : gInt0 g (.int a) (.int b) = some (.sh (.int (g a b))) := rfl
@[simp] theorem gIntB_int {g : Int → Int → Bool} {a b : Int} : gIntB g (.int a) (.int b) = some (.sh (.bool (g a b))) := rfl
@[simp] theorem addS_int {a b : Int} : addS (.int a) (.int b) = some (.sh (.int (a + b))) := rfl
@[simp] theorem addS_list : addS (.list ds) (.list es) = if ds.length + es.length ≤ 1000000 then some (.ls (ds ++ es)) else none := rfl
theorem log2_of {i : Int} {n : Nat} (h : i.natAbs < 2 ^ n) (hn : 0 < n) : i.natAbs.log2 < n := by
  by_cases z : i.natAbs = 0
  · rw [z]; exact hn
  · exact (Nat.log2_lt z).mpr h
@[simp] theorem mulS_ok {a b : Int} (h1 : -1606938044258990275541962092341162602522202993782792835301376 < a) (h2 : a < 1606938044258990275541962092341162602522202993782792835301376) (h3 : -1606938044258990275541962092341162602522202993782792835301376 < b) (h4 : b < 1606938044258990275541962092341162602522202993782792835301376) :
    mulS (.int a) (.int b) = some (.sh (.int (a * b))) := by
  have e1 : a.natAbs.log2 < 200 := log2_of (by show _ < 1606938044258990275541962092341162602522202993782792835301376; omega) (by decide)
  have e2 : b.natAbs.log2 < 200 := log2_of (by show _ < 1606938044258990275541962092341162602522202993782792835301376; omega) (by decide)
  show (if _ then _ else _) = _
  rw [if_pos (by omega)]
@[simp] theorem eqS_int {n : Bool} {a b : Int} : eqS n (.int a) (.int b) = some (.sh (.bool (n != decide (a = b)))) := rfl
@[simp] theorem eqS_str {n : Bool} {a b : Str} : eqS n (.str a) (.str b) = some (.sh (.bool (n != decide (a = b)))) := rfl
@[simp] theorem gNeg_int {a : Int} : gNeg (.int a) = some (.sh (.int (-a))) := rfl
@[simp] theorem gNot_bool {b : Bool} : gNot (.bool b) = some (.sh (.bool (!b))) := rfl
@[simp] theorem gLen_list : gLen [.list ds] = some (.sh (.int ds.length)) := rfl
@[simp] theorem gLen_tup : gLen [.tuple ds] = some (.sh (.int ds.length)) := rfl
@[simp] theorem gInt1_int {a : Int} : gInt1 [.int a] = some (.sh (.int a)) := rfl
@[simp] theorem gInt1_bool {b : Bool} : gInt1 [.bool b] = some (.sh (.int (if b then 1 else 0))) := rfl
@[simp] theorem gAbs_int {a : Int} : gAbs [.int a] = some (.sh (.int (if a < 0 then -a else a))) := rfl
@[simp] theorem gMax2_int {a b : Int} : gMax2 [.int a, .int b] = some (.sh (.int (if b > a then b else a))) := rfl
@[simp] theorem gMin2_int {a b : Int} : gMin2 [.int a, .int b] = some (.sh (.int (if b < a then b else a))) := rfl
@[simp] theorem gGcd_int {a b : Int} : gGcd [.int a, .int b] = some (.sh (.int ((Nat.gcd a.natAbs b.natAbs : Nat) : Int))) := rfl
@[simp] theorem gSum_list : gSum [.list ds] = (intsOf ds).map fun ns => .sh (.int ns.sum) := rfl
@[simp] theorem gTuple_list : gTuple [.list ds] = some (.sh (.tuple ds)) := rfl
@[simp] theorem gTuple_tup : gTuple [.tuple ds] = some (.sh (.tuple ds)) := rfl
@[simp] theorem gList_list : gList [.list ds] = some (.ls ds) := rfl
@[simp] theorem gList_tup : gList [.tuple ds] = some (.ls ds) := rfl
@[simp] theorem gRev_list : gRev (.list ds) = some (.ls ds.reverse) := rfl
@[simp] theorem gIx_list {a : Int} : gIx (.list ds) (.int a) = (atI ds a).map .sh := rfl
@[simp] theorem gIx_tup {a : Int} : gIx (.tuple ds) (.int a) = (atI ds a).map .sh := rfl
@[simp] theorem isInt_int {a : Int} : isInt (.int a) = true := rfl
@[simp] theorem isInt_bool {a : Bool} : isInt (.bool a) = true := rfl
@[simp] theorem isBool_int {a : Int} : isBool (.int a) = false := rfl
@[simp] theorem isBool_bool {a : Bool} : isBool (.bool a) = true := rfl
@[simp] theorem isTup_tup : isTup (.tuple ds) = true := rfl
theorem atI_nat {α : Type} {xs : List α} {i : Nat} (h : i < xs.length) : atI xs (i : Int) = xs[i]? := by
  unfold atI ixN
  rw [if_pos (by omega), if_pos (by omega)]
  simp
theorem atI_of {α : Type} {xs : List α} {i : Int} (h0 : 0 ≤ i) (h : i < xs.length) : ∃ x, xs[i.toNat]? = some x ∧ atI xs i = some x := by
  have h' : i.toNat < xs.length := by omega
  refine ⟨xs[i.toNat], List.getElem?_eq_getElem h', ?_⟩
  have := atI_nat h'
  rw [Int.toNat_of_nonneg h0] at this
  rw [this, List.getElem?_eq_getElem h']
end
@[simp] theorem intsOf_nil : intsOf [] = some [] := rfl
@[simp] theorem intsOf_cons {i : Int} {ds : List PyData} : intsOf (.int i :: ds) = (intsOf ds).map fun is => i :: is := rfl
@[simp] theorem intsOf_map (ns : List Int) : intsOf (ns.map PyData.int) = some ns := by
  induction ns with
  | nil => rfl
  | cons n ns ih => simp [ih]
@[simp] theorem intsOf_comp {α : Type} (f : α → Int) (xs : List α) : intsOf (xs.map (PyData.int ∘ f)) = some (xs.map f) := by
  rw [← List.map_map, intsOf_map]
@[simp] theorem intsOf_fun {α : Type} (f : α → Int) (xs : List α) : intsOf (xs.map fun x => PyData.int (f x)) = some (xs.map f) := intsOf_comp f xs

/-! loops -/
section
variable {tg : GE} {f : SE} {ds : List PyData} {ρ : Env}
@[simp] theorem forGo_nil : forGo tg f [] ρ = some (.nx ρ) := rfl
theorem forGo_cons {d : PyData} : forGo tg f (d :: ds) ρ = (tg d ρ).bind fun ρ1 => (f ρ1).bind fun o => match o with
    | .nx ρ' => forGo tg f ds ρ'
    | .ct ρ' => forGo tg f ds ρ'
    | .bk ρ' => some (.nx ρ')
    | .rt s ρ' => some (.rt s ρ') := rfl
/-- a loop that runs to its end, what it carries a fold -/
theorem for_fold {α β : Type} {inj : α → PyData} {E : β → Env → Prop} {step : β → α → β} : ∀ {xs : List α} {b : β} {ρ : Env}, E b ρ →
    (∀ b a ρ, a ∈ xs → E b ρ → ∃ ρ1 ρ', tg (inj a) ρ = some ρ1 ∧ (f ρ1 = some (.nx ρ') ∨ f ρ1 = some (.ct ρ')) ∧ E (step b a) ρ') →
    ∃ ρ', forGo tg f (xs.map inj) ρ = some (.nx ρ') ∧ E (xs.foldl step b) ρ'
  | [], b, ρ, h, _ => ⟨ρ, rfl, h⟩
  | x :: xs, b, ρ, h, hs => by
    obtain ⟨ρ1, ρ2, h1, h2, h3⟩ := hs b x ρ List.mem_cons_self h
    obtain ⟨ρ3, h4, h5⟩ := for_fold (xs := xs) h3 (fun b a ρ ha hb => hs b a ρ (List.mem_cons_of_mem _ ha) hb)
    refine ⟨ρ3, ?_, h5⟩
    rw [List.map_cons, forGo_cons, h1, Option.bind_some]
    rcases h2 with h2 | h2 <;> rw [h2, Option.bind_some] <;> exact h4
/-- a loop that runs to its end, what it carries told by the part that is taken -/
theorem for_pre {α : Type} {inj : α → PyData} {E : List α → Env → Prop} {xs : List α} {ρ : Env} (h : E [] ρ)
    (hs : ∀ pre x post ρ, xs = pre ++ x :: post → E pre ρ → ∃ ρ1 ρ', tg (inj x) ρ = some ρ1 ∧ (f ρ1 = some (.nx ρ') ∨ f ρ1 = some (.ct ρ')) ∧ E (pre ++ [x]) ρ') :
    ∃ ρ', forGo tg f (xs.map inj) ρ = some (.nx ρ') ∧ E xs ρ' := by
  have go : ∀ (post pre : List α) (ρ : Env), xs = pre ++ post → E pre ρ → ∃ ρ', forGo tg f (post.map inj) ρ = some (.nx ρ') ∧ E xs ρ' := by
    intro post
    induction post with
    | nil => intro pre ρ e q; rw [List.append_nil] at e; subst e; exact ⟨ρ, rfl, q⟩
    | cons x post ih =>
      intro pre ρ e q
      obtain ⟨ρ1, ρ2, h1, h2, h3⟩ := hs pre x post ρ e q
      obtain ⟨ρ3, h4, h5⟩ := ih (pre ++ [x]) ρ2 (by rw [e]; simp) h3
      refine ⟨ρ3, ?_, h5⟩
      rw [List.map_cons, forGo_cons, h1, Option.bind_some]
      rcases h2 with h2 | h2 <;> rw [h2, Option.bind_some] <;> exact h4
  exact go xs [] ρ rfl h
/-- a loop with an invariant: it may be left -/
theorem for_wp {P : Out → Prop} (Inv : Nat → Env → Prop) : ∀ {ds : List PyData} {k : Nat} {ρ : Env}, Inv k ρ →
    (∀ i d ρ, ds[i]? = some d → Inv (k + i) ρ → ∃ ρ1 o, tg d ρ = some ρ1 ∧ f ρ1 = some o ∧ (match o with | .nx ρ' => Inv (k + i + 1) ρ' | .ct ρ' => Inv (k + i + 1) ρ' | .bk ρ' => P (.nx ρ') | .rt s ρ' => P (.rt s ρ'))) →
    (∀ ρ, Inv (k + ds.length) ρ → P (.nx ρ)) → ∃ o, forGo tg f ds ρ = some o ∧ P o
  | [], k, ρ, h, _, he => ⟨_, rfl, he ρ h⟩
  | d :: ds, k, ρ, h, hs, he => by
    obtain ⟨ρ1, o, h1, h2, h3⟩ := hs 0 d ρ rfl h
    have go : ∀ ρ', Inv (k + 1) ρ' → ∃ o, forGo tg f ds ρ' = some o ∧ P o := fun ρ' q =>
      for_wp Inv (k := k + 1) q (fun i d ρ e q => by
        have := hs (i + 1) d ρ (by simpa using e) (by rw [show k + (i + 1) = k + 1 + i by omega]; exact q)
        rw [show k + (i + 1) + 1 = k + 1 + i + 1 by omega] at this
        exact this) (fun ρ q => he ρ (by rw [List.length_cons, show k + (ds.length + 1) = k + 1 + ds.length by omega]; exact q))
    rw [forGo_cons, h1, Option.bind_some, h2, Option.bind_some]
    cases o with
    | nx ρ' => exact go ρ' h3
    | ct ρ' => exact go ρ' h3
    | bk ρ' => exact ⟨_, rfl, h3⟩
    | rt s ρ' => exact ⟨_, rfl, h3⟩
theorem rngD_map (lo : Int) (n : Nat) : rngD lo n = (List.range n).map fun i : Nat => PyData.int (lo + (i : Int)) := by
  refine List.ext_getElem? fun i => ?_
  by_cases h : i < n
  · rw [rngD_get n lo i h]; simp [h]
  · rw [List.getElem?_eq_none (by rw [rngD_length]; omega), List.getElem?_eq_none (by simp; omega)]
/-- a comprehension whose parts change nothing -/
theorem lc_pure {α : Type} {vs : List Nat} {tg : GE} {tt : BE} {el : EE} {ρ : Env} {inj e : α → PyData} {t : α → Bool} : ∀ {xs : List α},
    (∀ x ∈ xs, ∃ ρ1, tg (inj x) ρ = some ρ1 ∧ tt ρ1 = some (t x, ρ1) ∧ (t x = true → ∃ r, el ρ1 = some (r, ρ1) ∧ froze ρ1 r = some (e x, ρ1)) ∧ wipeE ρ1 vs = ρ) →
    lcGo vs tg tt el (xs.map inj) ρ = some ((xs.filter t).map e, ρ)
  | [], _ => rfl
  | x :: xs, h => by
    obtain ⟨ρ1, h1, h2, h3, h4⟩ := h x List.mem_cons_self
    have ih := lc_pure (xs := xs) fun y hy => h y (List.mem_cons_of_mem _ hy)
    rw [List.map_cons, lcGo, h1, Option.bind_some, h2, Option.bind_some]
    cases q : t x with
    | false =>
      rw [if_neg (by simp), List.filter_cons_of_neg (by simp [q]), h4]
      exact ih
    | true =>
      obtain ⟨r, h5, h6⟩ := h3 q
      rw [if_pos rfl, h5, Option.bind_some, h6, Option.bind_some, List.filter_cons_of_pos q]
      dsimp only
      rw [h4, ih]
      rfl
theorem lcK_of {vs : List Nat} {tg : GE} {tt : BE} {el : EE} {ds es : List PyData} {ρ ρ' : Env} (hd : deadE ρ vs = true) (hl : ds.length ≤ 1000000) (h : lcGo vs tg tt el ds ρ = some (es, ρ')) : lcK vs tg tt el ds ρ = some (.ls es, ρ') := by
  unfold lcK; rw [if_pos ⟨hd, hl⟩, h]; rfl
theorem lcK_pure {α : Type} {vs : List Nat} {tg : GE} {tt : BE} {el : EE} {ρ : Env} {inj e : α → PyData} {t : α → Bool} {xs : List α} (hd : deadE ρ vs = true) (hl : xs.length ≤ 1000000)
    (h : ∀ x ∈ xs, ∃ ρ1, tg (inj x) ρ = some ρ1 ∧ tt ρ1 = some (t x, ρ1) ∧ (t x = true → ∃ r, el ρ1 = some (r, ρ1) ∧ froze ρ1 r = some (e x, ρ1)) ∧ wipeE ρ1 vs = ρ) :
    lcK vs tg tt el (xs.map inj) ρ = some (.ls ((xs.filter t).map e), ρ) := lcK_of hd (by rw [List.length_map]; exact hl) (lc_pure h)
/-- the numbers from lo on, n of them -/
def nums (lo : Int) (n : Nat) : List Int := (List.range n).map fun i : Nat => lo + (i : Int)
theorem rngD_nums {lo : Int} {n : Nat} : rngD lo n = (nums lo n).map PyData.int := by rw [rngD_map, nums, List.map_map]; rfl
theorem nums_length {lo : Int} {n : Nat} : (nums lo n).length = n := by simp [nums]
theorem mem_nums {lo : Int} {n : Nat} {x : Int} : x ∈ nums lo n ↔ lo ≤ x ∧ x < lo + n := by
  unfold nums
  rw [List.mem_map]
  constructor
  · rintro ⟨i, hi, rfl⟩
    have := List.mem_range.mp hi
    omega
  · intro ⟨h1, h2⟩
    exact ⟨(x - lo).toNat, List.mem_range.mpr (by omega), by omega⟩
theorem for_rng {E : List Int → Env → Prop} {lo : Int} {n : Nat} {ρ : Env} (h : E [] ρ)
    (hs : ∀ pre x ρ, x = lo + pre.length → pre.length < n → E pre ρ → ∃ ρ1 ρ', tg (.int x) ρ = some ρ1 ∧ (f ρ1 = some (.nx ρ') ∨ f ρ1 = some (.ct ρ')) ∧ E (pre ++ [x]) ρ') :
    ∃ ρ', forGo tg f (rngD lo n) ρ = some (.nx ρ') ∧ E (nums lo n) ρ' := by
  rw [rngD_nums]
  refine for_pre h fun pre x post ρ e q => ?_
  have hl : pre.length < n := by
    have := congrArg List.length e
    rw [nums_length, List.length_append, List.length_cons] at this
    omega
  refine hs pre x ρ ?_ hl q
  have h1 : (nums lo n)[pre.length]? = some x := by rw [e]; simp
  unfold nums at h1
  rw [List.getElem?_map, List.getElem?_range hl] at h1
  exact (Option.some.inj h1).symm
/-- the same over the numbers of a range -/
theorem lcK_rng {vs : List Nat} {tg : GE} {tt : BE} {el : EE} {ρ : Env} {e : Int → PyData} {t : Int → Bool} {lo : Int} {n : Nat} (hd : deadE ρ vs = true) (hl : n ≤ 1000000)
    (h : ∀ x : Int, lo ≤ x → x < lo + n → ∃ ρ1, tg (.int x) ρ = some ρ1 ∧ tt ρ1 = some (t x, ρ1) ∧ (t x = true → ∃ r, el ρ1 = some (r, ρ1) ∧ froze ρ1 r = some (e x, ρ1)) ∧ wipeE ρ1 vs = ρ) :
    lcK vs tg tt el (rngD lo n) ρ = some (.ls (((nums lo n).filter t).map e), ρ) := by
  rw [rngD_nums]
  exact lcK_pure hd (by rw [nums_length]; exact hl) fun x hx => h x (mem_nums.mp hx).1 (mem_nums.mp hx).2
end
/-! one statement after another -/
/-- x is told to be some y; unlike an equation, no rule takes it apart -/
def Gv {α : Type} (x : Option α) (y : α) : Prop := x = some y
theorem Gv.eq {α : Type} {x : Option α} {y : α} (h : Gv x y) : x = some y := h
theorem Gv.of {α : Type} {y : α} : Gv (some y) y := rfl
def WS (f : SE) (ρ : Env) (P : Out → Prop) : Prop := ∃ o, f ρ = some o ∧ P o
section
variable {f g : SE} {t : BE} {ρ ρ' : Env} {P : Out → Prop} {o : Out} {b : Bool}
theorem WS.end (h : Gv (f ρ) o) (k : P o) : WS f ρ P := ⟨o, h, k⟩
theorem WS.seq (h : Gv (f ρ) (.nx ρ')) (k : WS g ρ' P) : WS (seqS f g) ρ P := by
  obtain ⟨o, h2, k⟩ := k
  exact ⟨o, by rw [ev_seqS, h.eq, Option.bind_some]; exact h2, k⟩
theorem WS.seqW (h : WS f ρ fun o => match o with | .nx ρ' => WS g ρ' P | o => P o) : WS (seqS f g) ρ P := by
  obtain ⟨o, h1, h2⟩ := h
  cases o with
  | nx ρ' =>
    obtain ⟨o, h3, k⟩ := h2
    exact ⟨o, by rw [ev_seqS, h1, Option.bind_some]; exact h3, k⟩
  | _ => exact ⟨_, by rw [ev_seqS, h1]; rfl, h2⟩
theorem WS.ifT (h : Gv (t ρ) (true, ρ')) (k : WS f ρ' P) : WS (ifS t f g) ρ P := by
  obtain ⟨o, h2, k⟩ := k
  exact ⟨o, by rw [ev_ifS, h.eq, Option.bind_some, if_pos rfl]; exact h2, k⟩
theorem WS.ifF (h : Gv (t ρ) (false, ρ')) (k : WS g ρ' P) : WS (ifS t f g) ρ P := by
  obtain ⟨o, h2, k⟩ := k
  exact ⟨o, by rw [ev_ifS, h.eq, Option.bind_some, if_neg (by simp)]; exact h2, k⟩
theorem WS.ifB (h : Gv (t ρ) (b, ρ')) (k : b = true → WS f ρ' P) (k' : b = false → WS g ρ' P) : WS (ifS t f g) ρ P := by
  cases b with
  | true => exact WS.ifT h (k rfl)
  | false => exact WS.ifF h (k' rfl)
theorem WS.nx (k : P (.nx ρ)) : WS nxS ρ P := ⟨_, rfl, k⟩
theorem WS.mono {P' : Out → Prop} (h : WS f ρ P) (k : ∀ o, P o → P' o) : WS f ρ P' := by
  obtain ⟨o, h1, h2⟩ := h
  exact ⟨o, h1, k o h2⟩
theorem WS.forI {it : IE} {tg : GE} {ds : List PyData} (hi : Gv (it ρ) (ds, ρ')) (Inv : Nat → Env → Prop) (h : Inv 0 ρ')
    (hs : ∀ i d ρ, ds[i]? = some d → Inv i ρ → ∃ ρ1, tg d ρ = some ρ1 ∧ WS f ρ1 fun o => match o with | .nx ρ' => Inv (i + 1) ρ' | .ct ρ' => Inv (i + 1) ρ' | .bk ρ' => P (.nx ρ') | .rt s ρ' => P (.rt s ρ'))
    (he : ∀ ρ, Inv ds.length ρ → P (.nx ρ)) : WS (forS it tg f) ρ P := by
  obtain ⟨o, h1, h2⟩ := for_wp (tg := tg) (f := f) (P := P) Inv (ds := ds) (k := 0) h (fun i d ρ e q => by
    rw [Nat.zero_add] at q ⊢
    obtain ⟨ρ1, e1, o, e2, e3⟩ := hs i d ρ e q
    exact ⟨ρ1, o, e1, e2, e3⟩) (fun ρ q => he ρ (by rw [Nat.zero_add] at q; exact q))
  exact ⟨o, by rw [ev_forS, hi.eq, Option.bind_some]; exact h1, h2⟩
/-- a while by a measure -/
theorem WS.whileM (Inv : Env → Prop) (m : Env → Nat) (h : Inv ρ) (hm : ∀ ρ, Inv ρ → m ρ < 1000000000000)
    (hs : ∀ ρ, Inv ρ → ∃ b ρ1, t ρ = some (b, ρ1) ∧ (b = true → WS f ρ1 fun o => match o with | .nx ρ' => Inv ρ' ∧ m ρ' < m ρ | .ct ρ' => Inv ρ' ∧ m ρ' < m ρ | .bk ρ' => P (.nx ρ') | .rt s ρ' => P (.rt s ρ')) ∧ (b = false → P (.nx ρ1))) : WS (whileS t f) ρ P := by
  have go : ∀ (n : Nat) (ρ : Env), Inv ρ → m ρ < n → ∃ o, whileGo t f n ρ = some o ∧ P o := by
    intro n
    induction n with
    | zero => intro ρ _ h; omega
    | succ n ih =>
      intro ρ hI hn
      obtain ⟨b, ρ1, h1, h2, h3⟩ := hs ρ hI
      rw [whileGo, h1, Option.bind_some]
      cases b with
      | false => exact ⟨_, by rw [if_neg (by simp)], h3 rfl⟩
      | true =>
        obtain ⟨o, e1, e2⟩ := h2 rfl
        rw [if_pos rfl, e1, Option.bind_some]
        cases o with
        | nx ρ' => exact ih ρ' e2.1 (by omega)
        | ct ρ' => exact ih ρ' e2.1 (by omega)
        | bk ρ' => exact ⟨_, rfl, e2⟩
        | rt s ρ' => exact ⟨_, rfl, e2⟩
  exact go fuelN ρ h (hm ρ h)
end
/-- what a body hands back -/
theorem bodyG_of {n m : Nat} {f : SE} {ds : List PyData} {P : S → Prop} (hl : ds.length = m) (h : WS f (startE n ds) fun o => ∃ s, Gv (outG o) s ∧ P s) : ∃ s, bodyG n m f ds = some s ∧ P s := by
  obtain ⟨o, h1, s, h2, h3⟩ := h
  exact ⟨s, by unfold bodyG; rw [if_pos hl, h1, Option.bind_some]; exact h2, h3⟩
theorem bodyG_eq {n m : Nat} {f : SE} {ds : List PyData} {s : S} (hl : ds.length = m) (h : WS f (startE n ds) fun o => Gv (outG o) s) : bodyG n m f ds = some s := by
  obtain ⟨o, h1, h2⟩ := h
  unfold bodyG; rw [if_pos hl, h1, Option.bind_some]; exact h2
theorem bodyK_of {n m : Nat} {f : SE} {st : Deck} {ds : List PyData} {P : S → Deck → Prop} (hl : ds.length = m) (h : WS f (startK n st ds) fun o => ∃ s st', Gv (outK o) (s, st') ∧ P s st') : ∃ s st', bodyK n m f st ds = some (s, st') ∧ P s st' := by
  obtain ⟨o, h1, s, st', h2, h3⟩ := h
  exact ⟨s, st', by unfold bodyK; rw [if_pos hl, h1, Option.bind_some]; exact h2, h3⟩
theorem bodyN_of {n : Nat} {f : SE} {ns : List Int} {P : S → Prop} (h : WS f (startN n ns) fun o => ∃ s, Gv (outG o) s ∧ P s) : ∃ s, bodyN n f ns = some s ∧ P s := by
  obtain ⟨o, h1, s, h2, h3⟩ := h
  exact ⟨s, by unfold bodyN; rw [h1, Option.bind_some]; exact h2, h3⟩
/-! what repr can show -/
structure RP (d : PyData) (n w : Nat) : Prop where
  s : smallD d = true
  l : d.canLay0 = true
  dp : d.depth ≤ n
  wt : d.weight ≤ w
structure RPL (d : List PyData) (n w : Nat) : Prop where
  s : smallAll d = true
  l : PyData.canLayAll0 d = true
  dp : PyData.depthAll d ≤ n
  wt : PyData.weightAll d ≤ w
theorem RP.ok {d : PyData} {n w : Nat} (h : RP d n w) (hn : n ≤ 50) (hw : w ≤ 20000) : reprOk d = true := by
  have h1 := h.dp
  have h2 := h.wt
  unfold reprOk
  rw [h.s, h.l]
  simp
  omega
theorem RP.mono {d : PyData} {n w n' w' : Nat} (h : RP d n w) (hn : n ≤ n') (hw : w ≤ w') : RP d n' w' := ⟨h.s, h.l, Nat.le_trans h.dp hn, Nat.le_trans h.wt hw⟩
theorem RPL.mono {d : List PyData} {n w n' w' : Nat} (h : RPL d n w) (hn : n ≤ n') (hw : w ≤ w') : RPL d n' w' := ⟨h.s, h.l, Nat.le_trans h.dp hn, Nat.le_trans h.wt hw⟩
theorem RP.int {i : Int} (k : Nat) (h : i.natAbs < 2 ^ k) (hk : 0 < k) (hk2 : k ≤ 600) : RP (.int i) 0 k := by
  have q := log2_of h hk
  refine ⟨?_, rfl, Nat.le_refl _, ?_⟩
  · show decide _ = true
    simp; omega
  · show (if _ then _ else _) ≤ k
    split
    · omega
    · exact q
theorem RP.bool {b : Bool} : RP (.bool b) 0 0 := ⟨rfl, rfl, Nat.le_refl _, Nat.le_refl _⟩
theorem RP.none : RP .none 0 0 := ⟨rfl, rfl, Nat.le_refl _, Nat.le_refl _⟩
theorem RPL.nil {n : Nat} : RPL [] n 0 := ⟨rfl, rfl, Nat.zero_le _, Nat.le_refl _⟩
theorem RPL.cons {x : PyData} {xs : List PyData} {n w w' : Nat} (h : RP x n w) (r : RPL xs n w') : RPL (x :: xs) n (w + 1 + w') := by
  refine ⟨?_, ?_, ?_, ?_⟩
  · show (smallD x && smallAll xs) = true
    rw [h.s, r.s]; rfl
  · show (PyData.canLay0 x && PyData.canLayAll0 xs) = true
    rw [h.l, r.l]; rfl
  · show max (PyData.depth x) (PyData.depthAll xs) ≤ n
    exact Nat.max_le.mpr ⟨h.dp, r.dp⟩
  · show PyData.weight x + 1 + PyData.weightAll xs ≤ _
    have := h.wt
    have := r.wt
    omega
theorem RPL.all {n w : Nat} : ∀ {xs : List PyData}, (∀ x ∈ xs, RP x n w) → RPL xs n (xs.length * (w + 1))
  | [], _ => by rw [List.length_nil, Nat.zero_mul]; exact RPL.nil
  | x :: xs, h => by
    have := RPL.cons (h x List.mem_cons_self) (RPL.all (xs := xs) fun y hy => h y (List.mem_cons_of_mem _ hy))
    rw [List.length_cons, Nat.succ_mul, Nat.add_comm (xs.length * (w + 1))]
    exact this
theorem RP.tup {xs : List PyData} {n w : Nat} (h : RPL xs n w) : RP (.tuple xs) (n + 1) w := ⟨h.s, h.l, Nat.succ_le_succ h.dp, h.wt⟩
theorem RP.lst {xs : List PyData} {n w : Nat} (h : RPL xs n w) : RP (.list xs) (n + 1) w := ⟨h.s, h.l, Nat.succ_le_succ h.dp, h.wt⟩
@[simp] theorem gRepr_ok {d : PyData} (h : reprOk d = true) : gRepr [d] = some (.sh (.str d.shown)) := if_pos h
/-! a law's deck: what its draws are told to keep -/
structure DeckOk (b : Bool) (n : Int) (st : Deck) : Prop where
  ck : st.ck = b
  m0 : 0 ≤ st.mixed
  m1 : st.mixed < 2147483648
  d0 : 0 ≤ st.draws
  d1 : st.draws ≤ n
  cl : st.cells.length ≤ 63
theorem DeckOk.mono {b : Bool} {n m : Int} {st : Deck} (h : DeckOk b n st) (l : n ≤ m) : DeckOk b m st := ⟨h.ck, h.m0, h.m1, h.d0, Int.le_trans h.d1 l, h.cl⟩
end Dn
namespace Dn
open PySem PyProof.Rows L2
section
variable {ρ ρ' : Dn.Env} {f g h fa fb fc fi fj : EE} {t u : BE} {sf sg : SE} {ta : AE} {d e : PyData} {i j : Nat} {cs : List Nat} {ds : List PyData} {a b : Int}
@[simp] theorem ev_anyI : anyI f ρ = (f ρ).bind fun p => (froze p.2 p.1).bind fun q => match q.1 with
  | .list ds => some (ds, q.2)
  | .tuple ds => some (ds, q.2)
  | _ => none := rfl
@[simp] theorem ev_enumI : enumI ta ρ = (ta ρ).bind fun p => (frozeL p.1 p.2).bind fun q => match q.1 with
  | [.list xs] => some (enumD 0 xs, q.2)
  | _ => none := rfl
@[simp] theorem ev_noO : noO ρ = some (none, ρ) := rfl
@[simp] theorem ev_atO : atO f ρ = (f ρ).bind fun p => match view p.2 p.1 with | some (.int i) => some (some i, p.2) | _ => none := rfl
@[simp] theorem ev_cutE {fl fh : OE} : cutE f fl fh ρ = (f ρ).bind fun p => (fl p.2).bind fun l => (fh l.2).bind fun u => (view u.2 p.1).bind fun d => (gCut l.1 u.1 d).map fun r => (r, u.2) := rfl
@[simp] theorem gCut_list {lo hi : Option Int} : gCut lo hi (.list ds) = some (.ls (cutD ds lo hi)) := rfl
@[simp] theorem gCut_tup {lo hi : Option Int} : gCut lo hi (.tuple ds) = some (.sh (.tuple (cutD ds lo hi))) := rfl
@[simp] theorem setAt_ev {k : Int} : setAt i k d ρ = (lsOf ρ i).bind fun ds => (ixN ds.length k).map fun j => ρ.set i (some (.ls (ds.set j d))) := rfl
@[simp] theorem ev_setIx : setIxS i f fi ρ = (f ρ).bind fun p => (froze p.2 p.1).bind fun q => (lsOf q.2 i).bind fun _ => (fi q.2).bind fun u => match view u.2 u.1 with
  | some (.int k) => (setAt i k q.1 u.2).map .nx
  | _ => none := rfl
@[simp] theorem ev_augIx {gg : Int → Int → Int} : augIxS i gg fi f ρ = (lsOf ρ i).bind fun _ => (fi ρ).bind fun u => match view u.2 u.1 with
  | some (.int k) => (lsOf u.2 i).bind fun ds => match atI ds k with
    | some (.int a) => (f u.2).bind fun p => match view p.2 p.1 with
      | some (.int b) => (setAt i k (.int (gg a b)) p.2).map .nx
      | _ => none
    | _ => none
  | _ => none := rfl
@[simp] theorem ev_pairIx : pairIxS i j f fi fj ρ = (f ρ).bind fun p => (froze p.2 p.1).bind fun q => match q.1 with
  | .tuple [d, e] => (lsOf q.2 i).bind fun _ => (fi q.2).bind fun u => match view u.2 u.1 with
    | some (.int k) => (setAt i k d u.2).bind fun ρ1 => (lsOf ρ1 j).bind fun _ => (fj ρ1).bind fun w => match view w.2 w.1 with
      | some (.int l) => (setAt j l e w.2).map .nx
      | _ => none
    | _ => none
  | _ => none := rfl
@[simp] theorem boolsOf_nil : boolsOf [] = some [] := rfl
@[simp] theorem boolsOf_cons {c : Bool} : boolsOf (.bool c :: ds) = (boolsOf ds).map fun bs => c :: bs := rfl
@[simp] theorem boolsOf_fun {α : Type} (f : α → Bool) (xs : List α) : boolsOf (xs.map fun x => PyData.bool (f x)) = some (xs.map f) := by
  induction xs with
  | nil => rfl
  | cons x xs ih => simp [ih]
@[simp] theorem gAll_list : gAll [.list ds] = (boolsOf ds).map fun bs => .sh (.bool (bs.all id)) := rfl
@[simp] theorem gAny_list : gAny [.list ds] = (boolsOf ds).map fun bs => .sh (.bool (bs.any id)) := rfl
theorem flat0_ints (ns : List Int) : (ns.map PyData.int).all flat0 = true := by
  induction ns with
  | nil => rfl
  | cons n ns ih => simp [flat0]
theorem any_ints (a : Int) (ns : List Int) : ((ns.map PyData.int).any fun y => eq0 y (.int a)) = decide (a ∈ ns) := by
  induction ns with
  | nil => rfl
  | cons n ns ih =>
    rw [List.map_cons, List.any_cons, ih]
    have e : eq0 (.int n) (.int a) = decide (a = n) := by
      show (n == a) = _
      rw [Bool.eq_iff_iff]
      simp
      exact eq_comm
    rw [e]
    simp [List.mem_cons]
theorem inS_ints {neg : Bool} {a : Int} {ns : List Int} : inS neg (.int a) (.list (ns.map PyData.int)) = some (.sh (.bool (neg != decide (a ∈ ns)))) := by
  show (if _ then _ else _) = _
  rw [if_pos (by rw [flat0_ints]; rfl), any_ints]
theorem inS_tint {neg : Bool} {a : Int} {ns : List Int} : inS neg (.int a) (.tuple (ns.map PyData.int)) = some (.sh (.bool (neg != decide (a ∈ ns)))) := by
  show (if _ then _ else _) = _
  rw [if_pos (by rw [flat0_ints]; rfl), any_ints]
@[simp] theorem inS_t2 {neg : Bool} {a b c : Int} : inS neg (.int a) (.tuple [.int b, .int c]) = some (.sh (.bool (neg != decide (a = b ∨ a = c)))) := by
  have := inS_tint (neg := neg) (a := a) (ns := [b, c])
  simpa using this
end
/-! ### operations that look at the size of their numbers, over plain ints -/
def mulO (a b : Int) : Option Int := if a.natAbs.log2 + b.natAbs.log2 < 1000000 then some (a * b) else none
def modO (a b : Int) : Option Int := if 0 < b then some (a % b) else none
def fdivO (a b : Int) : Option Int := if 0 < b ∧ b.natAbs.log2 < 9000 then some (a / b) else none
def combO (a b : Int) : Option Int := if combOk a b = true then some (combI a b) else none
theorem mulS_O {a b : Int} : mulS (.int a) (.int b) = (mulO a b).map fun x => .sh (.int x) := by
  show (if _ then _ else _) = _
  unfold mulO
  split <;> rfl
theorem gMod_O {a b : Int} : gInt (fun _ j => decide (0 < j)) (fun i j => i % j) (.int a) (.int b) = (modO a b).map fun x => .sh (.int x) := by
  rw [gInt_int]
  unfold modO
  by_cases h : 0 < b
  · rw [if_pos (by simpa using h), if_pos h]; rfl
  · rw [if_neg (by simpa using h), if_neg h]; rfl
theorem gFdiv_O {a b : Int} : gInt (fun _ j => decide (0 < j) && decide (j.natAbs.log2 < 9000)) (fun i j => i / j) (.int a) (.int b) = (fdivO a b).map fun x => .sh (.int x) := by
  rw [gInt_int]
  unfold fdivO
  by_cases h : 0 < b ∧ b.natAbs.log2 < 9000
  · rw [if_pos (by simpa using h), if_pos h]; rfl
  · rw [if_neg (by simpa using h), if_neg h]; rfl
theorem gComb_O {a b : Int} : gComb [.int a, .int b] = (combO a b).map fun x => .sh (.int x) := by
  show (if _ then _ else _) = _
  unfold combO
  split <;> rfl
/-- a loop that tells nothing where its mirror tells nothing -/
theorem for_foldM {tg : GE} {f : SE} {α β : Type} {inj : α → PyData} {E : β → Dn.Env → Prop} {step : β → α → Option β} : ∀ {xs : List α} {b : β} {ρ : Dn.Env}, E b ρ →
    (∀ b a ρ, a ∈ xs → E b ρ → ∃ ρ1, tg (inj a) ρ = some ρ1 ∧ match step b a with | none => True | some b' => ∃ ρ', f ρ1 = some (.nx ρ') ∧ E b' ρ') →
    ∀ {c : β}, xs.foldlM step b = some c → ∃ ρ', forGo tg f (xs.map inj) ρ = some (.nx ρ') ∧ E c ρ'
  | [], b, ρ, h, _, c, e => by
    have e : some b = some c := e
    cases e
    exact ⟨ρ, rfl, h⟩
  | x :: xs, b, ρ, h, hs, c, e => by
    rw [List.foldlM_cons] at e
    obtain ⟨b', e1, e2⟩ := Option.bind_eq_some_iff.mp e
    obtain ⟨ρ1, h1, h2⟩ := hs b x ρ List.mem_cons_self h
    rw [e1] at h2
    obtain ⟨ρ2, h3, h4⟩ := h2
    obtain ⟨ρ3, h5, h6⟩ := for_foldM (xs := xs) h4 (fun b a ρ ha hb => hs b a ρ (List.mem_cons_of_mem _ ha) hb) e2
    exact ⟨ρ3, by rw [List.map_cons, forGo_cons, h1, Option.bind_some, h3, Option.bind_some]; exact h5, h6⟩
theorem enumD_map {α : Type} (inj : α → PyData) : ∀ (xs : List α) (n : Nat), enumD n (xs.map inj) = (xs.zipIdx n).map fun p => .tuple [.int ((p.2 : Nat) : Int), inj p.1]
  | [], _ => rfl
  | x :: xs, n => by rw [List.map_cons, enumD, List.zipIdx_cons, List.map_cons, enumD_map inj xs]
theorem live_foldM {i : Nat} {tg : GE} {f : SE} {α β : Type} {inj : α → PyData} {E : β → Dn.Env → Prop} {step : β → α × Nat → Option β} {xs : List α} (hE : ∀ b ρ, E b ρ → lsOf ρ i = some (xs.map inj))
    (hs : ∀ b x k ρ, xs[k]? = some x → E b ρ → ∃ ρ1, tg (.tuple [.int (k : Nat), inj x]) ρ = some ρ1 ∧ match step b (x, k) with | none => True | some b' => ∃ ρ', f ρ1 = some (.nx ρ') ∧ E b' ρ')
    {b c : β} {ρ : Dn.Env} (h0 : E b ρ) (hc : xs.zipIdx.foldlM step b = some c) : ∃ ρ', liveS true i tg f ρ = some (.nx ρ') ∧ E c ρ' := by
  have go : ∀ (n k : Nat) (b : β) (ρ : Dn.Env), k + n = xs.length → E b ρ → ((xs.drop k).zipIdx k).foldlM step b = some c → ∃ ρ', liveGo true i tg f (n + 1) k ρ = some ρ' ∧ E c ρ' := by
    intro n
    induction n with
    | zero =>
      intro k b ρ hk hb hf
      rw [show k = xs.length by omega, List.drop_length] at hf
      have hf : some b = some c := hf
      cases hf
      refine ⟨ρ, ?_, hb⟩
      rw [liveGo, hE _ ρ hb, Option.bind_some, List.getElem?_eq_none (by rw [List.length_map]; omega)]
    | succ n ih =>
      intro k b ρ hk hb hf
      have hl : k < xs.length := by omega
      rw [List.drop_eq_getElem_cons hl, List.zipIdx_cons, List.foldlM_cons] at hf
      obtain ⟨b', e1, e2⟩ := Option.bind_eq_some_iff.mp hf
      obtain ⟨ρ1, h1, h2⟩ := hs b xs[k] k ρ (List.getElem?_eq_getElem hl) hb
      rw [e1] at h2
      obtain ⟨ρ2, h3, h4⟩ := h2
      obtain ⟨ρ3, h5, h6⟩ := ih (k + 1) b' ρ2 (by omega) h4 e2
      refine ⟨ρ3, ?_, h6⟩
      rw [liveGo, hE b ρ hb, Option.bind_some, List.getElem?_map, List.getElem?_eq_getElem hl]
      show ((tg (.tuple [.int (k : Nat), inj xs[k]]) ρ).bind fun ρ1 => _) = _
      rw [h1, Option.bind_some, h3, Option.bind_some]
      exact h5
  obtain ⟨ρ', h1, h2⟩ := go xs.length 0 b ρ (by omega) h0 (by rw [List.drop_zero]; exact hc)
  refine ⟨ρ', ?_, h2⟩
  unfold liveS
  rw [hE b ρ h0, Option.bind_some, List.length_map, h1]
  rfl
theorem rng1_at {n : Int} (h1 : 1 ≤ n) (h2 : n ≤ 999999) {ρ : Dn.Env} : rng2K 1 (n + 1) ρ = some (rngD 1 n.toNat, ρ) := by
  rw [rng2K_ok (by omega) (by omega) (by omega) (by omega), show n + 1 - 1 = n by omega]
end Dn
namespace K07
open PySem PyProof.Rows L2 Dn
def top (i : Nat) : Stmt := PySem.Challenge.pw_firstterms_k07_whole_sums_of_powers_by_b.main.body.getD i (.Pass ⟨0, 0, 0, 0⟩)
abbrev s_l_deck : Stmt := top 27
abbrev s_l_draw : Stmt := top 28
abbrev s_l_pick : Stmt := top 29
abbrev s_l_is_sign : Stmt := top 30
abbrev s_l_sign : Stmt := top 31
abbrev s_l_at_prime : Stmt := top 32
abbrev s_l_values : Stmt := top 33
abbrev s_is_free : Stmt := top 15
abbrev s_is_integer : Stmt := top 6
abbrev s_is_between : Stmt := top 7
abbrev s_is_sign : Stmt := top 16
abbrev s_need_sign : Stmt := top 17
abbrev s_normal : Stmt := top 8
abbrev s_number_sum : Stmt := top 9
abbrev s_first_numbers : Stmt := top 23
abbrev s_odd_value : Stmt := top 18
abbrev s_value_of : Stmt := top 19
abbrev s_number_product : Stmt := top 10
abbrev s_power_of : Stmt := top 12
abbrev s_signed_number : Stmt := top 24
abbrev s_bernoulli : Stmt := top 25
abbrev s_l_is_number : Stmt := top 35
abbrev s_l_is_kummer : Stmt := top 38
abbrev s_l_is_equal : Stmt := top 37
abbrev s_sign_at : Stmt := top 20
abbrev s_l_power : Stmt := top 34
abbrev s_l_end : Stmt := top 36
abbrev s_law : Stmt := top 39
/-! what each def computes -/
def w1_l_deck : SE := (asgS 1 (binE (gInt (fun _ j => decide (0 < j)) fun i j => i % j) (callE gInt1 (consA (binE addS (binE addS (binE mulS (nameE [] 1) (cst (.int 48271))) (binE (gInt (fun _ j => decide (0 < j)) fun i j => i % j) (callE gInt1 (consA (nameE [] 2) nilA)) (cst (.int 2147483629)))) (cst (.int 43))) nilA)) (cst (.int 2147483587))))
def d_l_deck : SE := (seqS (asgS 1 (cst (.int 10883707))) (seqS (forS (seqI (cutScrE 0 63)) (nameG 2) w1_l_deck) (retS (deckE true (unE gRev (callE gList (consA (cutScrE 0 63) nilA))) (nameE [] 1) (cst (.int 0))))))
def g_l_deck : List Int → Option S := bodyN 3 d_l_deck
def d_l_draw : SE := (seqS (putDrawsS 0 (binE addS (drawsE 0) (cst (.int 1)))) (seqS (asgS 2 (binE addS (mixedE 0) (binE mulS (cst (.int 61473)) (drawsE 0)))) (seqS (ifS (fun ρ => (cellsB 0 ρ).bind fun q => if (deckOf ρ 0).map Deck.ck = some true then some q else none) (seqS (asgS 3 (popCellE 0 true)) (seqS (ifS (truE (binE (gIntB fun i j => decide (j ≤ i)) (nameE [] 3) (binE gPow (cst (.int 10)) (cst (.int 18))))) (seqS (exprS (pushCellE true (consA (binE (gInt (fun _ j => decide (0 < j) && decide (j.natAbs.log2 < 9000)) fun i j => i / j) (nameE [] 3) (callE gMax2 (consA (cst (.int 2)) (consA (nameE [] 1) nilA)))) nilA))) (retS (binE (gInt (fun _ j => decide (0 < j)) fun i j => i % j) (callE gInt1 (consA (nameE [] 3) nilA)) (nameE [] 1)))) nxS) (asgS 2 (binE addS (nameE [] 2) (binE (gInt (fun _ j => decide (0 < j)) fun i j => i % j) (callE gInt1 (consA (nameE [] 3) nilA)) (cst (.int 2147483629))))))) nxS) (seqS (asgS 2 (binE (gInt (fun _ j => decide (0 < j)) fun i j => i % j) (callE gInt1 (consA (binE addS (binE mulS (nameE [] 2) (cst (.int 39373))) (cst (.int 43))) nilA)) (cst (.int 2147483647)))) (seqS (asgS 2 (binE (gInt (fun _ j => decide (0 < j)) fun i j => i % j) (callE gInt1 (consA (binE addS (binE addS (binE mulS (nameE [] 2) (nameE [] 2)) (binE mulS (cst (.int 52713)) (drawsE 0))) (cst (.int 91))) nilA)) (cst (.int 2147483587)))) (seqS (asgS 2 (binE (gInt (fun _ j => decide (0 < j)) fun i j => i % j) (callE gInt1 (consA (binE mulS (nameE [] 2) (cst (.int 40692))) nilA)) (cst (.int 2147483563)))) (retS (binE (gInt (fun _ j => decide (0 < j)) fun i j => i % j) (callE gInt1 (consA (binE (gInt (fun _ j => decide (0 < j) && decide (j.natAbs.log2 < 9000)) fun i j => i / j) (nameE [] 2) (cst (.int 64))) nilA)) (nameE [] 1)))))))))
def g_l_draw : Dn.Deck → List PyData → Option (S × Dn.Deck) := bodyK 4 1 d_l_draw
def d_l_pick : SE := (retS (binE gIx (nameE [] 1) (callK g_l_draw (consA (nameE [] 0) (consA (callE gLen (consA (nameE [] 1) nilA)) nilA)))))
def g_l_pick : Dn.Deck → List PyData → Option (S × Dn.Deck) := bodyK 2 1 d_l_pick
def t1_l_is_sign : BE := (truE (binE (eqS false) (binE (gInt (fun _ j => decide (0 < j)) fun i j => i % j) (callE gInt1 (consA (nameE [2] 1) nilA)) (binE mulS (nameE [2] 2) (nameE [2] 2))) (cst (.int 0))))
def e2_l_is_sign : EE := (nameE [2] 2)
def d_l_is_sign : SE := (seqS (ifS (orB (truE (binE (eqS false) (nameE [2] 0) (cst (.int 0)))) (andB (truE (binE (eqS true) (binE (gInt (fun _ j => decide (0 < j)) fun i j => i % j) (callE gInt1 (consA (nameE [2] 0) nilA)) (cst (.int 4))) (cst (.int 1)))) (truE (binE (inS true) (binE (gInt (fun _ j => decide (0 < j)) fun i j => i % j) (callE gInt1 (consA (nameE [2] 0) nilA)) (cst (.int 16))) (tupE (consA (cst (.int 8)) (consA (cst (.int 12)) nilA))))))) (retS (cst (.bool false))) nxS) (seqS (asgS 1 (ifE (truE (binE (eqS false) (binE (gInt (fun _ j => decide (0 < j)) fun i j => i % j) (callE gInt1 (consA (nameE [2] 0) nilA)) (cst (.int 4))) (cst (.int 1)))) (nameE [2] 0) (binE (gInt (fun _ j => decide (0 < j) && decide (j.natAbs.log2 < 9000)) fun i j => i / j) (nameE [2] 0) (cst (.int 4))))) (retS (binE (eqS false) (lcE [2] (rng2I (consA (cst (.int 2)) (consA (cst (.int 21)) nilA))) (nameG 2) t1_l_is_sign e2_l_is_sign) (lstE nilA)))))
def g_l_is_sign : List PyData → Option S := bodyG 3 1 d_l_is_sign
def w1_l_sign : SE := (ifS (truE (callF g_l_is_sign (consA (binE addS (nameE [] 1) (nameE [] 2)) nilA))) (retS (binE addS (nameE [] 1) (nameE [] 2))) nxS)
def d_l_sign : SE := (seqS (ifS (truE (binE (eqS false) (callK g_l_draw (consA (nameE [] 0) (consA (cst (.int 3)) nilA))) (cst (.int 0)))) (retS (callK g_l_pick (consA (nameE [] 0) (consA (lstE (consA (cst (.int 1)) (consA (unE gNeg (cst (.int 3))) (consA (unE gNeg (cst (.int 4))) (consA (cst (.int 5)) (consA (unE gNeg (cst (.int 7))) (consA (cst (.int 8)) (consA (unE gNeg (cst (.int 8))) (consA (cst (.int 12)) (consA (cst (.int 1)) nilA)))))))))) nilA)))) nxS) (seqS (asgS 1 (binE (gInt0 fun i j => i - j) (callK g_l_draw (consA (nameE [] 0) (consA (cst (.int 125)) nilA))) (cst (.int 64)))) (seqS (forS (rng1I (consA (cst (.int 6)) nilA)) (nameG 2) w1_l_sign) (retS (cst (.int 1))))))
def g_l_sign : Dn.Deck → List PyData → Option (S × Dn.Deck) := bodyK 3 0 d_l_sign
def e1_l_at_prime : EE := (binE (gInt (fun _ j => decide (0 < j)) fun i j => i % j) (callE gInt1 (consA (binE mulS (nameE [2] 2) (nameE [2] 2)) nilA)) (nameE [2] 1))
def d_l_at_prime : SE := (seqS (ifS (truE (binE (eqS false) (binE (gInt (fun _ j => decide (0 < j)) fun i j => i % j) (callE gInt1 (consA (nameE [2] 0) nilA)) (nameE [2] 1)) (cst (.int 0)))) (retS (cst (.int 0))) nxS) (seqS (ifS (truE (binE (eqS false) (nameE [2] 1) (cst (.int 2)))) (retS (ifE (truE (binE (eqS false) (binE (gInt (fun _ j => decide (0 < j)) fun i j => i % j) (callE gInt1 (consA (nameE [2] 0) nilA)) (cst (.int 8))) (cst (.int 1)))) (cst (.int 1)) (unE gNeg (cst (.int 1))))) nxS) (retS (ifE (truE (binE (inS false) (binE (gInt (fun _ j => decide (0 < j)) fun i j => i % j) (callE gInt1 (consA (nameE [2] 0) nilA)) (nameE [2] 1)) (lcE [2] (rng2I (consA (cst (.int 1)) (consA (binE addS (binE (gInt (fun _ j => decide (0 < j) && decide (j.natAbs.log2 < 9000)) fun i j => i / j) (nameE [2] 1) (cst (.int 2))) (cst (.int 1))) nilA))) (nameG 2) yesB e1_l_at_prime))) (cst (.int 1)) (unE gNeg (cst (.int 1)))))))
def g_l_at_prime : List PyData → Option S := bodyG 3 2 d_l_at_prime
def t1_l_values : BE := (truE (binE (eqS false) (binE (gInt (fun _ j => decide (0 < j)) fun i j => i % j) (callE gInt1 (consA (nameE [4] 2) nilA)) (nameE [4] 4)) (cst (.int 0))))
def e2_l_values : EE := (nameE [4] 4)
def w3_l_values : SE := (seqS (asgS 3 (binE gIx (lcE [4] (rng2I (consA (cst (.int 2)) (consA (binE addS (nameE [4] 2) (cst (.int 1))) nilA))) (nameG 4) t1_l_values e2_l_values) (cst (.int 0)))) (exprS (appendE 1 (consA (ifE (truE (binE (eqS false) (nameE [4] 3) (nameE [4] 2))) (callF g_l_at_prime (consA (nameE [4] 0) (consA (nameE [4] 2) nilA))) (binE mulS (binE gIx (nameE [4] 1) (nameE [4] 3)) (binE gIx (nameE [4] 1) (binE (gInt (fun _ j => decide (0 < j) && decide (j.natAbs.log2 < 9000)) fun i j => i / j) (nameE [4] 2) (nameE [4] 3))))) nilA))))
def d_l_values : SE := (seqS (ifS (truE (binE (eqS false) (nameE [4] 0) (cst (.int 1)))) (retS (lstE (consA (cst (.int 1)) nilA))) nxS) (seqS (asgS 1 (lstE (consA (cst (.int 0)) (consA (cst (.int 1)) nilA)))) (seqS (forS (rng2I (consA (cst (.int 2)) (consA (callE gAbs (consA (nameE [4] 0) nilA)) nilA))) (nameG 2) w3_l_values) (retS (nameE [4] 1)))))
def g_l_values : List PyData → Option S := bodyG 5 1 d_l_values
def t1_is_free : BE := (truE (binE (gIntB fun i j => decide (i ≤ j)) (binE mulS (nameE [] 1) (nameE [] 1)) (nameE [] 0)))
def w2_is_free : SE := (seqS (ifS (truE (binE (eqS false) (binE (gInt (fun _ j => decide (0 < j)) fun i j => i % j) (nameE [] 0) (binE mulS (nameE [] 1) (nameE [] 1))) (cst (.int 0)))) (retS (cst (.bool false))) nxS) (augS 1 (gInt0 fun i j => i + j) (cst (.int 1))))
def d_is_free : SE := (seqS (par2S 0 1 (consA (callE gAbs (consA (nameE [] 0) nilA)) (consA (cst (.int 2)) nilA))) (seqS (whileS t1_is_free w2_is_free) (retS (cst (.bool true)))))
def g_is_free : List PyData → Option S := bodyG 2 1 d_is_free
def d_is_integer : SE := (retS (andE (isiE isInt (nameE [] 0)) (unE gNot (isiE isBool (nameE [] 0)))))
def g_is_integer : List PyData → Option S := bodyG 1 1 d_is_integer
def d_is_between : SE := (retS (andE (callF g_is_integer (consA (nameE [] 0) nilA)) (chainE (gIntB fun i j => decide (i ≤ j)) (gIntB fun i j => decide (i ≤ j)) (nameE [] 1) (nameE [] 0) (nameE [] 2))))
def g_is_between : List PyData → Option S := bodyG 3 3 d_is_between
def d_is_sign : SE := (seqS (ifS (orB (notB (truE (callF g_is_between (consA (nameE [] 0) (consA (unE gNeg (cst (.int 400))) (consA (cst (.int 400)) nilA)))))) (truE (binE (eqS false) (nameE [] 0) (cst (.int 0))))) (retS (cst (.bool false))) nxS) (seqS (ifS (truE (binE (eqS false) (binE (gInt (fun _ j => decide (0 < j)) fun i j => i % j) (nameE [] 0) (cst (.int 4))) (cst (.int 1)))) (retS (callF g_is_free (consA (nameE [] 0) nilA))) nxS) (retS (andE (binE (eqS false) (binE (gInt (fun _ j => decide (0 < j)) fun i j => i % j) (nameE [] 0) (cst (.int 4))) (cst (.int 0))) (andE (binE (inS false) (binE (gInt (fun _ j => decide (0 < j)) fun i j => i % j) (binE (gInt (fun _ j => decide (0 < j) && decide (j.natAbs.log2 < 9000)) fun i j => i / j) (nameE [] 0) (cst (.int 4))) (cst (.int 4))) (tupE (consA (cst (.int 2)) (consA (cst (.int 3)) nilA)))) (callF g_is_free (consA (binE (gInt (fun _ j => decide (0 < j) && decide (j.natAbs.log2 < 9000)) fun i j => i / j) (nameE [] 0) (cst (.int 4))) nilA)))))))
def g_is_sign : List PyData → Option S := bodyG 1 1 d_is_sign
def d_need_sign : SE := (ifS (notB (truE (callF g_is_sign (consA (nameE [] 0) nilA)))) neverS nxS)
def g_need_sign : List PyData → Option S := bodyG 1 1 d_need_sign
def d_normal : SE := (seqS (asgS 2 (callE gGcd (consA (nameE [] 0) (consA (nameE [] 1) nilA)))) (seqS (ifS (truE (binE (gIntB fun i j => decide (i < j)) (nameE [] 1) (cst (.int 0)))) (asgS 2 (unE gNeg (nameE [] 2))) nxS) (retS (tupE (consA (binE (gInt (fun _ j => decide (0 < j) && decide (j.natAbs.log2 < 9000)) fun i j => i / j) (nameE [] 0) (nameE [] 2)) (consA (binE (gInt (fun _ j => decide (0 < j) && decide (j.natAbs.log2 < 9000)) fun i j => i / j) (nameE [] 1) (nameE [] 2)) nilA))))))
def g_normal : List PyData → Option S := bodyG 3 2 d_normal
def d_number_sum : SE := (retS (callF g_normal (consA (binE addS (binE mulS (binE gIx (nameE [] 0) (cst (.int 0))) (binE gIx (nameE [] 1) (cst (.int 1)))) (binE mulS (binE gIx (nameE [] 1) (cst (.int 0))) (binE gIx (nameE [] 0) (cst (.int 1))))) (consA (binE mulS (binE gIx (nameE [] 0) (cst (.int 1))) (binE gIx (nameE [] 1) (cst (.int 1)))) nilA))))
def g_number_sum : List PyData → Option S := bodyG 2 2 d_number_sum
def w1_first_numbers : SE := (asgS 3 (callF g_number_sum (consA (nameE [] 3) (consA (tupE (consA (binE mulS (callE gComb (consA (binE addS (nameE [] 2) (cst (.int 1))) (consA (nameE [] 4) nilA))) (binE gIx (nameE [] 5) (cst (.int 0)))) (consA (binE gIx (nameE [] 5) (cst (.int 1))) nilA))) nilA))))
def w2_first_numbers : SE := (seqS (asgS 3 (tupE (consA (cst (.int 0)) (consA (cst (.int 1)) nilA)))) (seqS (liveS true 1 (tupG (consG 4 (consG 5 nilG))) w1_first_numbers) (exprS (appendE 1 (consA (callF g_normal (consA (unE gNeg (binE gIx (nameE [] 3) (cst (.int 0)))) (consA (binE mulS (binE gIx (nameE [] 3) (cst (.int 1))) (binE addS (nameE [] 2) (cst (.int 1)))) nilA))) nilA)))))
def d_first_numbers : SE := (seqS (asgS 1 (lstE (consA (tupE (consA (cst (.int 1)) (consA (cst (.int 1)) nilA))) nilA))) (seqS (forS (rng2I (consA (cst (.int 1)) (consA (binE addS (nameE [] 0) (cst (.int 1))) nilA))) (nameG 2) w2_first_numbers) (retS (nameE [] 1))))
def g_first_numbers : List PyData → Option S := bodyG 6 1 d_first_numbers
def t1_odd_value : BE := (truE (binE (eqS false) (binE (gInt (fun _ j => decide (0 < j)) fun i j => i % j) (nameE [] 0) (cst (.int 2))) (cst (.int 0))))
def w2_odd_value : SE := (seqS (asgS 0 (binE (gInt (fun _ j => decide (0 < j) && decide (j.natAbs.log2 < 9000)) fun i j => i / j) (nameE [] 0) (cst (.int 2)))) (ifS (truE (binE (inS false) (binE (gInt (fun _ j => decide (0 < j)) fun i j => i % j) (nameE [] 1) (cst (.int 8))) (tupE (consA (cst (.int 3)) (consA (cst (.int 5)) nilA))))) (asgS 2 (unE gNeg (nameE [] 2))) nxS))
def t3_odd_value : BE := (truE (binE (eqS true) (nameE [] 0) (cst (.int 0))))
def w4_odd_value : SE := (seqS (whileS t1_odd_value w2_odd_value) (seqS (ifS (andB (truE (binE (eqS false) (binE (gInt (fun _ j => decide (0 < j)) fun i j => i % j) (nameE [] 0) (cst (.int 4))) (cst (.int 3)))) (truE (binE (eqS false) (binE (gInt (fun _ j => decide (0 < j)) fun i j => i % j) (nameE [] 1) (cst (.int 4))) (cst (.int 3))))) (asgS 2 (unE gNeg (nameE [] 2))) nxS) (par2S 0 1 (consA (binE (gInt (fun _ j => decide (0 < j)) fun i j => i % j) (nameE [] 1) (nameE [] 0)) (consA (nameE [] 0) nilA)))))
def d_odd_value : SE := (seqS (par2S 0 2 (consA (binE (gInt (fun _ j => decide (0 < j)) fun i j => i % j) (nameE [] 0) (nameE [] 1)) (consA (cst (.int 1)) nilA))) (seqS (whileS t3_odd_value w4_odd_value) (retS (ifE (truE (binE (eqS false) (nameE [] 1) (cst (.int 1)))) (nameE [] 2) (cst (.int 0))))))
def g_odd_value : List PyData → Option S := bodyG 3 2 d_odd_value
def t1_value_of : BE := (truE (binE (eqS false) (binE (gInt (fun _ j => decide (0 < j)) fun i j => i % j) (nameE [] 1) (cst (.int 2))) (cst (.int 0))))
def w2_value_of : SE := (seqS (asgS 1 (binE (gInt (fun _ j => decide (0 < j) && decide (j.natAbs.log2 < 9000)) fun i j => i / j) (nameE [] 1) (cst (.int 2)))) (seqS (ifS (truE (binE (eqS false) (binE (gInt (fun _ j => decide (0 < j)) fun i j => i % j) (nameE [] 0) (cst (.int 2))) (cst (.int 0)))) (retS (cst (.int 0))) nxS) (ifS (truE (binE (eqS false) (binE (gInt (fun _ j => decide (0 < j)) fun i j => i % j) (nameE [] 0) (cst (.int 8))) (cst (.int 5)))) (asgS 2 (unE gNeg (nameE [] 2))) nxS)))
def d_value_of : SE := (seqS (ifS (truE (binE (eqS false) (nameE [] 1) (cst (.int 0)))) (retS (ifE (truE (binE (eqS false) (nameE [] 0) (cst (.int 1)))) (cst (.int 1)) (cst (.int 0)))) nxS) (seqS (asgS 2 (ifE (andB (truE (binE (gIntB fun i j => decide (i < j)) (nameE [] 1) (cst (.int 0)))) (truE (binE (gIntB fun i j => decide (i < j)) (nameE [] 0) (cst (.int 0))))) (unE gNeg (cst (.int 1))) (cst (.int 1)))) (seqS (asgS 1 (callE gAbs (consA (nameE [] 1) nilA))) (seqS (whileS t1_value_of w2_value_of) (retS (binE mulS (nameE [] 2) (callF g_odd_value (consA (nameE [] 0) (consA (nameE [] 1) nilA)))))))))
def g_value_of : List PyData → Option S := bodyG 3 2 d_value_of
def d_number_product : SE := (retS (callF g_normal (consA (binE mulS (binE gIx (nameE [] 0) (cst (.int 0))) (binE gIx (nameE [] 1) (cst (.int 0)))) (consA (binE mulS (binE gIx (nameE [] 0) (cst (.int 1))) (binE gIx (nameE [] 1) (cst (.int 1)))) nilA))))
def g_number_product : List PyData → Option S := bodyG 2 2 d_number_product
def t1_power_of : BE := (truE (binE (gIntB fun i j => decide (j < i)) (nameE [] 1) (cst (.int 0))))
def w2_power_of : SE := (seqS (ifS (truE (binE (eqS false) (binE (gInt (fun _ j => decide (0 < j)) fun i j => i % j) (nameE [] 1) (cst (.int 2))) (cst (.int 1)))) (asgS 2 (binE mulS (nameE [] 2) (nameE [] 3))) nxS) (seqS (asgS 3 (binE mulS (nameE [] 3) (nameE [] 3))) (asgS 1 (binE (gInt (fun _ j => decide (0 < j) && decide (j.natAbs.log2 < 9000)) fun i j => i / j) (nameE [] 1) (cst (.int 2))))))
def d_power_of : SE := (seqS (par2S 2 3 (consA (cst (.int 1)) (consA (nameE [] 0) nilA))) (seqS (whileS t1_power_of w2_power_of) (retS (nameE [] 2))))
def g_power_of : List PyData → Option S := bodyG 4 2 d_power_of
def e1_signed_number : EE := (tupE (consA (nameE [9, 10] 9) (consA (callF g_value_of (consA (nameE [9, 10] 1) (consA (nameE [9, 10] 9) nilA))) nilA)))
def t2_signed_number : BE := (truE (binE (eqS true) (nameE [9, 10] 10) (cst (.int 0))))
def e3_signed_number : EE := (binE mulS (nameE [9, 10] 10) (callF g_power_of (consA (nameE [9, 10] 9) (consA (binE (gInt0 fun i j => i - j) (nameE [9, 10] 0) (nameE [9, 10] 5)) nilA))))
def w4_signed_number : SE := (ifS (truE (binE (eqS true) (binE gIx (nameE [9, 10] 6) (cst (.int 0))) (cst (.int 0)))) (seqS (asgS 7 (callE gSum (consA (lcE [9, 10] (seqI (nameE [9, 10] 4)) (tupG (consG 9 (consG 10 nilG))) t2_signed_number e3_signed_number) nilA))) (seqS (asgS 8 (callF g_number_product (consA (nameE [9, 10] 6) (consA (tupE (consA (binE mulS (binE mulS (callE gComb (consA (nameE [9, 10] 0) (consA (nameE [9, 10] 5) nilA))) (nameE [9, 10] 7)) (callF g_power_of (consA (nameE [9, 10] 2) (consA (nameE [9, 10] 5) nilA)))) (consA (nameE [9, 10] 2) nilA))) nilA)))) (asgS 3 (callF g_number_sum (consA (nameE [9, 10] 3) (consA (nameE [9, 10] 8) nilA)))))) nxS)
def d_signed_number : SE := (seqS (par2S 2 3 (consA (callE gAbs (consA (nameE [9, 10] 1) nilA)) (consA (tupE (consA (cst (.int 0)) (consA (cst (.int 1)) nilA))) nilA))) (seqS (asgS 4 (lcE [9] (rng2I (consA (cst (.int 1)) (consA (binE addS (nameE [9, 10] 2) (cst (.int 1))) nilA))) (nameG 9) yesB e1_signed_number)) (seqS (forS (enumI (consA (callF g_first_numbers (consA (nameE [9, 10] 0) nilA)) nilA)) (tupG (consG 5 (consG 6 nilG))) w4_signed_number) (retS (nameE [9, 10] 3)))))
def g_signed_number : List PyData → Option S := bodyG 11 2 d_signed_number
def d_bernoulli : SE := (seqS (ifS (notB (truE (callF g_is_between (consA (nameE [] 0) (consA (cst (.int 0)) (consA (cst (.int 24)) nilA)))))) neverS nxS) (seqS (exprS (callF g_need_sign (consA (nameE [] 1) nilA))) (retS (callF g_signed_number (consA (nameE [] 0) (consA (nameE [] 1) nilA))))))
def g_bernoulli : List PyData → Option S := bodyG 2 2 d_bernoulli
def t1_l_is_number : BE := (orB (notB (truE (isiE isInt (nameE [3] 3)))) (truE (isiE isBool (nameE [3] 3))))
def e2_l_is_number : EE := (nameE [3] 3)
def t3_l_is_number : BE := (truE (binE (gIntB fun i j => decide (j < i)) (nameE [3] 2) (cst (.int 0))))
def w4_l_is_number : SE := (par2S 1 2 (consA (nameE [3] 2) (consA (binE (gInt (fun _ j => decide (0 < j)) fun i j => i % j) (callE gInt1 (consA (nameE [3] 1) nilA)) (nameE [3] 2)) nilA)))
def d_l_is_number : SE := (seqS (ifS (orB (notB (truE (isiE isTup (nameE [3] 0)))) (orB (truE (binE (eqS true) (callE gLen (consA (nameE [3] 0) nilA)) (cst (.int 2)))) (truE (binE (eqS true) (lcE [3] (anyI (nameE [3] 0)) (nameG 3) t1_l_is_number e2_l_is_number) (lstE nilA))))) (retS (cst (.bool false))) nxS) (seqS (par2S 1 2 (consA (callE gAbs (consA (binE gIx (nameE [3] 0) (cst (.int 0))) nilA)) (consA (binE gIx (nameE [3] 0) (cst (.int 1))) nilA))) (seqS (whileS t3_l_is_number w4_l_is_number) (retS (andE (binE (gIntB fun i j => decide (j ≤ i)) (binE gIx (nameE [3] 0) (cst (.int 1))) (cst (.int 1))) (binE (eqS false) (nameE [3] 1) (cst (.int 1))))))))
def g_l_is_number : List PyData → Option S := bodyG 4 1 d_l_is_number
def w1_l_is_kummer : SE := (ifS (truE (binE (eqS false) (binE (gInt (fun _ j => decide (0 < j)) fun i j => i % j) (callE gInt1 (consA (binE gIx (nameE [] 5) (nameE [] 6)) nilA)) (nameE [] 0)) (cst (.int 0)))) (seqS (ifS (truE (binE (eqS true) (binE (gInt (fun _ j => decide (0 < j)) fun i j => i % j) (callE gInt1 (consA (binE gIx (nameE [] 4) (nameE [] 6)) nilA)) (nameE [] 0)) (cst (.int 0)))) (retS (cst (.bool false))) nxS) (pairIxS 4 5 (tupE (consA (binE (gInt (fun _ j => decide (0 < j) && decide (j.natAbs.log2 < 9000)) fun i j => i / j) (binE gIx (nameE [] 4) (nameE [] 6)) (nameE [] 0)) (consA (binE (gInt (fun _ j => decide (0 < j) && decide (j.natAbs.log2 < 9000)) fun i j => i / j) (binE gIx (nameE [] 5) (nameE [] 6)) (nameE [] 0)) nilA))) (nameE [] 6) (nameE [] 6))) nxS)
def w2_l_is_kummer : SE := (forS (rng1I (consA (cst (.int 3)) nilA)) (nameG 7) w1_l_is_kummer)
def d_l_is_kummer : SE := (seqS (par2S 2 3 (consA (callF g_bernoulli (consA (nameE [] 1) (consA (cst (.int 1)) nilA))) (consA (callFk g_bernoulli 2 [1, 0] (consA (cst (.int 1)) (consA (binE (gInt0 fun i j => i - j) (binE addS (nameE [] 1) (nameE [] 0)) (cst (.int 1))) nilA))) nilA))) (seqS (ifS (orB (notB (truE (callF g_l_is_number (consA (nameE [] 2) nilA)))) (notB (truE (callF g_l_is_number (consA (nameE [] 3) nilA))))) (retS (cst (.bool false))) nxS) (seqS (par2S 4 5 (consA (lstE (consA (binE gIx (nameE [] 2) (cst (.int 0))) (consA (binE gIx (nameE [] 3) (cst (.int 0))) nilA))) (consA (lstE (consA (binE mulS (binE gIx (nameE [] 2) (cst (.int 1))) (nameE [] 1)) (consA (binE mulS (binE gIx (nameE [] 3) (cst (.int 1))) (binE (gInt0 fun i j => i - j) (binE addS (nameE [] 1) (nameE [] 0)) (cst (.int 1)))) nilA))) nilA))) (seqS (forS (rng1I (consA (cst (.int 2)) nilA)) (nameG 6) w2_l_is_kummer) (retS (binE (eqS false) (binE (gInt (fun _ j => decide (0 < j)) fun i j => i % j) (callE gInt1 (consA (binE (gInt0 fun i j => i - j) (binE mulS (binE gIx (nameE [] 4) (cst (.int 0))) (binE gIx (nameE [] 5) (cst (.int 1)))) (binE mulS (binE gIx (nameE [] 4) (cst (.int 1))) (binE gIx (nameE [] 5) (cst (.int 0))))) nilA)) (nameE [] 0)) (cst (.int 0))))))))
def g_l_is_kummer : List PyData → Option S := bodyG 8 2 d_l_is_kummer
def d_l_is_equal : SE := (retS (binE (eqS false) (binE gIx (nameE [] 0) (cst (.int 0))) (binE mulS (nameE [] 1) (binE gIx (nameE [] 0) (cst (.int 1))))))
def g_l_is_equal : List PyData → Option S := bodyG 2 2 d_l_is_equal
def d_sign_at : SE := (seqS (exprS (callF g_need_sign (consA (nameE [] 0) nilA))) (seqS (ifS (notB (truE (callF g_is_integer (consA (nameE [] 1) nilA)))) neverS nxS) (retS (callF g_value_of (consA (nameE [] 0) (consA (nameE [] 1) nilA))))))
def g_sign_at : List PyData → Option S := bodyG 2 2 d_sign_at
def w1_l_power : SE := (asgS 2 (binE mulS (nameE [] 2) (nameE [] 0)))
def d_l_power : SE := (seqS (asgS 2 (cst (.int 1))) (seqS (forS (rng1I (consA (nameE [] 1) nilA)) (nameG 3) w1_l_power) (retS (nameE [] 2))))
def g_l_power : List PyData → Option S := bodyG 4 2 d_l_power
def w1_l_end : SE := (seqS (asgG (tupG (consG 6 (consG 7 nilG))) (binE gIx (nameE [] 0) (nameE [] 5))) (seqS (asgS 8 (binE mulS (binE mulS (nameE [] 4) (nameE [] 6)) (callF g_l_power (consA (nameE [] 2) (consA (binE (gInt0 fun i j => i - j) (nameE [] 1) (nameE [] 5)) nilA))))) (seqS (asgS 3 (tupE (consA (binE addS (binE mulS (binE gIx (nameE [] 3) (cst (.int 0))) (nameE [] 7)) (binE mulS (nameE [] 8) (binE gIx (nameE [] 3) (cst (.int 1))))) (consA (binE mulS (binE gIx (nameE [] 3) (cst (.int 1))) (nameE [] 7)) nilA)))) (asgS 4 (binE (gInt (fun _ j => decide (0 < j) && decide (j.natAbs.log2 < 9000)) fun i j => i / j) (binE mulS (nameE [] 4) (binE (gInt0 fun i j => i - j) (nameE [] 1) (nameE [] 5))) (binE addS (nameE [] 5) (cst (.int 1))))))))
def d_l_end : SE := (seqS (asgG (tupG (consG 3 (consG 4 nilG))) (tupE (consA (tupE (consA (cst (.int 0)) (consA (cst (.int 1)) nilA))) (consA (cst (.int 1)) nilA)))) (seqS (forS (rng1I (consA (nameE [] 1) nilA)) (nameG 5) w1_l_end) (retS (nameE [] 3))))
def g_l_end : List PyData → Option S := bodyG 9 3 d_l_end
def e1_law : EE := (callF g_sign_at (consA (nameE [14, 15, 11] 2) (consA (nameE [14, 15, 11] 11) nilA)))
def e2_law : EE := (callF g_bernoulli (consA (nameE [14, 15, 11] 14) (consA (nameE [14, 15, 11] 2) nilA)))
def t3_law : BE := (notB (truE (callF g_l_is_number (consA (nameE [14, 15, 11] 15) nilA))))
def e4_law : EE := (nameE [14, 15, 11] 15)
def w5_law : SE := (asgS 8 (binE addS (nameE [14, 15, 11] 8) (binE mulS (binE gIx (nameE [14, 15, 11] 6) (binE (gInt (fun _ j => decide (0 < j)) fun i j => i % j) (callE gInt1 (consA (nameE [14, 15, 11] 11) nilA)) (nameE [14, 15, 11] 5))) (callF g_l_power (consA (nameE [14, 15, 11] 11) (consA (binE (gInt0 fun i j => i - j) (nameE [14, 15, 11] 3) (cst (.int 1))) nilA))))))
def w6_law : SE := (seqS (forS (rng2I (consA (binE addS (binE mulS (nameE [14, 15, 11] 10) (nameE [14, 15, 11] 5)) (cst (.int 1))) (consA (binE addS (binE addS (binE mulS (nameE [14, 15, 11] 10) (nameE [14, 15, 11] 5)) (nameE [14, 15, 11] 5)) (cst (.int 1))) nilA))) (nameG 11) w5_law) (ifS (notB (truE (callF g_l_is_equal (consA (callF g_l_end (consA (nameE [14, 15, 11] 7) (consA (nameE [14, 15, 11] 3) (consA (binE addS (binE mulS (nameE [14, 15, 11] 10) (nameE [14, 15, 11] 5)) (nameE [14, 15, 11] 5)) nilA)))) (consA (binE mulS (nameE [14, 15, 11] 3) (nameE [14, 15, 11] 8)) nilA))))) (retS (cst (.bool false))) nxS))
def d_law : SE := (seqS (asgS 1 (callN g_l_deck 0)) (seqS (asgG (tupG (consG 2 (consG 3 (consG 4 nilG)))) (tupE (consA (callK g_l_sign (consA (nameE [14, 15, 11] 1) nilA)) (consA (binE addS (cst (.int 1)) (callK g_l_draw (consA (nameE [14, 15, 11] 1) (consA (cst (.int 24)) nilA)))) (consA (binE addS (cst (.int 1)) (callK g_l_draw (consA (nameE [14, 15, 11] 1) (consA (cst (.int 5)) nilA)))) nilA))))) (seqS (par2S 5 6 (consA (callE gAbs (consA (nameE [14, 15, 11] 2) nilA)) (consA (callF g_l_values (consA (nameE [14, 15, 11] 2) nilA)) nilA))) (seqS (ifS (truE (binE (eqS true) (callE gRepr (consA (lcE [11] (rng1I (consA (nameE [14, 15, 11] 5) nilA)) (nameG 11) yesB e1_law) nilA)) (callE gRepr (consA (nameE [14, 15, 11] 6) nilA)))) (retS (cst (.bool false))) nxS) (seqS (asgS 7 (lcE [14] (rng1I (consA (nameE [14, 15, 11] 3) nilA)) (nameG 14) yesB e2_law)) (seqS (ifS (truE (binE (eqS true) (lcE [15] (seqI (nameE [14, 15, 11] 7)) (nameG 15) t3_law e4_law) (lstE nilA))) (retS (cst (.bool false))) nxS) (seqS (asgS 4 (callE gMax2 (consA (cst (.int 1)) (consA (callE gMin2 (consA (nameE [14, 15, 11] 4) (consA (binE (gInt (fun _ j => decide (0 < j) && decide (j.natAbs.log2 < 9000)) fun i j => i / j) (cst (.int 240)) (nameE [14, 15, 11] 5)) nilA))) nilA)))) (seqS (par2S 8 9 (consA (cst (.int 0)) (consA (callK g_l_draw (consA (nameE [14, 15, 11] 1) (consA (nameE [14, 15, 11] 3) nilA))) nilA))) (seqS (forS (rng1I (consA (nameE [14, 15, 11] 4) nilA)) (nameG 10) w6_law) (seqS (ifS (truE (binE (eqS true) (callE gRepr (consA (callFk g_bernoulli 2 [1, 0] (consA (nameE [14, 15, 11] 2) (consA (nameE [14, 15, 11] 9) nilA))) nilA)) (callE gRepr (consA (binE gIx (nameE [14, 15, 11] 7) (nameE [14, 15, 11] 9)) nilA)))) (retS (cst (.bool false))) nxS) (seqS (asgS 12 (callK g_l_pick (consA (nameE [14, 15, 11] 1) (consA (lstE (consA (cst (.int 5)) (consA (cst (.int 7)) (consA (cst (.int 11)) (consA (cst (.int 13)) (consA (cst (.int 17)) (consA (cst (.int 19)) (consA (cst (.int 5)) (consA (cst (.int 7)) nilA))))))))) nilA)))) (seqS (asgS 13 (binE addS (cst (.int 2)) (binE mulS (cst (.int 2)) (callK g_l_draw (consA (nameE [14, 15, 11] 1) (consA (binE (gInt (fun _ j => decide (0 < j) && decide (j.natAbs.log2 < 9000)) fun i j => i / j) (binE (gInt0 fun i j => i - j) (cst (.int 26)) (nameE [14, 15, 11] 12)) (cst (.int 2))) nilA)))))) (retS (orE (binE (eqS false) (binE (gInt (fun _ j => decide (0 < j)) fun i j => i % j) (callE gInt1 (consA (nameE [14, 15, 11] 13) nilA)) (binE (gInt0 fun i j => i - j) (nameE [14, 15, 11] 12) (cst (.int 1)))) (cst (.int 0))) (callF g_l_is_kummer (consA (nameE [14, 15, 11] 12) (consA (nameE [14, 15, 11] 13) nilA)))))))))))))))))
def g_law : List Int → Option S := bodyN 16 d_law
structure Ad where
  a_l_deck : Addr
  f_l_deck : FuncData
  a_l_draw : Addr
  f_l_draw : FuncData
  a_l_pick : Addr
  f_l_pick : FuncData
  a_l_is_sign : Addr
  f_l_is_sign : FuncData
  a_l_sign : Addr
  f_l_sign : FuncData
  a_l_at_prime : Addr
  f_l_at_prime : FuncData
  a_l_values : Addr
  f_l_values : FuncData
  a_is_free : Addr
  f_is_free : FuncData
  a_is_integer : Addr
  f_is_integer : FuncData
  a_is_between : Addr
  f_is_between : FuncData
  a_is_sign : Addr
  f_is_sign : FuncData
  a_need_sign : Addr
  f_need_sign : FuncData
  a_normal : Addr
  f_normal : FuncData
  a_number_sum : Addr
  f_number_sum : FuncData
  a_first_numbers : Addr
  f_first_numbers : FuncData
  a_odd_value : Addr
  f_odd_value : FuncData
  a_value_of : Addr
  f_value_of : FuncData
  a_number_product : Addr
  f_number_product : FuncData
  a_power_of : Addr
  f_power_of : FuncData
  a_signed_number : Addr
  f_signed_number : FuncData
  a_bernoulli : Addr
  f_bernoulli : FuncData
  a_l_is_number : Addr
  f_l_is_number : FuncData
  a_l_is_kummer : Addr
  f_l_is_kummer : FuncData
  a_l_is_equal : Addr
  f_l_is_equal : FuncData
  a_sign_at : Addr
  f_sign_at : FuncData
  a_l_power : Addr
  f_l_power : FuncData
  a_l_end : Addr
  f_l_end : FuncData
  a_law : Addr
  f_law : FuncData
structure Txt (K : PySem.W.Frag) (mg : Str → Option Value) (A : Ad) : Prop where
  F_l_deck : Fun K "_law_deck" "_law_deck" s_l_deck A.a_l_deck A.f_l_deck
  m_l_deck : mg "_law_deck" = some (.ref A.a_l_deck)
  b_l_deck : Binds K A.f_l_deck ["_law_script"] []
  F_l_draw : Fun K "_law_draw" "_law_draw" s_l_draw A.a_l_draw A.f_l_draw
  m_l_draw : mg "_law_draw" = some (.ref A.a_l_draw)
  b_l_draw : Binds K A.f_l_draw ["_law_deck_here", "_law_many"] []
  F_l_pick : Fun K "_law_pick" "_law_pick" s_l_pick A.a_l_pick A.f_l_pick
  m_l_pick : mg "_law_pick" = some (.ref A.a_l_pick)
  b_l_pick : Binds K A.f_l_pick ["_law_deck_here", "_law_some"] []
  F_l_is_sign : Fun K "_law_is_sign" "_law_is_sign" s_l_is_sign A.a_l_is_sign A.f_l_is_sign
  m_l_is_sign : mg "_law_is_sign" = some (.ref A.a_l_is_sign)
  b_l_is_sign : Binds K A.f_l_is_sign ["_law_number"] []
  F_l_sign : Fun K "_law_sign" "_law_sign" s_l_sign A.a_l_sign A.f_l_sign
  m_l_sign : mg "_law_sign" = some (.ref A.a_l_sign)
  b_l_sign : Binds K A.f_l_sign ["_law_deck_here"] []
  F_l_at_prime : Fun K "_law_at_prime" "_law_at_prime" s_l_at_prime A.a_l_at_prime A.f_l_at_prime
  m_l_at_prime : mg "_law_at_prime" = some (.ref A.a_l_at_prime)
  b_l_at_prime : Binds K A.f_l_at_prime ["_law_sign_here", "_law_p"] []
  F_l_values : Fun K "_law_values" "_law_values" s_l_values A.a_l_values A.f_l_values
  m_l_values : mg "_law_values" = some (.ref A.a_l_values)
  b_l_values : Binds K A.f_l_values ["_law_sign_here"] []
  F_is_free : Fun K "is_free" "is_free" s_is_free A.a_is_free A.f_is_free
  m_is_free : mg "is_free" = some (.ref A.a_is_free)
  b_is_free : Binds K A.f_is_free ["number"] []
  F_is_integer : Fun K "is_integer" "is_integer" s_is_integer A.a_is_integer A.f_is_integer
  m_is_integer : mg "is_integer" = some (.ref A.a_is_integer)
  b_is_integer : Binds K A.f_is_integer ["thing"] []
  F_is_between : Fun K "is_between" "is_between" s_is_between A.a_is_between A.f_is_between
  m_is_between : mg "is_between" = some (.ref A.a_is_between)
  b_is_between : Binds K A.f_is_between ["thing", "least", "most"] []
  F_is_sign : Fun K "is_sign" "is_sign" s_is_sign A.a_is_sign A.f_is_sign
  m_is_sign : mg "is_sign" = some (.ref A.a_is_sign)
  b_is_sign : Binds K A.f_is_sign ["thing"] []
  F_need_sign : Fun K "need_sign" "need_sign" s_need_sign A.a_need_sign A.f_need_sign
  m_need_sign : mg "need_sign" = some (.ref A.a_need_sign)
  b_need_sign : Binds K A.f_need_sign ["sign"] []
  F_normal : Fun K "normal" "normal" s_normal A.a_normal A.f_normal
  m_normal : mg "normal" = some (.ref A.a_normal)
  b_normal : Binds K A.f_normal ["top", "bottom"] []
  F_number_sum : Fun K "number_sum" "number_sum" s_number_sum A.a_number_sum A.f_number_sum
  m_number_sum : mg "number_sum" = some (.ref A.a_number_sum)
  b_number_sum : Binds K A.f_number_sum ["one", "other"] []
  F_first_numbers : Fun K "first_numbers" "first_numbers" s_first_numbers A.a_first_numbers A.f_first_numbers
  m_first_numbers : mg "first_numbers" = some (.ref A.a_first_numbers)
  b_first_numbers : Binds K A.f_first_numbers ["k"] []
  F_odd_value : Fun K "odd_value" "odd_value" s_odd_value A.a_odd_value A.f_odd_value
  m_odd_value : mg "odd_value" = some (.ref A.a_odd_value)
  b_odd_value : Binds K A.f_odd_value ["top", "bottom"] []
  F_value_of : Fun K "value_of" "value_of" s_value_of A.a_value_of A.f_value_of
  m_value_of : mg "value_of" = some (.ref A.a_value_of)
  b_value_of : Binds K A.f_value_of ["sign", "n"] []
  F_number_product : Fun K "number_product" "number_product" s_number_product A.a_number_product A.f_number_product
  m_number_product : mg "number_product" = some (.ref A.a_number_product)
  b_number_product : Binds K A.f_number_product ["one", "other"] []
  F_power_of : Fun K "power_of" "power_of" s_power_of A.a_power_of A.f_power_of
  m_power_of : mg "power_of" = some (.ref A.a_power_of)
  b_power_of : Binds K A.f_power_of ["base", "many"] []
  F_signed_number : Fun K "signed_number" "signed_number" s_signed_number A.a_signed_number A.f_signed_number
  m_signed_number : mg "signed_number" = some (.ref A.a_signed_number)
  b_signed_number : Binds K A.f_signed_number ["k", "sign"] []
  F_bernoulli : Fun K "bernoulli" "bernoulli" s_bernoulli A.a_bernoulli A.f_bernoulli
  m_bernoulli : mg "bernoulli" = some (.ref A.a_bernoulli)
  b_bernoulli : Binds K A.f_bernoulli ["k", "sign"] []
  F_l_is_number : Fun K "_law_is_number" "_law_is_number" s_l_is_number A.a_l_is_number A.f_l_is_number
  m_l_is_number : mg "_law_is_number" = some (.ref A.a_l_is_number)
  b_l_is_number : Binds K A.f_l_is_number ["_law_thing"] []
  F_l_is_kummer : Fun K "_law_is_kummer" "_law_is_kummer" s_l_is_kummer A.a_l_is_kummer A.f_l_is_kummer
  m_l_is_kummer : mg "_law_is_kummer" = some (.ref A.a_l_is_kummer)
  b_l_is_kummer : Binds K A.f_l_is_kummer ["_law_p", "_law_k"] []
  F_l_is_equal : Fun K "_law_is_equal" "_law_is_equal" s_l_is_equal A.a_l_is_equal A.f_l_is_equal
  m_l_is_equal : mg "_law_is_equal" = some (.ref A.a_l_is_equal)
  b_l_is_equal : Binds K A.f_l_is_equal ["_law_number", "_law_whole"] []
  F_sign_at : Fun K "sign_at" "sign_at" s_sign_at A.a_sign_at A.f_sign_at
  m_sign_at : mg "sign_at" = some (.ref A.a_sign_at)
  b_sign_at : Binds K A.f_sign_at ["sign", "n"] []
  F_l_power : Fun K "_law_power" "_law_power" s_l_power A.a_l_power A.f_l_power
  m_l_power : mg "_law_power" = some (.ref A.a_l_power)
  b_l_power : Binds K A.f_l_power ["_law_x", "_law_k"] []
  F_l_end : Fun K "_law_end" "_law_end" s_l_end A.a_l_end A.f_l_end
  m_l_end : mg "_law_end" = some (.ref A.a_l_end)
  b_l_end : Binds K A.f_l_end ["_law_numbers", "_law_k", "_law_end_here"] []
  F_law : Fun K "law" "law" s_law A.a_law A.f_law
  m_law : mg "law" = some (.ref A.a_law)
  b_law : Binds K A.f_law ["_law_script"] []
  kw_bernoulli_sign_k : KwB K A.f_bernoulli ["k", "sign"] ["sign", "k"] [1, 0]
  z_abs : mg "abs" = none
  z_bool : mg "bool" = none
  z_enumerate : mg "enumerate" = none
  z_int : mg "int" = none
  z_isinstance : mg "isinstance" = none
  z_len : mg "len" = none
  z_list : mg "list" = none
  z_max : mg "max" = none
  z_min : mg "min" = none
  z_range : mg "range" = none
  z_repr : mg "repr" = none
  z_sum : mg "sum" = none
  z_tuple : mg "tuple" = none
  m_MOST_INDEX : ∃ t, mg "MOST_INDEX" = some (.int (24) t)
  m_MOST_SIGN : ∃ t, mg "MOST_SIGN" = some (.int (400) t)
  m_comb : mg "comb" = some (.builtin "math.comb")
  m_gcd : mg "gcd" = some (.builtin "math.gcd")
section
variable {P : Program} {w : World} {K : PySem.W.Frag} {mg : Str → Option Value} {base : Heap} {A : Ad}
theorem sc_l_deck : FnScope ["_law_script", "_law_mixed", "_law_cell"] ["_law_script"] (defScope s_l_deck) := ⟨rfl, rfl, rfl, by decide +kernel, rfl, by decide +kernel, by decide +kernel⟩
theorem ok_l_deck (T : Txt K mg A) : FnG P w K mg base 1 A.a_l_deck A.f_l_deck ["_law_script"] (spN K g_l_deck) := by
  refine okG T.F_l_deck sc_l_deck (fun vs H Q E h => h.1) fun cdv A' outer s H vs Q E C hr h => ?_
  obtain ⟨⟨H0, G0, M0, cs⟩, hcs, hq⟩ := bodyN_run (N := ["_law_script", "_law_mixed", "_law_cell"]) (cs := []) (f := d_l_deck) (by decide) h
  have hcs : cs = [] := hcs
  subst hcs
  exact ⟨_, (s_cons (s_asg (ps_set (i := 1) C.nd rfl (Or.inl rfl) c_int)) (s_cons (s_for PassesOwn.never C.calm (i_list (c_cutScr (n := 63) (pv 0))) (g_name (pg_name (i := 2) C.nd rfl (Or.inl rfl))) (s_one (s_asg (ps_set (i := 1) C.nd rfl (Or.inl rfl) (c_mod (c_callTy call_int1 ca_int rfl T.z_int boot_int (c_cons (c_add (c_add (c_mul (c_name (pv 1)) c_int) (c_mod (c_callTy call_int1 ca_int rfl T.z_int boot_int (c_cons (c_name (pv 2)) c_nil)) c_int)) c_int) c_nil)) c_int))))) (s_one (s_ret (c_deck (b := true) rfl (c_rev (c_callTy call_list_of ca_list rfl T.z_list boot_list (c_cons (c_cutScr (n := 63) (pv 0)) c_nil))) (c_name (pv 1)) c_int))))), hq⟩
theorem sc_l_draw : FnScope ["_law_deck_here", "_law_many", "_law_number", "_law_cell"] ["_law_deck_here", "_law_many"] (defScope s_l_draw) := ⟨rfl, rfl, rfl, by decide +kernel, rfl, by decide +kernel, by decide +kernel⟩
theorem ok_l_draw (T : Txt K mg A) : FnG P w K mg base 1 A.a_l_draw A.f_l_draw ["_law_deck_here", "_law_many"] (spK K 1 g_l_draw) := by
  refine okG T.F_l_draw sc_l_draw (fun vs H Q E h => h.1) fun cdv A' outer s H vs Q E C hr h => ?_
  obtain ⟨⟨H0, G0, M0, cs⟩, hcs, hM, hq⟩ := bodyK_run (N := ["_law_deck_here", "_law_many", "_law_number", "_law_cell"]) (cs := []) (f := d_l_draw) (by decide) h
  have hcs : cs = [] := hcs
  subst hcs
  exact ⟨_, (s_cons (s_draws C (pv 0) (c_add (c_draws C (fun _ _ => rfl) (pv 0)) c_int)) (s_cons (s_asg (ps_set (i := 2) C.nd rfl (Or.inl rfl) (c_add (c_mixed C (fun _ _ => rfl) (pv 0)) (c_mul c_int (c_draws C (fun _ _ => rfl) (pv 0)))))) (s_cons (s_if (b_cells (b := true) C rfl (fun _ _ => rfl) (pv 0)) (s_cons (s_asg (ps_set (i := 3) C.nd rfl (Or.inl rfl) (c_popCell (b := true) C rfl (fun _ _ => rfl) (pv 0)))) (s_cons (s_if (b_ge (c_name (pv 3)) (c_pow c_int c_int)) (s_cons (s_expr (c_pushCell (i := 0) (b := true) C rfl (fun _ _ => rfl) (pv 0) hM (c_cons (c_fdiv (c_name (pv 3)) (c_callB (call_max2 C.calm) ca_max2 rfl T.z_max boot_max (c_cons c_int (c_cons (c_name (pv 1)) c_nil)))) c_nil))) (s_one (s_ret (c_mod (c_callTy call_int1 ca_int rfl T.z_int boot_int (c_cons (c_name (pv 3)) c_nil)) (c_name (pv 1)))))) s_nil) (s_one (s_asg (ps_set (i := 2) C.nd rfl (Or.inl rfl) (c_add (c_name (pv 2)) (c_mod (c_callTy call_int1 ca_int rfl T.z_int boot_int (c_cons (c_name (pv 3)) c_nil)) c_int))))))) s_nil) (s_cons (s_asg (ps_set (i := 2) C.nd rfl (Or.inl rfl) (c_mod (c_callTy call_int1 ca_int rfl T.z_int boot_int (c_cons (c_add (c_mul (c_name (pv 2)) c_int) c_int) c_nil)) c_int))) (s_cons (s_asg (ps_set (i := 2) C.nd rfl (Or.inl rfl) (c_mod (c_callTy call_int1 ca_int rfl T.z_int boot_int (c_cons (c_add (c_add (c_mul (c_name (pv 2)) (c_name (pv 2))) (c_mul c_int (c_draws C (fun _ _ => rfl) (pv 0)))) c_int) c_nil)) c_int))) (s_cons (s_asg (ps_set (i := 2) C.nd rfl (Or.inl rfl) (c_mod (c_callTy call_int1 ca_int rfl T.z_int boot_int (c_cons (c_mul (c_name (pv 2)) c_int) c_nil)) c_int))) (s_one (s_ret (c_mod (c_callTy call_int1 ca_int rfl T.z_int boot_int (c_cons (c_fdiv (c_name (pv 2)) c_int) c_nil)) (c_name (pv 1))))))))))), hq⟩
theorem sc_l_pick : FnScope ["_law_deck_here", "_law_some"] ["_law_deck_here", "_law_some"] (defScope s_l_pick) := ⟨rfl, rfl, rfl, by decide +kernel, rfl, by decide +kernel, by decide +kernel⟩
theorem ok_l_pick (T : Txt K mg A) : FnG P w K mg base 2 A.a_l_pick A.f_l_pick ["_law_deck_here", "_law_some"] (spK K 1 g_l_pick) := by
  refine okG T.F_l_pick sc_l_pick (fun vs H Q E h => h.1) fun cdv A' outer s H vs Q E C hr h => ?_
  obtain ⟨⟨H0, G0, M0, cs⟩, hcs, hM, hq⟩ := bodyK_run (N := ["_law_deck_here", "_law_some"]) (cs := []) (f := d_l_pick) (by decide) h
  have hcs : cs = [] := hcs
  subst hcs
  exact ⟨_, (s_one (s_ret (c_ix (c_name (pv 1)) (c_callK C (ok_l_draw T) bodyK_len (hr.mono (by decide)) rfl T.m_l_draw T.F_l_draw.kp T.b_l_draw (c_cons (c_name (pv 0)) (c_cons (c_callB call_len ca_len rfl T.z_len boot_len (c_cons (c_name (pv 1)) c_nil)) c_nil))) fun _ _ => rfl))), hq⟩
theorem sc_l_is_sign : FnScope ["_law_number", "_law_m", "_law_k"] ["_law_number"] (defScope s_l_is_sign) := ⟨rfl, rfl, rfl, by decide +kernel, rfl, by decide +kernel, by decide +kernel⟩
theorem ok_l_is_sign (T : Txt K mg A) : FnG P w K mg base 1 A.a_l_is_sign A.f_l_is_sign ["_law_number"] (spF K 1 g_l_is_sign) := by
  refine okG T.F_l_is_sign sc_l_is_sign (fun vs H Q E h => h.1) fun cdv A' outer s H vs Q E C hr h => ?_
  obtain ⟨⟨H0, G0, M0, cs⟩, hcs, hq⟩ := body_run (N := ["_law_number", "_law_m", "_law_k"]) (cs := [2]) (f := d_l_is_sign) (by decide) h
  have hcs : cs = [2] := hcs
  subst hcs
  exact ⟨_, (s_cons (s_if (b_w (w_or (b_eq C (c_name (pv 0)) c_int) (w_or1 (b_w (w_and (b_ne C (c_mod (c_callTy call_int1 ca_int rfl T.z_int boot_int (c_cons (c_name (pv 0)) c_nil)) c_int) c_int) (w_and1 (b_cmpR (op_ninG C) d_nin (c_mod (c_callTy call_int1 ca_int rfl T.z_int boot_int (c_cons (c_name (pv 0)) c_nil)) c_int) (c_tup (c_cons c_int (c_cons c_int c_nil))) rfl))))))) (s_one (s_ret c_bl)) s_nil) (s_cons (s_asg (ps_set (i := 1) C.nd rfl (Or.inr rfl) (c_if (b_eq C (c_mod (c_callTy call_int1 ca_int rfl T.z_int boot_int (c_cons (c_name (pv 0)) c_nil)) c_int) c_int) (c_name (pv 0)) (c_fdiv (c_name (pv 0)) c_int)))) (s_one (s_ret (c_eq C (c_lc C (own := [("_law_k", 2)]) (show ∀ p ∈ ([("_law_k", 2)] : List (Str × Nat)), p.2 ∈ ([2] : List Nat) from by decide) (i_rng2 rfl T.z_range (c_cons c_int (c_cons c_int c_nil))) ⟨rfl, of_decide_eq_true (by kernel_rfl), of_decide_eq_true (by kernel_rfl), of_decide_eq_true (by kernel_rfl), of_decide_eq_true (by kernel_rfl)⟩ (fun _ _ _ _ _ => (g_name (pg_name (i := 2) C.blk.nd rfl (Or.inl rfl)))) (fun _ _ _ _ _ => (t_one (b_eq C.blk (c_mod (c_callTy call_int1 ca_int rfl T.z_int boot_int (c_cons (c_name (pv 1)) c_nil)) (c_mul (c_name (pv 2)) (c_name (pv 2)))) c_int))) (fun _ _ _ _ _ => (c_name (pv 2)))) (c_lst c_nil)))))), hq⟩
theorem sc_l_sign : FnScope ["_law_deck_here", "_law_start", "_law_step"] ["_law_deck_here"] (defScope s_l_sign) := ⟨rfl, rfl, rfl, by decide +kernel, rfl, by decide +kernel, by decide +kernel⟩
theorem ok_l_sign (T : Txt K mg A) : FnG P w K mg base 3 A.a_l_sign A.f_l_sign ["_law_deck_here"] (spK K 0 g_l_sign) := by
  refine okG T.F_l_sign sc_l_sign (fun vs H Q E h => h.1) fun cdv A' outer s H vs Q E C hr h => ?_
  obtain ⟨⟨H0, G0, M0, cs⟩, hcs, hM, hq⟩ := bodyK_run (N := ["_law_deck_here", "_law_start", "_law_step"]) (cs := []) (f := d_l_sign) (by decide) h
  have hcs : cs = [] := hcs
  subst hcs
  exact ⟨_, (s_cons (s_if (b_eq C (c_callK C (ok_l_draw T) bodyK_len (hr.mono (by decide)) rfl T.m_l_draw T.F_l_draw.kp T.b_l_draw (c_cons (c_name (pv 0)) (c_cons c_int c_nil))) c_int) (s_one (s_ret (c_callK C (ok_l_pick T) bodyK_len (hr.mono (by decide)) rfl T.m_l_pick T.F_l_pick.kp T.b_l_pick (c_cons (c_name (pv 0)) (c_cons (c_lst (c_cons c_int (c_cons (c_neg c_int) (c_cons (c_neg c_int) (c_cons c_int (c_cons (c_neg c_int) (c_cons c_int (c_cons (c_neg c_int) (c_cons c_int (c_cons c_int c_nil)))))))))) c_nil))))) s_nil) (s_cons (s_asg (ps_set (i := 1) C.nd rfl (Or.inl rfl) (c_sub (c_callK C (ok_l_draw T) bodyK_len (hr.mono (by decide)) rfl T.m_l_draw T.F_l_draw.kp T.b_l_draw (c_cons (c_name (pv 0)) (c_cons c_int c_nil))) c_int))) (s_cons (s_for PassesOwn.never C.calm (i_rng1 rfl T.z_range (c_cons c_int c_nil)) (g_name (pg_name (i := 2) C.nd rfl (Or.inl rfl))) (s_one (s_if (b_val (c_call C (ok_l_is_sign T) bodyG_len (hr.mono (by decide)) rfl T.m_l_is_sign T.F_l_is_sign.kp T.b_l_is_sign (c_cons (c_add (c_name (pv 1)) (c_name (pv 2))) c_nil))) (s_one (s_ret (c_add (c_name (pv 1)) (c_name (pv 2))))) s_nil))) (s_one (s_ret c_int))))), hq⟩
theorem sc_l_at_prime : FnScope ["_law_sign_here", "_law_p", "_law_x"] ["_law_sign_here", "_law_p"] (defScope s_l_at_prime) := ⟨rfl, rfl, rfl, by decide +kernel, rfl, by decide +kernel, by decide +kernel⟩
theorem ok_l_at_prime (T : Txt K mg A) : FnG P w K mg base 1 A.a_l_at_prime A.f_l_at_prime ["_law_sign_here", "_law_p"] (spF K 2 g_l_at_prime) := by
  refine okG T.F_l_at_prime sc_l_at_prime (fun vs H Q E h => h.1) fun cdv A' outer s H vs Q E C hr h => ?_
  obtain ⟨⟨H0, G0, M0, cs⟩, hcs, hq⟩ := body_run (N := ["_law_sign_here", "_law_p", "_law_x"]) (cs := [2]) (f := d_l_at_prime) (by decide) h
  have hcs : cs = [2] := hcs
  subst hcs
  exact ⟨_, (s_cons (s_if (b_eq C (c_mod (c_callTy call_int1 ca_int rfl T.z_int boot_int (c_cons (c_name (pv 0)) c_nil)) (c_name (pv 1))) c_int) (s_one (s_ret c_int)) s_nil) (s_cons (s_if (b_eq C (c_name (pv 1)) c_int) (s_one (s_ret (c_if (b_eq C (c_mod (c_callTy call_int1 ca_int rfl T.z_int boot_int (c_cons (c_name (pv 0)) c_nil)) c_int) c_int) c_int (c_neg c_int)))) s_nil) (s_one (s_ret (c_if (b_cmpR (op_inG C) d_in (c_mod (c_callTy call_int1 ca_int rfl T.z_int boot_int (c_cons (c_name (pv 0)) c_nil)) (c_name (pv 1))) (c_lc C (own := [("_law_x", 2)]) (show ∀ p ∈ ([("_law_x", 2)] : List (Str × Nat)), p.2 ∈ ([2] : List Nat) from by decide) (i_rng2 rfl T.z_range (c_cons c_int (c_cons (c_add (c_fdiv (c_name (pv 1)) c_int) c_int) c_nil))) ⟨rfl, of_decide_eq_true (by kernel_rfl), of_decide_eq_true (by kernel_rfl), of_decide_eq_true (by kernel_rfl), of_decide_eq_true (by kernel_rfl)⟩ (fun _ _ _ _ _ => (g_name (pg_name (i := 2) C.blk.nd rfl (Or.inl rfl)))) (fun _ _ _ _ _ => t_nil) (fun _ _ _ _ _ => (c_mod (c_callTy call_int1 ca_int rfl T.z_int boot_int (c_cons (c_mul (c_name (pv 2)) (c_name (pv 2))) c_nil)) (c_name (pv 1))))) rfl) c_int (c_neg c_int)))))), hq⟩
theorem sc_l_values : FnScope ["_law_sign_here", "_law_found", "_law_n", "_law_least", "_law_p"] ["_law_sign_here"] (defScope s_l_values) := ⟨rfl, rfl, rfl, by decide +kernel, rfl, by decide +kernel, by decide +kernel⟩
theorem ok_l_values (T : Txt K mg A) : FnG P w K mg base 2 A.a_l_values A.f_l_values ["_law_sign_here"] (spF K 1 g_l_values) := by
  refine okG T.F_l_values sc_l_values (fun vs H Q E h => h.1) fun cdv A' outer s H vs Q E C hr h => ?_
  obtain ⟨⟨H0, G0, M0, cs⟩, hcs, hq⟩ := body_run (N := ["_law_sign_here", "_law_found", "_law_n", "_law_least", "_law_p"]) (cs := [4]) (f := d_l_values) (by decide) h
  have hcs : cs = [4] := hcs
  subst hcs
  exact ⟨_, (s_cons (s_if (b_eq C (c_name (pv 0)) c_int) (s_one (s_ret (c_lst (c_cons c_int c_nil)))) s_nil) (s_cons (s_asg (ps_set (i := 1) C.nd rfl (Or.inl rfl) (c_lst (c_cons c_int (c_cons c_int c_nil))))) (s_cons (s_for PassesOwn.never C.calm (i_rng2 rfl T.z_range (c_cons c_int (c_cons (c_callB call_abs ca_abs rfl T.z_abs boot_abs (c_cons (c_name (pv 0)) c_nil)) c_nil))) (g_name (pg_name (i := 2) C.nd rfl (Or.inr rfl))) (s_cons (s_asg (ps_set (i := 3) C.nd rfl (Or.inl rfl) (c_ix (c_lc C (own := [("_law_p", 4)]) (show ∀ p ∈ ([("_law_p", 4)] : List (Str × Nat)), p.2 ∈ ([4] : List Nat) from by decide) (i_rng2 rfl T.z_range (c_cons c_int (c_cons (c_add (c_name (pv 2)) c_int) c_nil))) ⟨rfl, of_decide_eq_true (by kernel_rfl), of_decide_eq_true (by kernel_rfl), of_decide_eq_true (by kernel_rfl), of_decide_eq_true (by kernel_rfl)⟩ (fun _ _ _ _ _ => (g_name (pg_name (i := 4) C.blk.nd rfl (Or.inl rfl)))) (fun _ _ _ _ _ => (t_one (b_eq C.blk (c_mod (c_callTy call_int1 ca_int rfl T.z_int boot_int (c_cons (c_name (pv 2)) c_nil)) (c_name (pv 4))) c_int))) (fun _ _ _ _ _ => (c_name (pv 4)))) c_int fun _ _ => rfl))) (s_one (s_expr (c_append (pv 1) (c_cons (c_if (b_eq C (c_name (pv 3)) (c_name (pv 2))) (c_call C (ok_l_at_prime T) bodyG_len (hr.mono (by decide)) rfl T.m_l_at_prime T.F_l_at_prime.kp T.b_l_at_prime (c_cons (c_name (pv 0)) (c_cons (c_name (pv 2)) c_nil))) (c_mul (c_ix (c_name (pv 1)) (c_name (pv 3)) fun _ _ => rfl) (c_ix (c_name (pv 1)) (c_fdiv (c_name (pv 2)) (c_name (pv 3))) fun _ _ => rfl))) c_nil)))))) (s_one (s_ret (c_name (pv 1))))))), hq⟩
theorem sc_is_free : FnScope ["number", "root"] ["number"] (defScope s_is_free) := ⟨rfl, rfl, rfl, by decide +kernel, rfl, by decide +kernel, by decide +kernel⟩
theorem ok_is_free (T : Txt K mg A) : FnG P w K mg base 1 A.a_is_free A.f_is_free ["number"] (spF K 1 g_is_free) := by
  refine okG T.F_is_free sc_is_free (fun vs H Q E h => h.1) fun cdv A' outer s H vs Q E C hr h => ?_
  obtain ⟨⟨H0, G0, M0, cs⟩, hcs, hq⟩ := body_run (N := ["number", "root"]) (cs := []) (f := d_is_free) (by decide) h
  have hcs : cs = [] := hcs
  subst hcs
  exact ⟨_, (s_cons (s_par2 (by decide) (ps_par (i := 0) (j := 1) C.calm C.nd rfl rfl (by decide) rfl rfl (c_cons (c_callB call_abs ca_abs rfl T.z_abs boot_abs (c_cons (c_name (pv 0)) c_nil)) (c_cons c_int c_nil)) rfl)) (s_cons (s_while PassesOwn.never (b_le (c_mul (c_name (pv 1)) (c_name (pv 1))) (c_name (pv 0))) (s_cons (s_if (b_eq C (c_mod (c_name (pv 0)) (c_mul (c_name (pv 1)) (c_name (pv 1)))) c_int) (s_one (s_ret c_bl)) s_nil) (s_one (s_incr (i := 1) C rfl (Or.inl rfl) c_int)))) (s_one (s_ret c_bl)))), hq⟩
theorem sc_is_integer : FnScope ["thing"] ["thing"] (defScope s_is_integer) := ⟨rfl, rfl, rfl, by decide +kernel, rfl, by decide +kernel, by decide +kernel⟩
theorem ok_is_integer (T : Txt K mg A) : FnG P w K mg base 1 A.a_is_integer A.f_is_integer ["thing"] (spF K 1 g_is_integer) := by
  refine okG T.F_is_integer sc_is_integer (fun vs H Q E h => h.1) fun cdv A' outer s H vs Q E C hr h => ?_
  obtain ⟨⟨H0, G0, M0, cs⟩, hcs, hq⟩ := body_run (N := ["thing"]) (cs := []) (f := d_is_integer) (by decide) h
  have hcs : cs = [] := hcs
  subst hcs
  exact ⟨_, (s_one (s_ret (c_and (c_isi kit_int rfl T.z_isinstance rfl T.z_int boot_int (c_name (pv 0))) (c_one (c_not (c_isi kit_bool rfl T.z_isinstance rfl T.z_bool boot_bool (c_name (pv 0)))))))), hq⟩
theorem sc_is_between : FnScope ["thing", "least", "most"] ["thing", "least", "most"] (defScope s_is_between) := ⟨rfl, rfl, rfl, by decide +kernel, rfl, by decide +kernel, by decide +kernel⟩
theorem ok_is_between (T : Txt K mg A) : FnG P w K mg base 2 A.a_is_between A.f_is_between ["thing", "least", "most"] (spF K 3 g_is_between) := by
  refine okG T.F_is_between sc_is_between (fun vs H Q E h => h.1) fun cdv A' outer s H vs Q E C hr h => ?_
  obtain ⟨⟨H0, G0, M0, cs⟩, hcs, hq⟩ := body_run (N := ["thing", "least", "most"]) (cs := []) (f := d_is_between) (by decide) h
  have hcs : cs = [] := hcs
  subst hcs
  exact ⟨_, (s_one (s_ret (c_and (c_call C (ok_is_integer T) bodyG_len (hr.mono (by decide)) rfl T.m_is_integer T.F_is_integer.kp T.b_is_integer (c_cons (c_name (pv 0)) c_nil)) (c_one (c_chain op_le d_intB op_le d_intB (c_name (pv 1)) (c_name (pv 0)) (c_name (pv 2))))))), hq⟩
theorem sc_is_sign : FnScope ["thing"] ["thing"] (defScope s_is_sign) := ⟨rfl, rfl, rfl, by decide +kernel, rfl, by decide +kernel, by decide +kernel⟩
theorem ok_is_sign (T : Txt K mg A) : FnG P w K mg base 3 A.a_is_sign A.f_is_sign ["thing"] (spF K 1 g_is_sign) := by
  refine okG T.F_is_sign sc_is_sign (fun vs H Q E h => h.1) fun cdv A' outer s H vs Q E C hr h => ?_
  obtain ⟨⟨H0, G0, M0, cs⟩, hcs, hq⟩ := body_run (N := ["thing"]) (cs := []) (f := d_is_sign) (by decide) h
  have hcs : cs = [] := hcs
  subst hcs
  exact ⟨_, (s_cons (s_if (b_w (w_or (b_not (b_val (c_call C (ok_is_between T) bodyG_len (hr.mono (by decide)) rfl T.m_is_between T.F_is_between.kp T.b_is_between (c_cons (c_name (pv 0)) (c_cons (c_neg (c_gint rfl T.m_MOST_SIGN)) (c_cons (c_gint rfl T.m_MOST_SIGN) c_nil)))))) (w_or1 (b_eq C (c_name (pv 0)) c_int)))) (s_one (s_ret c_bl)) s_nil) (s_cons (s_if (b_eq C (c_mod (c_name (pv 0)) c_int) c_int) (s_one (s_ret (c_call C (ok_is_free T) bodyG_len (hr.mono (by decide)) rfl T.m_is_free T.F_is_free.kp T.b_is_free (c_cons (c_name (pv 0)) c_nil)))) s_nil) (s_one (s_ret (c_and (c_eq C (c_mod (c_name (pv 0)) c_int) c_int) (c_and (c_cmp (op_inG C) d_in (c_mod (c_fdiv (c_name (pv 0)) c_int) c_int) (c_tup (c_cons c_int (c_cons c_int c_nil))) rfl) (c_one (c_call C (ok_is_free T) bodyG_len (hr.mono (by decide)) rfl T.m_is_free T.F_is_free.kp T.b_is_free (c_cons (c_fdiv (c_name (pv 0)) c_int) c_nil))))))))), hq⟩
theorem sc_need_sign : FnScope ["sign"] ["sign"] (defScope s_need_sign) := ⟨rfl, rfl, rfl, by decide +kernel, rfl, by decide +kernel, by decide +kernel⟩
theorem ok_need_sign (T : Txt K mg A) : FnG P w K mg base 4 A.a_need_sign A.f_need_sign ["sign"] (spF K 1 g_need_sign) := by
  refine okG T.F_need_sign sc_need_sign (fun vs H Q E h => h.1) fun cdv A' outer s H vs Q E C hr h => ?_
  obtain ⟨⟨H0, G0, M0, cs⟩, hcs, hq⟩ := body_run (N := ["sign"]) (cs := []) (f := d_need_sign) (by decide) h
  have hcs : cs = [] := hcs
  subst hcs
  exact ⟨_, (s_one (s_if (b_not (b_val (c_call C (ok_is_sign T) bodyG_len (hr.mono (by decide)) rfl T.m_is_sign T.F_is_sign.kp T.b_is_sign (c_cons (c_name (pv 0)) c_nil)))) (s_one s_never) s_nil)), hq⟩
theorem sc_normal : FnScope ["top", "bottom", "divisor"] ["top", "bottom"] (defScope s_normal) := ⟨rfl, rfl, rfl, by decide +kernel, rfl, by decide +kernel, by decide +kernel⟩
theorem ok_normal (T : Txt K mg A) : FnG P w K mg base 1 A.a_normal A.f_normal ["top", "bottom"] (spF K 2 g_normal) := by
  refine okG T.F_normal sc_normal (fun vs H Q E h => h.1) fun cdv A' outer s H vs Q E C hr h => ?_
  obtain ⟨⟨H0, G0, M0, cs⟩, hcs, hq⟩ := body_run (N := ["top", "bottom", "divisor"]) (cs := []) (f := d_normal) (by decide) h
  have hcs : cs = [] := hcs
  subst hcs
  exact ⟨_, (s_cons (s_asg (ps_set (i := 2) C.nd rfl (Or.inl rfl) (c_callG cr_gcd ca_gcd rfl T.m_gcd (c_cons (c_name (pv 0)) (c_cons (c_name (pv 1)) c_nil))))) (s_cons (s_if (b_lt (c_name (pv 1)) c_int) (s_one (s_asg (ps_set (i := 2) C.nd rfl (Or.inl rfl) (c_neg (c_name (pv 2)))))) s_nil) (s_one (s_ret (c_tup (c_cons (c_fdiv (c_name (pv 0)) (c_name (pv 2))) (c_cons (c_fdiv (c_name (pv 1)) (c_name (pv 2))) c_nil))))))), hq⟩
theorem sc_number_sum : FnScope ["one", "other"] ["one", "other"] (defScope s_number_sum) := ⟨rfl, rfl, rfl, by decide +kernel, rfl, by decide +kernel, by decide +kernel⟩
theorem ok_number_sum (T : Txt K mg A) : FnG P w K mg base 2 A.a_number_sum A.f_number_sum ["one", "other"] (spF K 2 g_number_sum) := by
  refine okG T.F_number_sum sc_number_sum (fun vs H Q E h => h.1) fun cdv A' outer s H vs Q E C hr h => ?_
  obtain ⟨⟨H0, G0, M0, cs⟩, hcs, hq⟩ := body_run (N := ["one", "other"]) (cs := []) (f := d_number_sum) (by decide) h
  have hcs : cs = [] := hcs
  subst hcs
  exact ⟨_, (s_one (s_ret (c_call C (ok_normal T) bodyG_len (hr.mono (by decide)) rfl T.m_normal T.F_normal.kp T.b_normal (c_cons (c_add (c_mul (c_ix (c_name (pv 0)) c_int fun _ _ => rfl) (c_ix (c_name (pv 1)) c_int fun _ _ => rfl)) (c_mul (c_ix (c_name (pv 1)) c_int fun _ _ => rfl) (c_ix (c_name (pv 0)) c_int fun _ _ => rfl))) (c_cons (c_mul (c_ix (c_name (pv 0)) c_int fun _ _ => rfl) (c_ix (c_name (pv 1)) c_int fun _ _ => rfl)) c_nil))))), hq⟩
theorem sc_first_numbers : FnScope ["k", "found", "index", "total", "at", "number"] ["k"] (defScope s_first_numbers) := ⟨rfl, rfl, rfl, by decide +kernel, rfl, by decide +kernel, by decide +kernel⟩
theorem ok_first_numbers (T : Txt K mg A) : FnG P w K mg base 3 A.a_first_numbers A.f_first_numbers ["k"] (spF K 1 g_first_numbers) := by
  refine okG T.F_first_numbers sc_first_numbers (fun vs H Q E h => h.1) fun cdv A' outer s H vs Q E C hr h => ?_
  obtain ⟨⟨H0, G0, M0, cs⟩, hcs, hq⟩ := body_run (N := ["k", "found", "index", "total", "at", "number"]) (cs := []) (f := d_first_numbers) (by decide) h
  have hcs : cs = [] := hcs
  subst hcs
  exact ⟨_, (s_cons (s_asg (ps_set (i := 1) C.nd rfl (Or.inl rfl) (c_lst (c_cons (c_tup (c_cons c_int (c_cons c_int c_nil))) c_nil)))) (s_cons (s_for PassesOwn.never C.calm (i_rng2 rfl T.z_range (c_cons c_int (c_cons (c_add (c_name (pv 0)) c_int) c_nil))) (g_name (pg_name (i := 2) C.nd rfl (Or.inl rfl))) (s_cons (s_asg (ps_set (i := 3) C.nd rfl (Or.inl rfl) (c_tup (c_cons c_int (c_cons c_int c_nil))))) (s_cons (s_forEnumLive (i := 1) PassesOwn.never C.calm rfl T.z_enumerate (pv 1) (g_tup C.calm (g_cons (pg_name (i := 4) C.nd rfl (Or.inl rfl)) (g_cons (pg_name (i := 5) C.nd rfl (Or.inl rfl)) g_nil)) (consG_len (consG_len nilG_len))) (w_one (w_asg (ps_set (i := 3) C.nd rfl (Or.inl rfl) (c_call C (ok_number_sum T) bodyG_len (hr.mono (by decide)) rfl T.m_number_sum T.F_number_sum.kp T.b_number_sum (c_cons (c_name (pv 3)) (c_cons (c_tup (c_cons (c_mul (c_callG cr_comb ca_comb rfl T.m_comb (c_cons (c_add (c_name (pv 2)) c_int) (c_cons (c_name (pv 4)) c_nil))) (c_ix (c_name (pv 5)) c_int fun _ _ => rfl)) (c_cons (c_ix (c_name (pv 5)) c_int fun _ _ => rfl) c_nil))) c_nil)))))) (by decide) (by decide)) (s_one (s_expr (c_append (pv 1) (c_cons (c_call C (ok_normal T) bodyG_len (hr.mono (by decide)) rfl T.m_normal T.F_normal.kp T.b_normal (c_cons (c_neg (c_ix (c_name (pv 3)) c_int fun _ _ => rfl)) (c_cons (c_mul (c_ix (c_name (pv 3)) c_int fun _ _ => rfl) (c_add (c_name (pv 2)) c_int)) c_nil))) c_nil))))))) (s_one (s_ret (c_name (pv 1)))))), hq⟩
theorem sc_odd_value : FnScope ["top", "bottom", "found"] ["top", "bottom"] (defScope s_odd_value) := ⟨rfl, rfl, rfl, by decide +kernel, rfl, by decide +kernel, by decide +kernel⟩
theorem ok_odd_value (T : Txt K mg A) : FnG P w K mg base 1 A.a_odd_value A.f_odd_value ["top", "bottom"] (spF K 2 g_odd_value) := by
  refine okG T.F_odd_value sc_odd_value (fun vs H Q E h => h.1) fun cdv A' outer s H vs Q E C hr h => ?_
  obtain ⟨⟨H0, G0, M0, cs⟩, hcs, hq⟩ := body_run (N := ["top", "bottom", "found"]) (cs := []) (f := d_odd_value) (by decide) h
  have hcs : cs = [] := hcs
  subst hcs
  exact ⟨_, (s_cons (s_par2 (by decide) (ps_par (i := 0) (j := 2) C.calm C.nd rfl rfl (by decide) rfl rfl (c_cons (c_mod (c_name (pv 0)) (c_name (pv 1))) (c_cons c_int c_nil)) rfl)) (s_cons (s_while PassesOwn.never (b_ne C (c_name (pv 0)) c_int) (s_cons (s_while PassesOwn.never (b_eq C (c_mod (c_name (pv 0)) c_int) c_int) (s_cons (s_asg (ps_set (i := 0) C.nd rfl (Or.inl rfl) (c_fdiv (c_name (pv 0)) c_int))) (s_one (s_if (b_cmpR (op_inG C) d_in (c_mod (c_name (pv 1)) c_int) (c_tup (c_cons c_int (c_cons c_int c_nil))) rfl) (s_one (s_asg (ps_set (i := 2) C.nd rfl (Or.inl rfl) (c_neg (c_name (pv 2)))))) s_nil)))) (s_cons (s_if (b_w (w_and (b_eq C (c_mod (c_name (pv 0)) c_int) c_int) (w_and1 (b_eq C (c_mod (c_name (pv 1)) c_int) c_int)))) (s_one (s_asg (ps_set (i := 2) C.nd rfl (Or.inl rfl) (c_neg (c_name (pv 2)))))) s_nil) (s_one (s_par2 (by decide) (ps_par (i := 0) (j := 1) C.calm C.nd rfl rfl (by decide) rfl rfl (c_cons (c_mod (c_name (pv 1)) (c_name (pv 0))) (c_cons (c_name (pv 0)) c_nil)) rfl)))))) (s_one (s_ret (c_if (b_eq C (c_name (pv 1)) c_int) (c_name (pv 2)) c_int))))), hq⟩
theorem sc_value_of : FnScope ["sign", "n", "found"] ["sign", "n"] (defScope s_value_of) := ⟨rfl, rfl, rfl, by decide +kernel, rfl, by decide +kernel, by decide +kernel⟩
theorem ok_value_of (T : Txt K mg A) : FnG P w K mg base 2 A.a_value_of A.f_value_of ["sign", "n"] (spF K 2 g_value_of) := by
  refine okG T.F_value_of sc_value_of (fun vs H Q E h => h.1) fun cdv A' outer s H vs Q E C hr h => ?_
  obtain ⟨⟨H0, G0, M0, cs⟩, hcs, hq⟩ := body_run (N := ["sign", "n", "found"]) (cs := []) (f := d_value_of) (by decide) h
  have hcs : cs = [] := hcs
  subst hcs
  exact ⟨_, (s_cons (s_if (b_eq C (c_name (pv 1)) c_int) (s_one (s_ret (c_if (b_eq C (c_name (pv 0)) c_int) c_int c_int))) s_nil) (s_cons (s_asg (ps_set (i := 2) C.nd rfl (Or.inl rfl) (c_if (b_w (w_and (b_lt (c_name (pv 1)) c_int) (w_and1 (b_lt (c_name (pv 0)) c_int)))) (c_neg c_int) c_int))) (s_cons (s_asg (ps_set (i := 1) C.nd rfl (Or.inl rfl) (c_callB call_abs ca_abs rfl T.z_abs boot_abs (c_cons (c_name (pv 1)) c_nil)))) (s_cons (s_while PassesOwn.never (b_eq C (c_mod (c_name (pv 1)) c_int) c_int) (s_cons (s_asg (ps_set (i := 1) C.nd rfl (Or.inl rfl) (c_fdiv (c_name (pv 1)) c_int))) (s_cons (s_if (b_eq C (c_mod (c_name (pv 0)) c_int) c_int) (s_one (s_ret c_int)) s_nil) (s_one (s_if (b_eq C (c_mod (c_name (pv 0)) c_int) c_int) (s_one (s_asg (ps_set (i := 2) C.nd rfl (Or.inl rfl) (c_neg (c_name (pv 2)))))) s_nil))))) (s_one (s_ret (c_mul (c_name (pv 2)) (c_call C (ok_odd_value T) bodyG_len (hr.mono (by decide)) rfl T.m_odd_value T.F_odd_value.kp T.b_odd_value (c_cons (c_name (pv 0)) (c_cons (c_name (pv 1)) c_nil)))))))))), hq⟩
theorem sc_number_product : FnScope ["one", "other"] ["one", "other"] (defScope s_number_product) := ⟨rfl, rfl, rfl, by decide +kernel, rfl, by decide +kernel, by decide +kernel⟩
theorem ok_number_product (T : Txt K mg A) : FnG P w K mg base 2 A.a_number_product A.f_number_product ["one", "other"] (spF K 2 g_number_product) := by
  refine okG T.F_number_product sc_number_product (fun vs H Q E h => h.1) fun cdv A' outer s H vs Q E C hr h => ?_
  obtain ⟨⟨H0, G0, M0, cs⟩, hcs, hq⟩ := body_run (N := ["one", "other"]) (cs := []) (f := d_number_product) (by decide) h
  have hcs : cs = [] := hcs
  subst hcs
  exact ⟨_, (s_one (s_ret (c_call C (ok_normal T) bodyG_len (hr.mono (by decide)) rfl T.m_normal T.F_normal.kp T.b_normal (c_cons (c_mul (c_ix (c_name (pv 0)) c_int fun _ _ => rfl) (c_ix (c_name (pv 1)) c_int fun _ _ => rfl)) (c_cons (c_mul (c_ix (c_name (pv 0)) c_int fun _ _ => rfl) (c_ix (c_name (pv 1)) c_int fun _ _ => rfl)) c_nil))))), hq⟩
theorem sc_power_of : FnScope ["base", "many", "found", "square"] ["base", "many"] (defScope s_power_of) := ⟨rfl, rfl, rfl, by decide +kernel, rfl, by decide +kernel, by decide +kernel⟩
theorem ok_power_of (T : Txt K mg A) : FnG P w K mg base 1 A.a_power_of A.f_power_of ["base", "many"] (spF K 2 g_power_of) := by
  refine okG T.F_power_of sc_power_of (fun vs H Q E h => h.1) fun cdv A' outer s H vs Q E C hr h => ?_
  obtain ⟨⟨H0, G0, M0, cs⟩, hcs, hq⟩ := body_run (N := ["base", "many", "found", "square"]) (cs := []) (f := d_power_of) (by decide) h
  have hcs : cs = [] := hcs
  subst hcs
  exact ⟨_, (s_cons (s_par2 (by decide) (ps_par (i := 2) (j := 3) C.calm C.nd rfl rfl (by decide) rfl rfl (c_cons c_int (c_cons (c_name (pv 0)) c_nil)) rfl)) (s_cons (s_while PassesOwn.never (b_gt (c_name (pv 1)) c_int) (s_cons (s_if (b_eq C (c_mod (c_name (pv 1)) c_int) c_int) (s_one (s_asg (ps_set (i := 2) C.nd rfl (Or.inl rfl) (c_mul (c_name (pv 2)) (c_name (pv 3)))))) s_nil) (s_cons (s_asg (ps_set (i := 3) C.nd rfl (Or.inl rfl) (c_mul (c_name (pv 3)) (c_name (pv 3))))) (s_one (s_asg (ps_set (i := 1) C.nd rfl (Or.inl rfl) (c_fdiv (c_name (pv 1)) c_int))))))) (s_one (s_ret (c_name (pv 2)))))), hq⟩
theorem sc_signed_number : FnScope ["k", "sign", "size", "found", "values", "at", "number", "total", "part", "a", "value"] ["k", "sign"] (defScope s_signed_number) := ⟨rfl, rfl, rfl, by decide +kernel, rfl, by decide +kernel, by decide +kernel⟩
theorem ok_signed_number (T : Txt K mg A) : FnG P w K mg base 4 A.a_signed_number A.f_signed_number ["k", "sign"] (spF K 2 g_signed_number) := by
  refine okG T.F_signed_number sc_signed_number (fun vs H Q E h => h.1) fun cdv A' outer s H vs Q E C hr h => ?_
  obtain ⟨⟨H0, G0, M0, cs⟩, hcs, hq⟩ := body_run (N := ["k", "sign", "size", "found", "values", "at", "number", "total", "part", "a", "value"]) (cs := [9, 10]) (f := d_signed_number) (by decide) h
  have hcs : cs = [9, 10] := hcs
  subst hcs
  exact ⟨_, (s_cons (s_par2 (by decide) (ps_par (i := 2) (j := 3) C.calm C.nd rfl rfl (by decide) rfl rfl (c_cons (c_callB call_abs ca_abs rfl T.z_abs boot_abs (c_cons (c_name (pv 1)) c_nil)) (c_cons (c_tup (c_cons c_int (c_cons c_int c_nil))) c_nil)) rfl)) (s_cons (s_setLc (i := 4) C rfl rfl (sw_true rfl rfl rfl rfl) (own := [("a", 9)]) (show ∀ p ∈ ([("a", 9)] : List (Str × Nat)), p.2 ∈ ([9, 10] : List Nat) from by decide) (i_rng2 rfl T.z_range (c_cons c_int (c_cons (c_add (c_name (pv 2)) c_int) c_nil))) ⟨rfl, of_decide_eq_true (by kernel_rfl), of_decide_eq_true (by kernel_rfl), of_decide_eq_true (by kernel_rfl), of_decide_eq_true (by kernel_rfl)⟩ (fun _ _ _ _ _ => (g_name (pg_name (i := 9) C.blk.nd rfl (Or.inl rfl)))) (fun _ _ _ _ _ => t_nil) (fun _ _ _ _ _ => (c_tup (c_cons (c_name (pv 9)) (c_cons (c_call C.blk (ok_value_of T) bodyG_len (hr.mono (by decide)) rfl T.m_value_of T.F_value_of.kp T.b_value_of (c_cons (c_name (pv 1)) (c_cons (c_name (pv 9)) c_nil))) c_nil))))) (s_cons (s_for PassesOwn.never C.calm (i_enum rfl T.z_enumerate (c_cons (c_call C (ok_first_numbers T) bodyG_len (hr.mono (by decide)) rfl T.m_first_numbers T.F_first_numbers.kp T.b_first_numbers (c_cons (c_name (pv 0)) c_nil)) c_nil)) (g_tup C.calm (g_cons (pg_name (i := 5) C.nd rfl (Or.inr rfl)) (g_cons (pg_name (i := 6) C.nd rfl (Or.inl rfl)) g_nil)) (consG_len (consG_len nilG_len))) (s_one (s_if (b_ne C (c_ix (c_name (pv 6)) c_int fun _ _ => rfl) c_int) (s_cons (s_asg (ps_set (i := 7) C.nd rfl (Or.inl rfl) (c_callB (cr_sum C.calm) ca_sum rfl T.z_sum boot_sum (c_cons (c_lc C (own := [("a", 9), ("value", 10)]) (show ∀ p ∈ ([("a", 9), ("value", 10)] : List (Str × Nat)), p.2 ∈ ([9, 10] : List Nat) from by decide) (i_list (c_name (pv 4))) ⟨rfl, of_decide_eq_true (by kernel_rfl), of_decide_eq_true (by kernel_rfl), of_decide_eq_true (by kernel_rfl), of_decide_eq_true (by kernel_rfl)⟩ (fun _ _ _ _ _ => (g_tup C.blk.calm (g_cons (pg_name (i := 9) C.blk.nd rfl (Or.inl rfl)) (g_cons (pg_name (i := 10) C.blk.nd rfl (Or.inl rfl)) g_nil)) (consG_len (consG_len nilG_len)))) (fun _ _ _ _ _ => (t_one (b_ne C.blk (c_name (pv 10)) c_int))) (fun _ _ _ _ _ => (c_mul (c_name (pv 10)) (c_call C.blk (ok_power_of T) bodyG_len (hr.mono (by decide)) rfl T.m_power_of T.F_power_of.kp T.b_power_of (c_cons (c_name (pv 9)) (c_cons (c_sub (c_name (pv 0)) (c_name (pv 5))) c_nil)))))) c_nil)))) (s_cons (s_asg (ps_set (i := 8) C.nd rfl (Or.inl rfl) (c_call C (ok_number_product T) bodyG_len (hr.mono (by decide)) rfl T.m_number_product T.F_number_product.kp T.b_number_product (c_cons (c_name (pv 6)) (c_cons (c_tup (c_cons (c_mul (c_mul (c_callG cr_comb ca_comb rfl T.m_comb (c_cons (c_name (pv 0)) (c_cons (c_name (pv 5)) c_nil))) (c_name (pv 7))) (c_call C (ok_power_of T) bodyG_len (hr.mono (by decide)) rfl T.m_power_of T.F_power_of.kp T.b_power_of (c_cons (c_name (pv 2)) (c_cons (c_name (pv 5)) c_nil)))) (c_cons (c_name (pv 2)) c_nil))) c_nil))))) (s_one (s_asg (ps_set (i := 3) C.nd rfl (Or.inl rfl) (c_call C (ok_number_sum T) bodyG_len (hr.mono (by decide)) rfl T.m_number_sum T.F_number_sum.kp T.b_number_sum (c_cons (c_name (pv 3)) (c_cons (c_name (pv 8)) c_nil)))))))) s_nil))) (s_one (s_ret (c_name (pv 3))))))), hq⟩
theorem sc_bernoulli : FnScope ["k", "sign"] ["k", "sign"] (defScope s_bernoulli) := ⟨rfl, rfl, rfl, by decide +kernel, rfl, by decide +kernel, by decide +kernel⟩
theorem ok_bernoulli (T : Txt K mg A) : FnG P w K mg base 5 A.a_bernoulli A.f_bernoulli ["k", "sign"] (spF K 2 g_bernoulli) := by
  refine okG T.F_bernoulli sc_bernoulli (fun vs H Q E h => h.1) fun cdv A' outer s H vs Q E C hr h => ?_
  obtain ⟨⟨H0, G0, M0, cs⟩, hcs, hq⟩ := body_run (N := ["k", "sign"]) (cs := []) (f := d_bernoulli) (by decide) h
  have hcs : cs = [] := hcs
  subst hcs
  exact ⟨_, (s_cons (s_if (b_not (b_val (c_call C (ok_is_between T) bodyG_len (hr.mono (by decide)) rfl T.m_is_between T.F_is_between.kp T.b_is_between (c_cons (c_name (pv 0)) (c_cons c_int (c_cons (c_gint rfl T.m_MOST_INDEX) c_nil)))))) (s_one s_never) s_nil) (s_cons (s_expr (c_call C (ok_need_sign T) bodyG_len (hr.mono (by decide)) rfl T.m_need_sign T.F_need_sign.kp T.b_need_sign (c_cons (c_name (pv 1)) c_nil))) (s_one (s_ret (c_call C (ok_signed_number T) bodyG_len (hr.mono (by decide)) rfl T.m_signed_number T.F_signed_number.kp T.b_signed_number (c_cons (c_name (pv 0)) (c_cons (c_name (pv 1)) c_nil))))))), hq⟩
theorem sc_l_is_number : FnScope ["_law_thing", "_law_one", "_law_other", "_law_x"] ["_law_thing"] (defScope s_l_is_number) := ⟨rfl, rfl, rfl, by decide +kernel, rfl, by decide +kernel, by decide +kernel⟩
theorem ok_l_is_number (T : Txt K mg A) : FnG P w K mg base 1 A.a_l_is_number A.f_l_is_number ["_law_thing"] (spF K 1 g_l_is_number) := by
  refine okG T.F_l_is_number sc_l_is_number (fun vs H Q E h => h.1) fun cdv A' outer s H vs Q E C hr h => ?_
  obtain ⟨⟨H0, G0, M0, cs⟩, hcs, hq⟩ := body_run (N := ["_law_thing", "_law_one", "_law_other", "_law_x"]) (cs := [3]) (f := d_l_is_number) (by decide) h
  have hcs : cs = [3] := hcs
  subst hcs
  exact ⟨_, (s_cons (s_if (b_w (w_or (b_not (b_val (c_isi kit_tuple rfl T.z_isinstance rfl T.z_tuple boot_tuple (c_name (pv 0))))) (w_or (b_ne C (c_callB call_len ca_len rfl T.z_len boot_len (c_cons (c_name (pv 0)) c_nil)) c_int) (w_or1 (b_ne C (c_lc C (own := [("_law_x", 3)]) (show ∀ p ∈ ([("_law_x", 3)] : List (Str × Nat)), p.2 ∈ ([3] : List Nat) from by decide) (i_any (c_name (pv 0))) ⟨rfl, of_decide_eq_true (by kernel_rfl), of_decide_eq_true (by kernel_rfl), of_decide_eq_true (by kernel_rfl), of_decide_eq_true (by kernel_rfl)⟩ (fun _ _ _ _ _ => (g_name (pg_name (i := 3) C.blk.nd rfl (Or.inl rfl)))) (fun _ _ _ _ _ => (t_one (b_w (w_or (b_not (b_val (c_isi kit_int rfl T.z_isinstance rfl T.z_int boot_int (c_name (pv 3))))) (w_or1 (b_val (c_isi kit_bool rfl T.z_isinstance rfl T.z_bool boot_bool (c_name (pv 3))))))))) (fun _ _ _ _ _ => (c_name (pv 3)))) (c_lst c_nil)))))) (s_one (s_ret c_bl)) s_nil) (s_cons (s_par2 (by decide) (ps_par (i := 1) (j := 2) C.calm C.nd rfl rfl (by decide) rfl rfl (c_cons (c_callB call_abs ca_abs rfl T.z_abs boot_abs (c_cons (c_ix (c_name (pv 0)) c_int fun _ _ => rfl) c_nil)) (c_cons (c_ix (c_name (pv 0)) c_int fun _ _ => rfl) c_nil)) rfl)) (s_cons (s_while PassesOwn.never (b_gt (c_name (pv 2)) c_int) (s_one (s_par2 (by decide) (ps_par (i := 1) (j := 2) C.calm C.nd rfl rfl (by decide) rfl rfl (c_cons (c_name (pv 2)) (c_cons (c_mod (c_callTy call_int1 ca_int rfl T.z_int boot_int (c_cons (c_name (pv 1)) c_nil)) (c_name (pv 2))) c_nil)) rfl)))) (s_one (s_ret (c_and (c_ge (c_ix (c_name (pv 0)) c_int fun _ _ => rfl) c_int) (c_one (c_eq C (c_name (pv 1)) c_int)))))))), hq⟩
theorem sc_l_is_kummer : FnScope ["_law_p", "_law_k", "_law_one", "_law_other", "_law_tops", "_law_bottoms", "_law_at", "_law_turn"] ["_law_p", "_law_k"] (defScope s_l_is_kummer) := ⟨rfl, rfl, rfl, by decide +kernel, rfl, by decide +kernel, by decide +kernel⟩
theorem ok_l_is_kummer (T : Txt K mg A) : FnG P w K mg base 6 A.a_l_is_kummer A.f_l_is_kummer ["_law_p", "_law_k"] (spF K 2 g_l_is_kummer) := by
  refine okG T.F_l_is_kummer sc_l_is_kummer (fun vs H Q E h => h.1) fun cdv A' outer s H vs Q E C hr h => ?_
  obtain ⟨⟨H0, G0, M0, cs⟩, hcs, hq⟩ := body_run (N := ["_law_p", "_law_k", "_law_one", "_law_other", "_law_tops", "_law_bottoms", "_law_at", "_law_turn"]) (cs := []) (f := d_l_is_kummer) (by decide) h
  have hcs : cs = [] := hcs
  subst hcs
  exact ⟨_, (s_cons (s_par2 (by decide) (ps_par (i := 2) (j := 3) C.calm C.nd rfl rfl (by decide) rfl rfl (c_cons (c_call C (ok_bernoulli T) bodyG_len (hr.mono (by decide)) rfl T.m_bernoulli T.F_bernoulli.kp T.b_bernoulli (c_cons (c_name (pv 1)) (c_cons c_int c_nil))) (c_cons (c_callKw (ks := ["sign", "k"]) (sel := [1, 0]) C (ok_bernoulli T) bodyG_len (hr.mono (by decide)) rfl T.m_bernoulli T.F_bernoulli.kp T.kw_bernoulli_sign_k (k_cons c_int (k_cons (c_sub (c_add (c_name (pv 1)) (c_name (pv 0))) c_int) k_nil))) c_nil)) rfl)) (s_cons (s_if (b_w (w_or (b_not (b_val (c_call C (ok_l_is_number T) bodyG_len (hr.mono (by decide)) rfl T.m_l_is_number T.F_l_is_number.kp T.b_l_is_number (c_cons (c_name (pv 2)) c_nil)))) (w_or1 (b_not (b_val (c_call C (ok_l_is_number T) bodyG_len (hr.mono (by decide)) rfl T.m_l_is_number T.F_l_is_number.kp T.b_l_is_number (c_cons (c_name (pv 3)) c_nil))))))) (s_one (s_ret c_bl)) s_nil) (s_cons (s_par2 (by decide) (ps_par (i := 4) (j := 5) C.calm C.nd rfl rfl (by decide) rfl rfl (c_cons (c_lst (c_cons (c_ix (c_name (pv 2)) c_int fun _ _ => rfl) (c_cons (c_ix (c_name (pv 3)) c_int fun _ _ => rfl) c_nil))) (c_cons (c_lst (c_cons (c_mul (c_ix (c_name (pv 2)) c_int fun _ _ => rfl) (c_name (pv 1))) (c_cons (c_mul (c_ix (c_name (pv 3)) c_int fun _ _ => rfl) (c_sub (c_add (c_name (pv 1)) (c_name (pv 0))) c_int)) c_nil))) c_nil)) rfl)) (s_cons (s_for PassesOwn.never C.calm (i_rng1 rfl T.z_range (c_cons c_int c_nil)) (g_name (pg_name (i := 6) C.nd rfl (Or.inl rfl))) (s_one (s_for PassesOwn.never C.calm (i_rng1 rfl T.z_range (c_cons c_int c_nil)) (g_name (pg_name (i := 7) C.nd rfl (Or.inl rfl))) (s_one (s_if (b_eq C (c_mod (c_callTy call_int1 ca_int rfl T.z_int boot_int (c_cons (c_ix (c_name (pv 5)) (c_name (pv 6)) fun _ _ => rfl) c_nil)) (c_name (pv 0))) c_int) (s_cons (s_if (b_ne C (c_mod (c_callTy call_int1 ca_int rfl T.z_int boot_int (c_cons (c_ix (c_name (pv 4)) (c_name (pv 6)) fun _ _ => rfl) c_nil)) (c_name (pv 0))) c_int) (s_one (s_ret c_bl)) s_nil) (s_one (s_pairIx (ps_asg (c_tup (c_cons (c_fdiv (c_ix (c_name (pv 4)) (c_name (pv 6)) fun _ _ => rfl) (c_name (pv 0))) (c_cons (c_fdiv (c_ix (c_name (pv 5)) (c_name (pv 6)) fun _ _ => rfl) (c_name (pv 0))) c_nil))) (pg_tup C.calm (pgs_cons (pg_sub (pv 4) (c_name (pv 6)) set_list) (pgs_cons (pg_sub (pv 5) (c_name (pv 6)) set_list) pgs_nil))))))) s_nil))))) (s_one (s_ret (c_eq C (c_mod (c_callTy call_int1 ca_int rfl T.z_int boot_int (c_cons (c_sub (c_mul (c_ix (c_name (pv 4)) c_int fun _ _ => rfl) (c_ix (c_name (pv 5)) c_int fun _ _ => rfl)) (c_mul (c_ix (c_name (pv 4)) c_int fun _ _ => rfl) (c_ix (c_name (pv 5)) c_int fun _ _ => rfl))) c_nil)) (c_name (pv 0))) c_int))))))), hq⟩
theorem sc_l_is_equal : FnScope ["_law_number", "_law_whole"] ["_law_number", "_law_whole"] (defScope s_l_is_equal) := ⟨rfl, rfl, rfl, by decide +kernel, rfl, by decide +kernel, by decide +kernel⟩
theorem ok_l_is_equal (T : Txt K mg A) : FnG P w K mg base 1 A.a_l_is_equal A.f_l_is_equal ["_law_number", "_law_whole"] (spF K 2 g_l_is_equal) := by
  refine okG T.F_l_is_equal sc_l_is_equal (fun vs H Q E h => h.1) fun cdv A' outer s H vs Q E C hr h => ?_
  obtain ⟨⟨H0, G0, M0, cs⟩, hcs, hq⟩ := body_run (N := ["_law_number", "_law_whole"]) (cs := []) (f := d_l_is_equal) (by decide) h
  have hcs : cs = [] := hcs
  subst hcs
  exact ⟨_, (s_one (s_ret (c_eq C (c_ix (c_name (pv 0)) c_int fun _ _ => rfl) (c_mul (c_name (pv 1)) (c_ix (c_name (pv 0)) c_int fun _ _ => rfl))))), hq⟩
theorem sc_sign_at : FnScope ["sign", "n"] ["sign", "n"] (defScope s_sign_at) := ⟨rfl, rfl, rfl, by decide +kernel, rfl, by decide +kernel, by decide +kernel⟩
theorem ok_sign_at (T : Txt K mg A) : FnG P w K mg base 5 A.a_sign_at A.f_sign_at ["sign", "n"] (spF K 2 g_sign_at) := by
  refine okG T.F_sign_at sc_sign_at (fun vs H Q E h => h.1) fun cdv A' outer s H vs Q E C hr h => ?_
  obtain ⟨⟨H0, G0, M0, cs⟩, hcs, hq⟩ := body_run (N := ["sign", "n"]) (cs := []) (f := d_sign_at) (by decide) h
  have hcs : cs = [] := hcs
  subst hcs
  exact ⟨_, (s_cons (s_expr (c_call C (ok_need_sign T) bodyG_len (hr.mono (by decide)) rfl T.m_need_sign T.F_need_sign.kp T.b_need_sign (c_cons (c_name (pv 0)) c_nil))) (s_cons (s_if (b_not (b_val (c_call C (ok_is_integer T) bodyG_len (hr.mono (by decide)) rfl T.m_is_integer T.F_is_integer.kp T.b_is_integer (c_cons (c_name (pv 1)) c_nil)))) (s_one s_never) s_nil) (s_one (s_ret (c_call C (ok_value_of T) bodyG_len (hr.mono (by decide)) rfl T.m_value_of T.F_value_of.kp T.b_value_of (c_cons (c_name (pv 0)) (c_cons (c_name (pv 1)) c_nil))))))), hq⟩
theorem sc_l_power : FnScope ["_law_x", "_law_k", "_law_found", "_law_turn"] ["_law_x", "_law_k"] (defScope s_l_power) := ⟨rfl, rfl, rfl, by decide +kernel, rfl, by decide +kernel, by decide +kernel⟩
theorem ok_l_power (T : Txt K mg A) : FnG P w K mg base 1 A.a_l_power A.f_l_power ["_law_x", "_law_k"] (spF K 2 g_l_power) := by
  refine okG T.F_l_power sc_l_power (fun vs H Q E h => h.1) fun cdv A' outer s H vs Q E C hr h => ?_
  obtain ⟨⟨H0, G0, M0, cs⟩, hcs, hq⟩ := body_run (N := ["_law_x", "_law_k", "_law_found", "_law_turn"]) (cs := []) (f := d_l_power) (by decide) h
  have hcs : cs = [] := hcs
  subst hcs
  exact ⟨_, (s_cons (s_asg (ps_set (i := 2) C.nd rfl (Or.inl rfl) c_int)) (s_cons (s_for PassesOwn.never C.calm (i_rng1 rfl T.z_range (c_cons (c_name (pv 1)) c_nil)) (g_name (pg_name (i := 3) C.nd rfl (Or.inl rfl))) (s_one (s_asg (ps_set (i := 2) C.nd rfl (Or.inl rfl) (c_mul (c_name (pv 2)) (c_name (pv 0))))))) (s_one (s_ret (c_name (pv 2)))))), hq⟩
theorem sc_l_end : FnScope ["_law_numbers", "_law_k", "_law_end_here", "_law_total", "_law_ways", "_law_i", "_law_top", "_law_bottom", "_law_share"] ["_law_numbers", "_law_k", "_law_end_here"] (defScope s_l_end) := ⟨rfl, rfl, rfl, by decide +kernel, rfl, by decide +kernel, by decide +kernel⟩
theorem ok_l_end (T : Txt K mg A) : FnG P w K mg base 2 A.a_l_end A.f_l_end ["_law_numbers", "_law_k", "_law_end_here"] (spF K 3 g_l_end) := by
  refine okG T.F_l_end sc_l_end (fun vs H Q E h => h.1) fun cdv A' outer s H vs Q E C hr h => ?_
  obtain ⟨⟨H0, G0, M0, cs⟩, hcs, hq⟩ := body_run (N := ["_law_numbers", "_law_k", "_law_end_here", "_law_total", "_law_ways", "_law_i", "_law_top", "_law_bottom", "_law_share"]) (cs := []) (f := d_l_end) (by decide) h
  have hcs : cs = [] := hcs
  subst hcs
  exact ⟨_, (s_cons (s_asgG (c_tup (c_cons (c_tup (c_cons c_int (c_cons c_int c_nil))) (c_cons c_int c_nil))) (g_tup C.calm (g_cons (pg_name (i := 3) C.nd rfl (Or.inl rfl)) (g_cons (pg_name (i := 4) C.nd rfl (Or.inl rfl)) g_nil)) (consG_len (consG_len nilG_len)))) (s_cons (s_for PassesOwn.never C.calm (i_rng1 rfl T.z_range (c_cons (c_name (pv 1)) c_nil)) (g_name (pg_name (i := 5) C.nd rfl (Or.inl rfl))) (s_cons (s_asgG (c_ix (c_name (pv 0)) (c_name (pv 5)) fun _ _ => rfl) (g_tup C.calm (g_cons (pg_name (i := 6) C.nd rfl (Or.inl rfl)) (g_cons (pg_name (i := 7) C.nd rfl (Or.inl rfl)) g_nil)) (consG_len (consG_len nilG_len)))) (s_cons (s_asg (ps_set (i := 8) C.nd rfl (Or.inl rfl) (c_mul (c_mul (c_name (pv 4)) (c_name (pv 6))) (c_call C (ok_l_power T) bodyG_len (hr.mono (by decide)) rfl T.m_l_power T.F_l_power.kp T.b_l_power (c_cons (c_name (pv 2)) (c_cons (c_sub (c_name (pv 1)) (c_name (pv 5))) c_nil)))))) (s_cons (s_asg (ps_set (i := 3) C.nd rfl (Or.inl rfl) (c_tup (c_cons (c_add (c_mul (c_ix (c_name (pv 3)) c_int fun _ _ => rfl) (c_name (pv 7))) (c_mul (c_name (pv 8)) (c_ix (c_name (pv 3)) c_int fun _ _ => rfl))) (c_cons (c_mul (c_ix (c_name (pv 3)) c_int fun _ _ => rfl) (c_name (pv 7))) c_nil))))) (s_one (s_asg (ps_set (i := 4) C.nd rfl (Or.inl rfl) (c_fdiv (c_mul (c_name (pv 4)) (c_sub (c_name (pv 1)) (c_name (pv 5)))) (c_add (c_name (pv 5)) c_int))))))))) (s_one (s_ret (c_name (pv 3)))))), hq⟩
theorem sc_law : FnScope ["_law_script", "_law_deck_here", "_law_sign_here", "_law_k", "_law_periods", "_law_size", "_law_values_here", "_law_numbers", "_law_total", "_law_at", "_law_turn", "_law_a", "_law_p", "_law_even", "_law_i", "_law_number"] ["_law_script"] (defScope s_law) := ⟨rfl, rfl, rfl, by decide +kernel, rfl, by decide +kernel, by decide +kernel⟩
theorem ok_law (T : Txt K mg A) : FnG P w K mg base 7 A.a_law A.f_law ["_law_script"] (spN K g_law) := by
  refine okG T.F_law sc_law (fun vs H Q E h => h.1) fun cdv A' outer s H vs Q E C hr h => ?_
  obtain ⟨⟨H0, G0, M0, cs⟩, hcs, hq⟩ := bodyN_run (N := ["_law_script", "_law_deck_here", "_law_sign_here", "_law_k", "_law_periods", "_law_size", "_law_values_here", "_law_numbers", "_law_total", "_law_at", "_law_turn", "_law_a", "_law_p", "_law_even", "_law_i", "_law_number"]) (cs := [14, 15, 11]) (f := d_law) (by decide) h
  have hcs : cs = [14, 15, 11] := hcs
  subst hcs
  exact ⟨_, (s_cons (s_asg (ps_set (i := 1) C.nd rfl (Or.inl rfl) (c_callN C (ok_l_deck T) (hr.mono (by decide)) rfl T.m_l_deck T.F_l_deck.kp T.b_l_deck (pv 0)))) (s_cons (s_asgG (c_tup (c_cons (c_callK C (ok_l_sign T) bodyK_len (hr.mono (by decide)) rfl T.m_l_sign T.F_l_sign.kp T.b_l_sign (c_cons (c_name (pv 1)) c_nil)) (c_cons (c_add c_int (c_callK C (ok_l_draw T) bodyK_len (hr.mono (by decide)) rfl T.m_l_draw T.F_l_draw.kp T.b_l_draw (c_cons (c_name (pv 1)) (c_cons c_int c_nil)))) (c_cons (c_add c_int (c_callK C (ok_l_draw T) bodyK_len (hr.mono (by decide)) rfl T.m_l_draw T.F_l_draw.kp T.b_l_draw (c_cons (c_name (pv 1)) (c_cons c_int c_nil)))) c_nil)))) (g_tup C.calm (g_cons (pg_name (i := 2) C.nd rfl (Or.inr rfl)) (g_cons (pg_name (i := 3) C.nd rfl (Or.inl rfl)) (g_cons (pg_name (i := 4) C.nd rfl (Or.inl rfl)) g_nil))) (consG_len (consG_len (consG_len nilG_len))))) (s_cons (s_par2 (by decide) (ps_par (i := 5) (j := 6) C.calm C.nd rfl rfl (by decide) rfl rfl (c_cons (c_callB call_abs ca_abs rfl T.z_abs boot_abs (c_cons (c_name (pv 2)) c_nil)) (c_cons (c_call C (ok_l_values T) bodyG_len (hr.mono (by decide)) rfl T.m_l_values T.F_l_values.kp T.b_l_values (c_cons (c_name (pv 2)) c_nil)) c_nil)) rfl)) (s_cons (s_if (b_ne C (c_callB (call_repr C) ca_repr rfl T.z_repr boot_repr (c_cons (c_lc C (own := [("_law_a", 11)]) (show ∀ p ∈ ([("_law_a", 11)] : List (Str × Nat)), p.2 ∈ ([14, 15, 11] : List Nat) from by decide) (i_rng1 rfl T.z_range (c_cons (c_name (pv 5)) c_nil)) ⟨rfl, of_decide_eq_true (by kernel_rfl), of_decide_eq_true (by kernel_rfl), of_decide_eq_true (by kernel_rfl), of_decide_eq_true (by kernel_rfl)⟩ (fun _ _ _ _ _ => (g_name (pg_name (i := 11) C.blk.nd rfl (Or.inl rfl)))) (fun _ _ _ _ _ => t_nil) (fun _ _ _ _ _ => (c_call C.blk (ok_sign_at T) bodyG_len (hr.mono (by decide)) rfl T.m_sign_at T.F_sign_at.kp T.b_sign_at (c_cons (c_name (pv 2)) (c_cons (c_name (pv 11)) c_nil))))) c_nil)) (c_callB (call_repr C) ca_repr rfl T.z_repr boot_repr (c_cons (c_name (pv 6)) c_nil))) (s_one (s_ret c_bl)) s_nil) (s_cons (s_setLc (i := 7) C rfl rfl (sw_true rfl rfl rfl rfl) (own := [("_law_i", 14)]) (show ∀ p ∈ ([("_law_i", 14)] : List (Str × Nat)), p.2 ∈ ([14, 15, 11] : List Nat) from by decide) (i_rng1 rfl T.z_range (c_cons (c_name (pv 3)) c_nil)) ⟨rfl, of_decide_eq_true (by kernel_rfl), of_decide_eq_true (by kernel_rfl), of_decide_eq_true (by kernel_rfl), of_decide_eq_true (by kernel_rfl)⟩ (fun _ _ _ _ _ => (g_name (pg_name (i := 14) C.blk.nd rfl (Or.inl rfl)))) (fun _ _ _ _ _ => t_nil) (fun _ _ _ _ _ => (c_call C.blk (ok_bernoulli T) bodyG_len (hr.mono (by decide)) rfl T.m_bernoulli T.F_bernoulli.kp T.b_bernoulli (c_cons (c_name (pv 14)) (c_cons (c_name (pv 2)) c_nil))))) (s_cons (s_if (b_ne C (c_lc C (own := [("_law_number", 15)]) (show ∀ p ∈ ([("_law_number", 15)] : List (Str × Nat)), p.2 ∈ ([14, 15, 11] : List Nat) from by decide) (i_list (c_name (pv 7))) ⟨rfl, of_decide_eq_true (by kernel_rfl), of_decide_eq_true (by kernel_rfl), of_decide_eq_true (by kernel_rfl), of_decide_eq_true (by kernel_rfl)⟩ (fun _ _ _ _ _ => (g_name (pg_name (i := 15) C.blk.nd rfl (Or.inl rfl)))) (fun _ _ _ _ _ => (t_one (b_not (b_val (c_call C.blk (ok_l_is_number T) bodyG_len (hr.mono (by decide)) rfl T.m_l_is_number T.F_l_is_number.kp T.b_l_is_number (c_cons (c_name (pv 15)) c_nil)))))) (fun _ _ _ _ _ => (c_name (pv 15)))) (c_lst c_nil)) (s_one (s_ret c_bl)) s_nil) (s_cons (s_asg (ps_set (i := 4) C.nd rfl (Or.inl rfl) (c_callB (call_max2 C.calm) ca_max2 rfl T.z_max boot_max (c_cons c_int (c_cons (c_callB (call_min2 C.calm) ca_min2 rfl T.z_min boot_min (c_cons (c_name (pv 4)) (c_cons (c_fdiv c_int (c_name (pv 5))) c_nil))) c_nil))))) (s_cons (s_par2 (by decide) (ps_par (i := 8) (j := 9) C.calm C.nd rfl rfl (by decide) rfl rfl (c_cons c_int (c_cons (c_callK C (ok_l_draw T) bodyK_len (hr.mono (by decide)) rfl T.m_l_draw T.F_l_draw.kp T.b_l_draw (c_cons (c_name (pv 1)) (c_cons (c_name (pv 3)) c_nil))) c_nil)) rfl)) (s_cons (s_for PassesOwn.never C.calm (i_rng1 rfl T.z_range (c_cons (c_name (pv 4)) c_nil)) (g_name (pg_name (i := 10) C.nd rfl (Or.inl rfl))) (s_cons (s_for PassesOwn.never C.calm (i_rng2 rfl T.z_range (c_cons (c_add (c_mul (c_name (pv 10)) (c_name (pv 5))) c_int) (c_cons (c_add (c_add (c_mul (c_name (pv 10)) (c_name (pv 5))) (c_name (pv 5))) c_int) c_nil))) (g_name (pg_name (i := 11) C.nd rfl (Or.inl rfl))) (s_one (s_asg (ps_set (i := 8) C.nd rfl (Or.inl rfl) (c_add (c_name (pv 8)) (c_mul (c_ix (c_name (pv 6)) (c_mod (c_callTy call_int1 ca_int rfl T.z_int boot_int (c_cons (c_name (pv 11)) c_nil)) (c_name (pv 5))) fun _ _ => rfl) (c_call C (ok_l_power T) bodyG_len (hr.mono (by decide)) rfl T.m_l_power T.F_l_power.kp T.b_l_power (c_cons (c_name (pv 11)) (c_cons (c_sub (c_name (pv 3)) c_int) c_nil))))))))) (s_one (s_if (b_not (b_val (c_call C (ok_l_is_equal T) bodyG_len (hr.mono (by decide)) rfl T.m_l_is_equal T.F_l_is_equal.kp T.b_l_is_equal (c_cons (c_call C (ok_l_end T) bodyG_len (hr.mono (by decide)) rfl T.m_l_end T.F_l_end.kp T.b_l_end (c_cons (c_name (pv 7)) (c_cons (c_name (pv 3)) (c_cons (c_add (c_mul (c_name (pv 10)) (c_name (pv 5))) (c_name (pv 5))) c_nil)))) (c_cons (c_mul (c_name (pv 3)) (c_name (pv 8))) c_nil))))) (s_one (s_ret c_bl)) s_nil)))) (s_cons (s_if (b_ne C (c_callB (call_repr C) ca_repr rfl T.z_repr boot_repr (c_cons (c_callKw (ks := ["sign", "k"]) (sel := [1, 0]) C (ok_bernoulli T) bodyG_len (hr.mono (by decide)) rfl T.m_bernoulli T.F_bernoulli.kp T.kw_bernoulli_sign_k (k_cons (c_name (pv 2)) (k_cons (c_name (pv 9)) k_nil))) c_nil)) (c_callB (call_repr C) ca_repr rfl T.z_repr boot_repr (c_cons (c_ix (c_name (pv 7)) (c_name (pv 9)) fun _ _ => rfl) c_nil))) (s_one (s_ret c_bl)) s_nil) (s_cons (s_asg (ps_set (i := 12) C.nd rfl (Or.inl rfl) (c_callK C (ok_l_pick T) bodyK_len (hr.mono (by decide)) rfl T.m_l_pick T.F_l_pick.kp T.b_l_pick (c_cons (c_name (pv 1)) (c_cons (c_lst (c_cons c_int (c_cons c_int (c_cons c_int (c_cons c_int (c_cons c_int (c_cons c_int (c_cons c_int (c_cons c_int c_nil))))))))) c_nil))))) (s_cons (s_asg (ps_set (i := 13) C.nd rfl (Or.inl rfl) (c_add c_int (c_mul c_int (c_callK C (ok_l_draw T) bodyK_len (hr.mono (by decide)) rfl T.m_l_draw T.F_l_draw.kp T.b_l_draw (c_cons (c_name (pv 1)) (c_cons (c_fdiv (c_sub c_int (c_name (pv 12))) c_int) c_nil))))))) (s_one (s_ret (c_or (c_eq C (c_mod (c_callTy call_int1 ca_int rfl T.z_int boot_int (c_cons (c_name (pv 13)) c_nil)) (c_sub (c_name (pv 12)) c_int)) c_int) (c_one (c_call C (ok_l_is_kummer T) bodyG_len (hr.mono (by decide)) rfl T.m_l_is_kummer T.F_l_is_kummer.kp T.b_l_is_kummer (c_cons (c_name (pv 12)) (c_cons (c_name (pv 13)) c_nil))))))))))))))))))), hq⟩
end
end K07
namespace K07
open PySem PyProof.Rows L2 Dn
/-! the deck and its draws -/
theorem deck_ok (ns : List Int) (hn : ns.length ≤ 63) : ∃ st, g_l_deck ns = some (.deck st) ∧ DeckOk true 0 st := by
  have key := for_fold (tg := nameG 2) (f := w1_l_deck) (inj := PyData.int) (xs := ns.take 63) (b := ()) (step := fun _ _ => ()) (E := fun _ ρ => ∃ (m : Int) (o : Option S), ρ = [some (.scr ns), some (.sh (.int m)), o] ∧ 0 ≤ m ∧ m < 2147483587) (ρ := [some (S.scr ns), some (S.sh (PyData.int 10883707)), none]) ⟨_, _, rfl, by omega, by omega⟩ (by
    rintro _ a ρ _ ⟨m, o, rfl, h0, h1⟩
    refine ⟨_, _, rfl, .inl (Gv.eq (by simp (disch := omega) [w1_l_deck]; exact rfl)), _, _, rfl, ?_, ?_⟩ <;> omega)
  obtain ⟨ρ', h, m, o, rfl, h0, h1⟩ := key
  refine ⟨.mk _ _ _ _, Gv.eq (by simp (disch := omega) [g_l_deck, bodyN, startN, d_l_deck, ← List.map_take, h, intsOf_map, ← List.map_reverse]; exact rfl), rfl, ?_, ?_, ?_, ?_, ?_⟩ <;> simp <;> omega
theorem draw_ok (st : Dn.Deck) (n m : Int) (h : DeckOk true n st) (hn : n ≤ 1000000) (hm : 1 ≤ m) (hm2 : m ≤ 1000000000) :
    ∃ s st', g_l_draw st [.int m] = some (s, st') ∧ ∃ r : Int, s = .sh (.int r) ∧ 0 ≤ r ∧ r < m ∧ DeckOk true (n + 1) st' := by
  obtain ⟨h1, h2, h3, h4, h5, h6⟩ := h
  obtain ⟨ck, cells, mixed, draws⟩ := st
  dsimp only at h1 h2 h3 h4 h5 h6
  subst h1
  refine bodyK_of rfl ?_
  refine WS.seq (by simp (disch := omega) [startK]; exact rfl) ?_
  refine WS.seq (by simp (disch := omega); exact rfl) ?_
  refine WS.seqW ?_
  cases q : cells.getLast? with
  | none =>
    have e : cells = [] := by simpa using q
    subst e
    refine WS.ifF (by simp; exact rfl) (WS.nx ?_)
    dsimp only
    refine WS.seq (by simp (disch := omega); exact rfl) ?_
    refine WS.seq (by simp (disch := omega); exact rfl) ?_
    refine WS.seq (by simp (disch := omega); exact rfl) ?_
    refine WS.end (by simp (disch := omega); exact rfl) ⟨_, _, by simp; exact rfl, _, rfl, ?_, ?_, ?_⟩
    · exact Int.emod_nonneg _ (by omega)
    · exact Int.emod_lt_of_pos _ (by omega)
    · constructor <;> simp <;> omega
  | some c =>
    have e : cells.isEmpty = false := by cases cells with
      | nil => simp at q
      | cons => rfl
    refine WS.ifT (by simp [e]; exact rfl) ?_
    refine WS.seq (by simp (disch := omega) [q]; exact rfl) ?_
    refine WS.seqW (WS.ifB (by simp (disch := omega); exact rfl) ?_ ?_)
    · intro hc
      refine WS.seq (by simp (disch := omega); rw [if_pos (by omega)]; exact rfl) ?_
      refine WS.end (by simp (disch := omega); exact rfl) ?_
      refine ⟨_, _, by simp; exact rfl, _, rfl, ?_, ?_, ?_⟩
      · exact Int.emod_nonneg _ (by omega)
      · exact Int.emod_lt_of_pos _ (by omega)
      · have : cells.length ≠ 0 := by rintro h; simp [List.length_eq_zero_iff.mp h] at e
        constructor <;> simp <;> omega
    · intro hc
      refine WS.nx ?_
      dsimp only
      refine WS.end (by simp (disch := omega); exact rfl) ?_
      dsimp only
      have b1 : 0 ≤ c % 2147483629 ∧ c % 2147483629 < 2147483629 := ⟨Int.emod_nonneg _ (by omega), Int.emod_lt_of_pos _ (by omega)⟩
      refine WS.seq (by simp (disch := omega); exact rfl) ?_
      refine WS.seq (by simp (disch := omega); exact rfl) ?_
      refine WS.seq (by simp (disch := omega); exact rfl) ?_
      refine WS.end (by simp (disch := omega); exact rfl) ⟨_, _, by simp; exact rfl, _, rfl, ?_, ?_, ?_⟩
      · exact Int.emod_nonneg _ (by omega)
      · exact Int.emod_lt_of_pos _ (by omega)
      · constructor <;> simp <;> omega
theorem pick_ok (st : Dn.Deck) (n : Int) (ds : List PyData) (h : DeckOk true n st) (hn : n ≤ 1000000) (h1 : ds ≠ []) (h2 : ds.length ≤ 1000) :
    ∃ s st', g_l_pick st [.tuple ds] = some (s, st') ∧ ∃ d, s = .sh d ∧ d ∈ ds ∧ DeckOk true (n + 1) st' := by
  have hl : 1 ≤ ds.length := by cases ds with
    | nil => exact absurd rfl h1
    | cons => simp
  obtain ⟨s, st', e, r, rfl, r0, r1, hd⟩ := draw_ok st n ds.length h hn (by omega) (by omega)
  obtain ⟨d, e1, e2⟩ := atI_of r0 r1
  refine bodyK_of rfl (WS.end (by simp [d_l_pick, startK, e, e2]; exact rfl) ?_)
  exact ⟨_, _, by simp; exact rfl, d, rfl, List.mem_of_getElem? e1, hd⟩
theorem pickl_ok (st : Dn.Deck) (n : Int) (ns : List Int) (h : DeckOk true n st) (hn : n ≤ 1000000) (h1 : ns ≠ []) (h2 : ns.length ≤ 1000) :
    ∃ s st', g_l_pick st [.list (ns.map PyData.int)] = some (s, st') ∧ ∃ d, s = .sh (.int d) ∧ d ∈ ns ∧ DeckOk true (n + 1) st' := by
  have hl : 1 ≤ (ns.map PyData.int).length := by cases ns with
    | nil => exact absurd rfl h1
    | cons => simp
  have hl2 : (ns.map PyData.int).length ≤ 1000 := by rw [List.length_map]; exact h2
  obtain ⟨s, st', e, r, rfl, r0, r1, hd⟩ := draw_ok st n (ns.map PyData.int).length h hn (by omega) (by omega)
  obtain ⟨d, e1, e2⟩ := atI_of r0 r1
  rw [List.getElem?_map] at e1
  obtain ⟨d', e3, rfl⟩ := Option.map_eq_some_iff.mp e1
  rw [List.length_map] at e
  refine bodyK_of rfl (WS.end (by simp [d_l_pick, startK, e, e2]; exact rfl) ?_)
  exact ⟨_, _, by simp; exact rfl, d', rfl, List.mem_of_getElem? e3, hd⟩
/-! numbers: pairs of ints -/
def pr (p : Int × Int) : PyData := .tuple [.int p.1, .int p.2]
theorem atI_pr0 {a b : PyData} : atI [a, b] 0 = some a := rfl
theorem atI_pr1 {a b : PyData} : atI [a, b] 1 = some b := rfl
def normO (t b : Int) : Option (Int × Int) :=
  (fdivO t (if b < 0 then -((Nat.gcd t.natAbs b.natAbs : Nat) : Int) else ((Nat.gcd t.natAbs b.natAbs : Nat) : Int))).bind fun x =>
  (fdivO b (if b < 0 then -((Nat.gcd t.natAbs b.natAbs : Nat) : Int) else ((Nat.gcd t.natAbs b.natAbs : Nat) : Int))).bind fun y => some (x, y)
theorem v_normal {t b : Int} {r : Int × Int} (h : normO t b = some r) : g_normal [.int t, .int b] = some (.sh (pr r)) := by
  unfold normO at h
  obtain ⟨x, h1, h⟩ := Option.bind_eq_some_iff.mp h
  obtain ⟨y, h2, h⟩ := Option.bind_eq_some_iff.mp h
  cases h
  refine bodyG_eq rfl ?_
  refine WS.seq (by simp [startE]; exact rfl) ?_
  by_cases hb : b < 0
  · rw [if_pos hb] at h1 h2
    refine WS.seqW (WS.ifT (by simp [hb]; exact rfl) ?_)
    refine WS.end (by simp; exact rfl) ?_
    refine WS.end (by simp [gFdiv_O, h1, h2]; exact rfl) ?_
    exact rfl
  · rw [if_neg hb] at h1 h2
    refine WS.seqW (WS.ifF (by simp [hb]; exact rfl) (WS.nx ?_))
    refine WS.end (by simp [gFdiv_O, h1, h2]; exact rfl) ?_
    exact rfl
def nsumO (a b : Int × Int) : Option (Int × Int) := (mulO a.1 b.2).bind fun x => (mulO b.1 a.2).bind fun y => (mulO a.2 b.2).bind fun z => normO (x + y) z
def nprodO (a b : Int × Int) : Option (Int × Int) := (mulO a.1 b.1).bind fun x => (mulO a.2 b.2).bind fun z => normO x z
theorem mulS_of {a b x : Int} (h : mulO a b = some x) : mulS (.int a) (.int b) = some (.sh (.int x)) := by rw [mulS_O, h]; rfl
theorem flat_pr (p : Int × Int) : flatD (pr p) = true := rfl
theorem v_number_sum {a b r : Int × Int} (h : nsumO a b = some r) : g_number_sum [pr a, pr b] = some (.sh (pr r)) := by
  unfold nsumO at h
  obtain ⟨x, h1, h⟩ := Option.bind_eq_some_iff.mp h
  obtain ⟨y, h2, h⟩ := Option.bind_eq_some_iff.mp h
  obtain ⟨z, h3, h⟩ := Option.bind_eq_some_iff.mp h
  refine bodyG_eq rfl (WS.end (by simp [startE, d_number_sum, pr, atI_pr0, atI_pr1, mulS_of h1, mulS_of h2, mulS_of h3, v_normal h]; exact rfl) ?_)
  exact rfl
theorem v_number_product {a b r : Int × Int} (h : nprodO a b = some r) : g_number_product [pr a, pr b] = some (.sh (pr r)) := by
  unfold nprodO at h
  obtain ⟨x, h1, h⟩ := Option.bind_eq_some_iff.mp h
  obtain ⟨z, h3, h⟩ := Option.bind_eq_some_iff.mp h
  refine bodyG_eq rfl (WS.end (by simp [startE, d_number_product, pr, atI_pr0, atI_pr1, mulS_of h1, mulS_of h3, v_normal h]; exact rfl) ?_)
  exact rfl
/-! powers -/
theorem log2_pow {b : Int} (hb : b.natAbs < 65536) (i : Nat) : (b ^ i).natAbs.log2 ≤ 16 * i := by
  rw [Int.natAbs_pow]
  by_cases z : b.natAbs ^ i = 0
  · rw [z]; simp
  · have h1 : b.natAbs ^ i ≤ 65536 ^ i := Nat.pow_le_pow_left (by omega) i
    have h2 : (65536 : Nat) ^ i = 2 ^ (16 * i) := by rw [Nat.pow_mul]
    have h3 : b.natAbs ^ i < 2 ^ (16 * i + 1) := by
      rw [h2] at h1
      exact Nat.lt_of_le_of_lt h1 (Nat.pow_lt_pow_right (by decide) (by omega))
    have := (Nat.log2_lt z).mpr h3
    omega
theorem mulS_pow {b : Int} (hb : b.natAbs < 65536) {i j : Nat} (h : i + j < 60000) : mulS (.int (b ^ i)) (.int (b ^ j)) = some (.sh (.int (b ^ (i + j)))) := by
  have h1 := log2_pow hb i
  have h2 := log2_pow hb j
  show (if _ then _ else _) = _
  rw [if_pos (by omega), Int.pow_add]
theorem v_power {b : Int} {n : Nat} (hb : b.natAbs < 65536) (hn : n < 10000) : g_power_of [.int b, .int n] = some (.sh (.int (b ^ n))) := by
  refine bodyG_eq rfl ?_
  refine WS.seq (by simp [startE]; exact rfl) ?_
  refine WS.seqW ?_
  refine WS.whileM (t := t1_power_of) (f := w2_power_of) (fun ρ => ∃ i j m : Nat, ρ = [some (.sh (.int b)), some (.sh (.int m)), some (.sh (.int (b ^ i))), some (.sh (.int (b ^ j)))] ∧ i + j * m = n ∧ (0 < m → j ≤ n) ∧ j ≤ 2 * n + 1 ∧ i ≤ n ∧ m ≤ n)
    (fun ρ => match ρ with | [_, some (.sh (.int y)), _, _] => y.toNat | _ => 0) ⟨0, 1, n, by rw [show b ^ 1 = b by rw [Int.pow_succ, Int.pow_zero, Int.one_mul], Int.pow_zero], by omega, by omega, by omega, by omega, Nat.le_refl n⟩ ?_ ?_
  · rintro ρ ⟨i, j, m, rfl, h1, h2, h3, h4, h5⟩
    simp; omega
  · rintro ρ ⟨i, j, m, rfl, h1, h2, h3, h4, h5⟩
    refine ⟨_, _, Gv.eq (by simp [t1_power_of]; exact rfl), fun hm => ?_, fun hm => ?_⟩
    · have hm' : 0 < m := by simpa using hm
      have hj := h2 hm'
      refine WS.seq (ρ' := [some (.sh (.int b)), some (.sh (.int m)), some (.sh (.int (b ^ (if m % 2 = 1 then i + j else i)))), some (.sh (.int (b ^ j)))]) ?_ ?_
      · by_cases hp : m % 2 = 1
        · have e : (m : Int) % 2 = 1 := by omega
          simp [e, hp, mulS_pow hb (show i + j < 60000 by omega)]
          exact rfl
        · have e : ¬ (m : Int) % 2 = 1 := by omega
          simp [e, hp]
          exact rfl
      · refine WS.seq (by simp [mulS_pow hb (show j + j < 60000 by omega)]; exact rfl) ?_
        refine WS.end (by simp (disch := omega); exact rfl) ?_
        refine ⟨⟨_, j + j, m / 2, by simp; exact rfl, ?_, ?_, by omega, ?_, by omega⟩, by simp; omega⟩
        · have e2 : (j + j) * (m / 2) = j * (2 * (m / 2)) := by rw [← Nat.mul_two j, Nat.mul_assoc]
          rw [e2]
          split
          · have e3 : m = 2 * (m / 2) + 1 := by omega
            have e4 : j * m = j * (2 * (m / 2)) + j := by
              conv => lhs; rw [e3]
              rw [Nat.mul_add, Nat.mul_one]
            omega
          · have e3 : m = 2 * (m / 2) := by omega
            rw [← e3]; exact h1
        · intro h0
          have := Nat.le_mul_of_pos_right (j + j) h0
          have e2 : (j + j) * (m / 2) = j * (2 * (m / 2)) := by rw [← Nat.mul_two j, Nat.mul_assoc]
          have e3 : j * (2 * (m / 2)) ≤ j * m := Nat.mul_le_mul_left j (by omega)
          omega
        · split
          · have := Nat.le_mul_of_pos_right j hm'
            omega
          · exact h4
    · have hm' : m = 0 := by simp at hm; omega
      subst hm'
      refine WS.end (by simp; exact rfl) ?_
      simp at h1
      subst h1
      exact rfl
/-! Bernoulli's numbers -/
def firstStep (index : Int) (total : Int × Int) (p : (Int × Int) × Nat) : Option (Int × Int) := (combO (index + 1) (p.2 : Int)).bind fun c => (mulO c p.1.1).bind fun x => nsumO total (x, p.1.2)
def firstNext (fs : List (Int × Int)) (index : Int) : Option (List (Int × Int)) := if fs.length < 1000 then (fs.zipIdx.foldlM (firstStep index) (0, 1)).bind fun tot => (mulO tot.2 (index + 1)).bind fun m => (normO (-tot.1) m).map fun r => fs ++ [r] else none
def firstO (k : Int) : Option (List (Int × Int)) := (nums 1 k.toNat).foldlM firstNext [(1, 1)]
theorem v_first {k : Int} {fs : List (Int × Int)} (hk : 0 ≤ k) (hk2 : k ≤ 1000) (h : firstO k = some fs) : g_first_numbers [.int k] = some (.ls (fs.map pr)) := by
  obtain ⟨ρ', h1, o2, o3, o4, o5, rfl⟩ := for_foldM (tg := nameG 2) (f := w2_first_numbers) (inj := PyData.int) (xs := nums 1 k.toNat) (step := firstNext) (E := fun fs ρ => ∃ o2 o3 o4 o5, ρ = [some (.sh (.int k)), some (.ls (fs.map pr)), o2, o3, o4, o5]) (b := [(1, 1)])
    (ρ := [some (.sh (.int k)), some (.ls [.tuple [.int 1, .int 1]]), none, none, none, none]) ⟨_, _, _, _, rfl⟩ (by
    rintro fs ix ρ hx ⟨o2, o3, o4, o5, rfl⟩
    refine ⟨_, rfl, ?_⟩
    cases e : firstNext fs ix with
    | none => trivial
    | some fs' =>
      dsimp only
      unfold firstNext at e
      split at e
      · rename_i hl
        obtain ⟨tot, e1, e⟩ := Option.bind_eq_some_iff.mp e
        obtain ⟨m, e2, e⟩ := Option.bind_eq_some_iff.mp e
        obtain ⟨r, e3, rfl⟩ := Option.map_eq_some_iff.mp e
        obtain ⟨ρ2, h2, o6, o7, rfl⟩ := live_foldM (i := 1) (tg := tupG (consG 4 (consG 5 nilG))) (f := w1_first_numbers) (inj := pr) (xs := fs) (step := firstStep ix)
          (E := fun tot ρ => ∃ o6 o7, ρ = [some (.sh (.int k)), some (.ls (fs.map pr)), some (.sh (.int ix)), some (.sh (pr tot)), o6, o7]) (by rintro b ρ ⟨o6, o7, rfl⟩; rfl)
          (by
            rintro tot p n ρ hp ⟨o6, o7, rfl⟩
            refine ⟨_, rfl, ?_⟩
            cases e4 : firstStep ix tot (p, n) with
            | none => trivial
            | some t' =>
              dsimp only
              unfold firstStep at e4
              obtain ⟨c, c1, e4⟩ := Option.bind_eq_some_iff.mp e4
              obtain ⟨x, c2, e4⟩ := Option.bind_eq_some_iff.mp e4
              have c3 := v_number_sum e4
              refine ⟨[some (.sh (.int k)), some (.ls (fs.map pr)), some (.sh (.int ix)), some (.sh (pr t')), some (.sh (.int (n : Nat))), some (.sh (pr p))], Gv.eq ?_, _, _, rfl⟩
              simp only [pr] at c3 ⊢
              simp [w1_first_numbers, gComb_O, c1, atI_pr0, atI_pr1, mulS_of c2, c3]
              exact rfl) (ρ := [some (.sh (.int k)), some (.ls (fs.map pr)), some (.sh (.int ix)), some (.sh (.tuple [.int 0, .int 1])), o4, o5]) ⟨_, _, rfl⟩ e1
        have c4 := v_normal e3
        refine ⟨[some (.sh (.int k)), some (.ls (fs.map pr ++ [pr r])), some (.sh (.int ix)), some (.sh (pr tot)), o6, o7], Gv.eq ?_, _, _, _, _, by rw [List.map_append]; rfl⟩
        unfold w2_first_numbers
        simp only [ev_seqS]
        rw [show asgS 3 (tupE (consA (cst (.int 0)) (consA (cst (.int 1)) nilA))) ([some (.sh (.int k)), some (.ls (fs.map pr)), o2, o3, o4, o5].set 2 (some (.sh (.int ix)))) = some (.nx [some (.sh (.int k)), some (.ls (fs.map pr)), some (.sh (.int ix)), some (.sh (.tuple [.int 0, .int 1])), o4, o5]) from rfl, Option.bind_some]
        simp only [h2, Option.bind_some]
        simp only [pr] at c4 ⊢
        simp [atI_pr0, atI_pr1, mulS_of e2, c4]
        rw [if_pos (by omega)]
        exact rfl
      · cases e) h
  refine bodyG_eq rfl ?_
  refine WS.seq (by simp [startE]; exact rfl) ?_
  have e3 : (k + 1 - 1).toNat = k.toNat := by omega
  rw [← rngD_nums] at h1
  refine WS.seq (by simp (disch := omega) [e3, h1]; exact rfl) ?_
  refine WS.end (by simp; exact rfl) ?_
  exact rfl
def psum (chi : Int → Int) (size : Int) (j : Nat) : Int := (((nums 1 size.toNat).filter fun a => !decide (chi a = 0)).map fun a => chi a * a ^ j).sum
def bernStep (size k : Int) (sm : Nat → Int) (found : Int × Int) (p : (Int × Int) × Nat) : Option (Int × Int) :=
  if p.1.1 = 0 then some found else (combO k (p.2 : Int)).bind fun c => (mulO c (sm (k.toNat - p.2))).bind fun x => (mulO x (size ^ p.2)).bind fun y => (nprodO p.1 (y, size)).bind fun part => nsumO found part
theorem mulS_small {a b : Int} (ha : a.natAbs ≤ 1) (hb : b.natAbs.log2 < 900000) : mulS (.int a) (.int b) = some (.sh (.int (a * b))) := by
  have e : a.natAbs.log2 = 0 := by
    have : a.natAbs = 0 ∨ a.natAbs = 1 := by omega
    rcases this with h | h <;> rw [h] <;> decide
  show (if _ then _ else _) = _
  rw [if_pos (by omega)]
theorem flat_prs (fs : List (Int × Int)) : flatD.flatAll (fs.map pr) = true := by
  induction fs with
  | nil => rfl
  | cons x xs ih => rw [List.map_cons, flatAll_cons, ih]; rfl
theorem signed_step {k D size at0 c x y s pk : Int} {fd fd' num pt : Int × Int} {V : List PyData} {ns : List Int} {o4 o7 o8 : Option S} (ho : o4 = some (.ls V) ∨ o4 = some (.sh (.list V))) (h0 : ¬ num.1 = 0)
    (e2 : lcK [9, 10] (tupG (consG 9 (consG 10 nilG))) t2_signed_number e3_signed_number V [some (.sh (.int k)), some (.sh (.int D)), some (.sh (.int size)), some (.sh (pr fd)), some (.sh (.list V)), some (.sh (.int at0)), some (.sh (pr num)), o7, o8, none, none] = some (.ls (ns.map PyData.int), [some (.sh (.int k)), some (.sh (.int D)), some (.sh (.int size)), some (.sh (pr fd)), some (.sh (.list V)), some (.sh (.int at0)), some (.sh (pr num)), o7, o8, none, none]))
    (e3 : ns.sum = s) (c1 : gComb [.int k, .int at0] = some (.sh (.int c))) (c2 : mulS (.int c) (.int s) = some (.sh (.int x))) (p3 : g_power_of [.int size, .int at0] = some (.sh (.int pk))) (c3 : mulS (.int x) (.int pk) = some (.sh (.int y)))
    (d4 : g_number_product [pr num, pr (y, size)] = some (.sh (pr pt))) (d5 : g_number_sum [pr fd, pr pt] = some (.sh (pr fd'))) :
    w4_signed_number [some (.sh (.int k)), some (.sh (.int D)), some (.sh (.int size)), some (.sh (pr fd)), o4, some (.sh (.int at0)), some (.sh (pr num)), o7, o8, none, none] =
      some (.nx [some (.sh (.int k)), some (.sh (.int D)), some (.sh (.int size)), some (.sh (pr fd')), some (.sh (.list V)), some (.sh (.int at0)), some (.sh (pr num)), some (.sh (.int s)), some (.sh (pr pt)), none, none]) := by
  unfold w4_signed_number
  simp only [pr] at d4 d5 e2 ⊢
  rcases ho with rfl | rfl <;> simp [atI_pr0, atI_pr1, h0, e2, e3, c1, c2, c3, p3, d4, d5]
theorem signed_vals (size k D : Int) (V : List PyData) (h : 1 ≤ size) (h2 : size ≤ 400) (e1 : lcK [9] (nameG 9) yesB e1_signed_number (rngD 1 size.toNat) [some (.sh (.int k)), some (.sh (.int D)), some (.sh (.int size)), some (.sh (.tuple [.int 0, .int 1])), none, none, none, none, none, none, none] = some (.ls V, [some (.sh (.int k)), some (.sh (.int D)), some (.sh (.int size)), some (.sh (.tuple [.int 0, .int 1])), none, none, none, none, none, none, none])) :
    Gv (asgS 4 (lcE [9] (rng2I (consA (cst (.int 1)) (consA (binE addS (nameE [9, 10] 2) (cst (.int 1))) nilA))) (nameG 9) yesB e1_signed_number) [some (.sh (.int k)), some (.sh (.int D)), some (.sh (.int size)), some (.sh (.tuple [.int 0, .int 1])), none, none, none, none, none, none, none]) (.nx [some (.sh (.int k)), some (.sh (.int D)), some (.sh (.int size)), some (.sh (.tuple [.int 0, .int 1])), some (.ls V), none, none, none, none, none, none]) := by
  have e4 : ∀ ρ : Dn.Env, rng2K 1 (size + 1) ρ = some (rngD 1 size.toNat, ρ) := fun ρ => rng1_at h (Int.le_trans h2 (by decide))
  simp [e4, e1]
  exact rfl
theorem v_signed {k D : Int} {chi : Int → Int} {sm : Nat → Int} {fs : List (Int × Int)} {r : Int × Int} (hk : 0 ≤ k) (hk2 : k ≤ 1000) (hD : D ≠ 0) (hD2 : D.natAbs ≤ 400) (hf : firstO k = some fs) (hl : fs.length = k.toNat + 1)
    (hv : ∀ a : Int, 1 ≤ a → a ≤ D.natAbs → g_value_of [.int D, .int a] = some (.sh (.int (chi a)))) (hc : ∀ a : Int, (chi a).natAbs ≤ 1)
    (hS : ∀ j : Nat, j ≤ k.toNat → psum chi (D.natAbs : Int) j = sm j) (h : fs.zipIdx.foldlM (bernStep (D.natAbs : Int) k sm) (0, 1) = some r) : g_signed_number [.int k, .int D] = some (.sh (pr r)) := by
  have esz : (if D < 0 then -D else D) = (D.natAbs : Int) := by split <;> omega
  generalize hz : (D.natAbs : Int) = size at *
  have hs1 : 1 ≤ size := by omega
  have hs2 : size ≤ 400 := by omega
  obtain ⟨V, hV⟩ : ∃ V : List PyData, V = (nums 1 size.toNat).map fun a => .tuple [.int a, .int (chi a)] := ⟨_, rfl⟩
  have e1 : lcK [9] (nameG 9) yesB e1_signed_number (rngD 1 size.toNat) [some (.sh (.int k)), some (.sh (.int D)), some (.sh (.int size)), some (.sh (.tuple [.int 0, .int 1])), none, none, none, none, none, none, none] = some (.ls V, [some (.sh (.int k)), some (.sh (.int D)), some (.sh (.int size)), some (.sh (.tuple [.int 0, .int 1])), none, none, none, none, none, none, none]) := by
    have q := lcK_rng (vs := [9]) (tg := nameG 9) (tt := yesB) (el := e1_signed_number) (ρ := [some (.sh (.int k)), some (.sh (.int D)), some (.sh (.int size)), some (.sh (.tuple [.int 0, .int 1])), none, none, none, none, none, none, none]) (e := fun a => .tuple [.int a, .int (chi a)]) (t := fun _ => true) (lo := 1) (n := size.toNat) rfl (by omega) (fun x l1 l2 => by
      have := hv x l1 (by omega)
      exact ⟨_, rfl, rfl, fun _ => ⟨_, by simp [e1_signed_number, this]; exact ⟨rfl, rfl⟩⟩, rfl⟩)
    rw [List.filter_eq_self.mpr (fun _ _ => rfl)] at q
    rw [hV]
    exact q
  obtain ⟨ρ', h1, o4, o5, o6, o7, o8, rfl, _⟩ := for_foldM (tg := tupG (consG 5 (consG 6 nilG))) (f := w4_signed_number) (inj := fun p : (Int × Int) × Nat => .tuple [.int ((p.2 : Nat) : Int), pr p.1]) (xs := fs.zipIdx) (step := bernStep size k sm)
    (E := fun fd ρ => ∃ o4 o5 o6 o7 o8, ρ = [some (.sh (.int k)), some (.sh (.int D)), some (.sh (.int size)), some (.sh (pr fd)), o4, o5, o6, o7, o8, none, none] ∧ (o4 = some (.ls V) ∨ o4 = some (.sh (.list V)))) (b := (0, 1))
    (ρ := [some (.sh (.int k)), some (.sh (.int D)), some (.sh (.int size)), some (.sh (.tuple [.int 0, .int 1])), some (.ls V), none, none, none, none, none, none]) ⟨_, _, _, _, _, rfl, .inl rfl⟩ (by
    rintro fd ⟨num, at0⟩ ρ hx ⟨o4, o5, o6, o7, o8, rfl, ho⟩
    have hat : at0 ≤ k.toNat := by
      have := (List.getElem?_eq_some_iff.mp (List.mem_zipIdx_iff_getElem?.mp hx)).1
      omega
    refine ⟨_, rfl, ?_⟩
    cases e : bernStep size k sm fd (num, at0) with
    | none => trivial
    | some fd' =>
      dsimp only
      unfold bernStep at e
      by_cases h0 : num.1 = 0
      · rw [if_pos h0] at e
        cases e
        exact ⟨_, Gv.eq (by unfold w4_signed_number; simp [pr, atI_pr0, h0]; exact rfl), _, _, _, _, _, rfl, ho⟩
      · rw [if_neg h0] at e
        obtain ⟨c, c1, e⟩ := Option.bind_eq_some_iff.mp e
        obtain ⟨x, c2, e⟩ := Option.bind_eq_some_iff.mp e
        obtain ⟨y, c3, e⟩ := Option.bind_eq_some_iff.mp e
        obtain ⟨pt, c4, e⟩ := Option.bind_eq_some_iff.mp e
        have d4 := v_number_product c4
        have d5 := v_number_sum e
        dsimp only at c1 c2 c3 d4
        have hsub : k - (at0 : Int) = ((k.toNat - at0 : Nat) : Int) := by omega
        have e2 : lcK [9, 10] (tupG (consG 9 (consG 10 nilG))) t2_signed_number e3_signed_number V [some (.sh (.int k)), some (.sh (.int D)), some (.sh (.int size)), some (.sh (pr fd)), some (.sh (.list V)), some (.sh (.int (at0 : Nat))), some (.sh (pr num)), o7, o8, none, none] = some (.ls ((((nums 1 size.toNat).filter fun a => !decide (chi a = 0)).map fun a => chi a * a ^ (k.toNat - at0)).map PyData.int), [some (.sh (.int k)), some (.sh (.int D)), some (.sh (.int size)), some (.sh (pr fd)), some (.sh (.list V)), some (.sh (.int (at0 : Nat))), some (.sh (pr num)), o7, o8, none, none]) := by
          rw [List.map_map]
          conv => lhs; arg 5; rw [hV]
          refine lcK_pure (inj := fun a => .tuple [.int a, .int (chi a)]) (e := PyData.int ∘ fun a => chi a * a ^ (k.toNat - at0)) (t := fun a => !decide (chi a = 0)) rfl (by rw [nums_length]; omega) fun a ha => ?_
          have ha := mem_nums.mp ha
          have p1 := v_power (b := a) (n := k.toNat - at0) (by omega) (by omega)
          have p2 := mulS_small (hc a) (show (a ^ (k.toNat - at0)).natAbs.log2 < 900000 by have := log2_pow (b := a) (by omega) (k.toNat - at0); omega)
          refine ⟨[some (.sh (.int k)), some (.sh (.int D)), some (.sh (.int size)), some (.sh (pr fd)), some (.sh (.list V)), some (.sh (.int (at0 : Nat))), some (.sh (pr num)), o7, o8, some (.sh (.int a)), some (.sh (.int (chi a)))], rfl, Gv.eq (by simp [t2_signed_number]; exact rfl), fun _ => ⟨_, by simp [e3_signed_number, hsub, p1, p2]; exact ⟨rfl, rfl⟩⟩, rfl⟩
        have e3 := hS (k.toNat - at0) (Nat.sub_le _ _)
        unfold psum at e3
        have p3 := v_power (b := size) (n := at0) (by omega) (by omega)
        refine ⟨[some (.sh (.int k)), some (.sh (.int D)), some (.sh (.int size)), some (.sh (pr fd')), some (.sh (.list V)), some (.sh (.int (at0 : Nat))), some (.sh (pr num)), some (.sh (.int (sm (k.toNat - at0)))), some (.sh (pr pt)), none, none], signed_step ho h0 e2 e3 (by rw [gComb_O, c1]; rfl) (mulS_of c2) p3 (mulS_of c3) d4 d5, _, _, _, _, _, rfl, .inr rfl⟩) h
  refine bodyG_eq rfl ?_
  refine WS.seq (by simp [startE, esz]; exact rfl) ?_
  refine WS.seq (signed_vals size k D V hs1 hs2 e1) ?_
  have hf' := v_first hk hk2 hf
  refine WS.seq (by simp [hf', flat_prs, enumD_map, h1]; exact rfl) ?_
  refine WS.end (by simp; exact rfl) ?_
  exact rfl
end K07
namespace K07
open PySem PyProof.Rows L2 Dn
/-! powers by loops, sums over Bernoulli's numbers -/
theorem mulS_powl {b c : Int} (hb : b.natAbs < 65536) {i : Nat} (hi : i < 10000) (hc : c.natAbs < 65536) : mulS (.int (b ^ i)) (.int c) = some (.sh (.int (b ^ i * c))) := by
  have h1 := log2_pow hb i
  have h2 : c.natAbs.log2 < 16 := log2_of (n := 16) hc (by decide)
  show (if _ then _ else _) = _
  rw [if_pos (by omega)]
theorem v_l_power {x : Int} {n : Nat} (hx : x.natAbs < 65536) (hn : n < 10000) : g_l_power [.int x, .int n] = some (.sh (.int (x ^ n))) := by
  obtain ⟨ρ', h, o3, rfl⟩ := for_rng (tg := nameG 3) (f := w1_l_power) (lo := 0) (n := n) (E := fun pre ρ => ∃ o3, ρ = [some (.sh (.int x)), some (.sh (.int n)), some (.sh (.int (x ^ pre.length))), o3]) (ρ := [some (.sh (.int x)), some (.sh (.int n)), some (.sh (.int 1)), none]) ⟨_, by simp; rfl⟩ (by
    rintro pre a ρ ha hl ⟨o3, rfl⟩
    refine ⟨_, _, rfl, .inl (Gv.eq (by simp [w1_l_power, mulS_powl hx (show pre.length < 10000 by omega) hx]; exact rfl)), ?_⟩
    rw [List.length_append, List.length_singleton, Int.pow_succ]
    exact ⟨_, rfl⟩)
  rw [nums_length] at h
  refine bodyG_eq rfl ?_
  refine WS.seq (by simp [startE]; exact rfl) ?_
  have e1 : rng1K (n : Int) [some (.sh (.int x)), some (.sh (.int n)), some (.sh (.int 1)), none] = some (rngD 0 n, [some (.sh (.int x)), some (.sh (.int n)), some (.sh (.int 1)), none]) := by
    rw [rng1K_ok (by omega) (by omega)]; rfl
  refine WS.seq (by simp [e1, h]; exact rfl) ?_
  refine WS.end (by simp; exact rfl) ?_
  exact rfl
def endStep (bs : List (Int × Int)) (k e : Int) (st : (Int × Int) × Int) (i : Int) : Option ((Int × Int) × Int) :=
  match bs[i.toNat]? with
  | none => none
  | some (t, b) => (mulO st.2 t).bind fun x => (mulO x ((e.toNat ^ (k - i).toNat : Nat) : Int)).bind fun share => (mulO st.1.1 b).bind fun y => (mulO share st.1.2).bind fun z => (mulO st.1.2 b).bind fun w => (mulO st.2 (k - i)).bind fun u => (fdivO u (i + 1)).bind fun v => some ((y + z, w), v)
def endO (bs : List (Int × Int)) (k e : Int) : Option ((Int × Int) × Int) := (nums 0 k.toNat).foldlM (endStep bs k e) ((0, 1), 1)
theorem v_l_end {bs : List (Int × Int)} {k e : Int} {r : (Int × Int) × Int} (hk : 0 ≤ k) (hk2 : k ≤ 1000) (he0 : 0 ≤ e) (he : e.natAbs < 65536) (h : endO bs k e = some r) : g_l_end [.list (bs.map pr), .int k, .int e] = some (.sh (pr r.1)) := by
  obtain ⟨ρ', h1, o5, o6, o7, o8, rfl⟩ := for_foldM (tg := nameG 5) (f := w1_l_end) (inj := PyData.int) (xs := nums 0 k.toNat) (step := endStep bs k e) (E := fun st ρ => ∃ o5 o6 o7 o8, ρ = [some (.sh (.list (bs.map pr))), some (.sh (.int k)), some (.sh (.int e)), some (.sh (pr st.1)), some (.sh (.int st.2)), o5, o6, o7, o8]) (b := ((0, 1), 1))
    (ρ := [some (.sh (.list (bs.map pr))), some (.sh (.int k)), some (.sh (.int e)), some (.sh (.tuple [.int 0, .int 1])), some (.sh (.int 1)), none, none, none, none]) ⟨_, _, _, _, rfl⟩ (by
    rintro ⟨tot, ways⟩ i ρ hi ⟨o5, o6, o7, o8, rfl⟩
    have hi := mem_nums.mp hi
    refine ⟨_, rfl, ?_⟩
    cases e1 : endStep bs k e (tot, ways) i with
    | none => trivial
    | some st' =>
      dsimp only
      unfold endStep at e1
      cases e2 : bs[i.toNat]? with
      | none => rw [e2] at e1; cases e1
      | some q =>
        obtain ⟨t, b⟩ := q
        rw [e2] at e1
        dsimp only at e1
        obtain ⟨x, c1, e1⟩ := Option.bind_eq_some_iff.mp e1
        obtain ⟨share, c2, e1⟩ := Option.bind_eq_some_iff.mp e1
        obtain ⟨y, c3, e1⟩ := Option.bind_eq_some_iff.mp e1
        obtain ⟨z, c4, e1⟩ := Option.bind_eq_some_iff.mp e1
        obtain ⟨w, c5, e1⟩ := Option.bind_eq_some_iff.mp e1
        obtain ⟨u, c6, e1⟩ := Option.bind_eq_some_iff.mp e1
        obtain ⟨v, c7, e1⟩ := Option.bind_eq_some_iff.mp e1
        cases e1
        have hb : i.toNat < bs.length := (List.getElem?_eq_some_iff.mp e2).1
        have a1 : atI (bs.map pr) i = some (pr (t, b)) := by
          obtain ⟨d, d1, d2⟩ := atI_of (xs := bs.map pr) (i := i) hi.1 (by rw [List.length_map]; omega)
          rw [List.getElem?_map, e2] at d1
          rw [d2, ← d1]; rfl
        have p1 : g_l_power [.int e, .int (k - i)] = some (.sh (.int ((e.toNat ^ (k - i).toNat : Nat) : Int))) := by
          have := v_l_power (x := e) (n := (k - i).toNat) he (by omega)
          rw [Int.toNat_of_nonneg (by omega)] at this
          rw [this, Int.natCast_pow, Int.toNat_of_nonneg he0]
        refine ⟨[some (.sh (.list (bs.map pr))), some (.sh (.int k)), some (.sh (.int e)), some (.sh (pr (y + z, w))), some (.sh (.int v)), some (.sh (.int i)), some (.sh (.int t)), some (.sh (.int b)), some (.sh (.int share))], Gv.eq ?_, _, _, _, _, rfl⟩
        simp only [pr] at a1 ⊢
        generalize ((e.toNat ^ (k - i).toNat : Nat) : Int) = pw at p1 c2
        simp [w1_l_end, a1, mulS_of c1, p1, mulS_of c2, mulS_of c3, mulS_of c4, mulS_of c5, mulS_of c6, gFdiv_O, c7, atI_pr0, atI_pr1]
        exact rfl) h
  rw [← rngD_nums] at h1
  refine bodyG_eq rfl ?_
  refine WS.seq (by simp [startE]; exact rfl) ?_
  have e1 : ∀ ρ : Dn.Env, rng1K k ρ = some (rngD 0 k.toNat, ρ) := fun ρ => rng1K_ok (by omega) (by omega)
  refine WS.seq (by simp [e1, h1]; exact rfl) ?_
  refine WS.end (by simp; exact rfl) ?_
  exact rfl
theorem v_l_is_equal {a : Int × Int} {w x : Int} (h : mulO w a.2 = some x) : g_l_is_equal [pr a, .int w] = some (.sh (.bool (decide (a.1 = x)))) := by
  simp [g_l_is_equal, bodyG, startE, d_l_is_equal, pr, atI_pr0, atI_pr1, mulS_of h]
/-- in lowest terms -/
theorem v_l_is_number {p : Int × Int} (hb : 1 ≤ p.2) (hb2 : p.2 ≤ 1000000000) (hg : Nat.gcd p.1.natAbs p.2.natAbs = 1) : g_l_is_number [pr p] = some (.sh (.bool true)) := by
  obtain ⟨t, b⟩ := p
  dsimp only at hb hb2 hg
  have e1 : lcK [3] (nameG 3) t1_l_is_number e2_l_is_number [.int t, .int b] [some (.sh (.tuple [.int t, .int b])), none, none, none] = some (.ls [], [some (.sh (.tuple [.int t, .int b])), none, none, none]) := rfl
  have e2 : eqS true (.list []) (.list []) = some (.sh (.bool false)) := rfl
  refine bodyG_eq rfl ?_
  refine WS.seqW (WS.ifF (by simp [startE, pr, e1, e2]; exact rfl) (WS.nx ?_))
  dsimp only
  refine WS.seq (by simp [atI_pr0, atI_pr1]; exact rfl) ?_
  refine WS.seqW ?_
  obtain ⟨b', rfl⟩ := Int.eq_ofNat_of_zero_le (show 0 ≤ b by omega)
  have e3 : (if t < 0 then -t else t) = ((t.natAbs : Nat) : Int) := by split <;> omega
  rw [e3]
  refine WS.whileM (t := t3_l_is_number) (f := w4_l_is_number) (fun ρ => ∃ x y : Nat, ρ = [some (.sh (.tuple [.int t, .int (b' : Nat)])), some (.sh (.int x)), some (.sh (.int y)), none] ∧ Nat.gcd x y = 1 ∧ y ≤ b')
    (fun ρ => match ρ with | [_, _, some (.sh (.int y)), _] => y.toNat | _ => 0) ⟨t.natAbs, b', rfl, hg, Nat.le_refl _⟩ ?_ ?_
  · rintro ρ ⟨x, y, rfl, _, _⟩
    simp; omega
  · rintro ρ ⟨x, y, rfl, h1, h2⟩
    refine ⟨_, _, Gv.eq (by simp [t3_l_is_number]; exact rfl), fun hy => ?_, fun hy => ?_⟩
    · have hy' : 0 < y := by simpa using hy
      refine WS.end (by simp (disch := omega) [w4_l_is_number]; exact rfl) ?_
      have : x % y < y := Nat.mod_lt _ hy'
      refine ⟨⟨y, x % y, by simp, ?_, by omega⟩, ?_⟩
      · rw [← h1, Nat.gcd_comm x y, Nat.gcd_rec y x, Nat.gcd_comm]
      · have : (x : Int) % y < y := Int.emod_lt_of_pos _ (by omega)
        simp; omega
    · have hy' : y = 0 := by simp at hy; omega
      subst hy'
      have hx : x = 1 := by simpa using h1
      subst hx
      have hb3 : (1 : Int) ≤ (b' : Nat) := hb
      refine WS.end (by simp [atI_pr1, hb3]; exact rfl) ?_
      exact rfl
end K07
namespace K07
open PySem PyProof.Rows L2 Dn
def tabF : List (Int × Int) := [(1, 1), (-1, 2), (1, 6), (0, 1), (-1, 30), (0, 1), (1, 42), (0, 1), (-1, 30), (0, 1), (5, 66), (0, 1), (-691, 2730), (0, 1), (7, 6), (0, 1), (-3617, 510), (0, 1), (43867, 798), (0, 1), (-174611, 330), (0, 1), (854513, 138), (0, 1), (-236364091, 2730)]
abbrev Row := Int × List Int × List Int × List (Int × Int)
def v0 : List Int := [0, 1, 0, 1, 0, -1, 0, 1, 0, 1, 0, 1, 0, 1, 0, -1, 0, 0, 0, -1, 0, 1, 0, 1, 0, 1, 0, 1, 0, -1, 0, 1, 0, 1, 0, -1, 0, -1, 0, 1, 0, -1, 0, -1, 0, -1, 0, -1, 0, 1, 0, 0, 0, 1, 0, -1, 0, -1, 0, -1, 0, -1, 0, 1, 0, -1, 0, -1, 0]
def s0 : List Int := [0, -272, -18496, -1127984, -67880320, -4110926672, -251667507136, -15574983319664, -973185081368320, -61304229072520592, -3888117572591622976, -248013616995611847344, -15897619407174402133120, -1023346482106879194613712, -66118207464171974624142016, -4285923621699889983083255024, -278638486049237195005458910720, -18162759111864963369988294806032, -1186735163512386512027191271112256, -77706414763036559336925255472422704, -5098012059656973944317702997400757120, -335045679661144810937720574498463337552, -22054231520314846787182488885059600821696, -1453773406577859959955074783100763755350384, -95952559741249545612094154731396736694488320]
def b0 : List (Int × Int) := [(0, 1), (-4, 1), (0, 1), (1908, 1), (0, 1), (-4337940, 1), (0, 1), (21266842212, 1), (0, 1), (-179275864306212, 1), (0, 1), (2309687309370531156, 1), (0, 1), (-42202065215696124207924, 1), (0, 1), (1038032248452207698242435140, 1), (0, 1), (-33070275410450407439970193220676, 1), (0, 1), (1324713626075313576130724329743725364, 1), (0, 1), (-65167248159331761616402706357921298634068, 1), (0, 1), (3862228709175050589480090500749083319083413028, 1), (0, 1)]
def v1 : List Int := [0, 1, -1, -1, 1, -1, 1, -1, -1, 1, 1, -1, -1, -1, 1, 1, 1, 1, -1, 1, -1, 1, 1, 1, 1, 1, 1, -1, -1, 1, -1, -1, -1, 1, -1, 1, 1, 1, -1, 1, 1, -1, -1, -1, -1, -1, -1, 1, -1, 1, -1, -1, -1, -1, 1, 1, 1, -1, -1, 1, 1, -1, 1, -1, 1, 1, -1, 0]
def s1 : List Int := [0, -67, -4489, -199861, -6630253, -101756317, 8725803491, 1239260017859, 108289783343747, 8086725819690563, 558603014584431971, 36832692947611290179, 2354173342050165383747, 147074454076091203135043, 9023242509776129762390051, 545006064640976884145324099, 32440708405761762114323327747, 1902565292899984166608983341123, 109784320678133201297459735253731, 6215295993347949209308329972823619, 343546159030169141560375089051383747, 18387410357988132906062329231767732803, 939018699104143033790891627420928879011, 44435151070963239751656262496131926172739, 1813823121583220778055703171002028444399747]
def b1 : List (Int × Int) := [(0, 1), (-1, 1), (0, 1), (1506, 1), (0, 1), (-3902410, 1), (0, 1), (19147112194, 1), (0, 1), (-157739454613458, 1), (0, 1), (1975959884119733402, 1), (0, 1), (-35063379577467215039546, 1), (0, 1), (837342118526195766846897330, 1), (0, 1), (-25898324998905931102028056967074, 1), (0, 1), (1007140682676420826643722891387512778, 1), (0, 1), (-48098321394281664934657362799096886162442, 1), (0, 1), (2767390596393548926023640610927742345639896546, 1), (0, 1)]
def v2 : List Int := [0, 1, -1, 1, 1, 1, -1, 1, -1, 1, -1, -1, 1, -1, -1, 1, 1, 1, -1, 1, 1, 1, 1, -1, -1, 1, 1, 1, 1, 1, -1, -1, -1, -1, -1, 1, 1, -1, -1, -1, -1, 1, -1, -1, -1, 1, 1, -1, 1, 1, -1, 1, -1, 1, -1, -1, -1, 1, -1, 0]
def s2 : List Int := [0, -177, -10443, -544983, -27955911, -1450244367, -76677737943, -4130171652063, -225876360938871, -12494148545452047, -696678714779254743, -39061067509234039743, -2198124919243379720631, -123999089478846050946927, -7006274517633709065694743, -396306920845437091370101023, -22434323854111285116127699191, -1270721938787539601740392269007, -72011502374721949088627582777943, -4082714558459009848481935383819903, -231573632321484369841890172432042551, -13140994657814183328391198754783818287, -746066208036823928521011242740724744343, -42378897194388606400220118162188216380383, -2408566865281222577915128678449853024398711]
def b2 : List (Int × Int) := [(0, 1), (-3, 1), (0, 1), (1206, 1), (0, 1), (-2221950, 1), (0, 1), (8386185654, 1), (0, 1), (-53529255858870, 1), (0, 1), (519928637186442462, 1), (0, 1), (-7154337609977779895310, 1), (0, 1), (132486774539565585198647430, 1), (0, 1), (-3177573689173105431911096564070, 1), (0, 1), (95822722427917065613668964711987758, 1), (0, 1), (-3548646208364806151795511772004255989950, 1), (0, 1), (158327976765494681103693781326272803478450646, 1), (0, 1)]
def v3 : List Int := [0, 1, 0, 1, 0, 1, 0, 0, 0, 1, 0, -1, 0, 1, 0, 1, 0, -1, 0, 1, 0, 0, 0, 1, 0, 1, 0, 1, 0, -1, 0, -1, 0, -1, 0, 0, 0, -1, 0, 1, 0, -1, 0, -1, 0, 1, 0, -1, 0, 0, 0, -1, 0, -1, 0, -1, 0]
def s3 : List Int := [0, -224, -12544, -635936, -31886848, -1608942944, -81991485184, -4218494196896, -218824331987968, -11426818730369504, -599900301832916224, -31630541561304071456, -1673645561340749183488, -88815630390603296020064, -4724845557993389441745664, -251888362701411176853427616, -13453487876717966029563025408, -719742032433258960249184166624, -38562143899841963321922828085504, -2068847655118570505048210782201376, -111129610003273109770522184646665728, -5976180221161253800791366693194041184, -321717651642741227602337237856616447744, -17336156135402507592866356844192330968736, -935040885788706809446822940580191692776448]
def b3 : List (Int × Int) := [(0, 1), (-4, 1), (0, 1), (1188, 1), (0, 1), (-1811700, 1), (0, 1), (6020433972, 1), (0, 1), (-34418721173220, 1), (0, 1), (300734952171829956, 1), (0, 1), (-3726684557177724859860, 1), (0, 1), (62166727053652291234169940, 1), (0, 1), (-1343207777164207373475599700420, 1), (0, 1), (36490987658665251089899854485277924, 1), (0, 1), (-1217450256236095083518573144021341739700, 1), (0, 1), (48934827251590167222757760033522002635553908, 1), (0, 1)]
def v4 : List Int := [0, 1, 1, -1, 1, 0, -1, 1, 1, 1, 0, 0, -1, 1, 1, 0, 1, 1, 1, -1, 0, -1, 0, -1, -1, 0, 1, -1, 1, -1, 0, 1, 1, 0, 1, 0, 1, -1, -1, -1, 0, -1, -1, 1, 0, 0, -1, -1, -1, 1, 0, -1, 1, -1, -1, 0]
def s4 : List Int := [0, -220, -12100, -599500, -29342500, -1441683100, -71336336500, -3556995953500, -178722491282500, -9046579644073180, -461122315465124500, -23656122610978577500, -1220699129015603462500, -63320588068799319498460, -3299835058194840435282100, -172665715172340618366737500, -9066996082368977295992762500, -477600175876492036070466846940, -25225108456514474614977984985300, -1335411521913968232439212005009500, -70839743532776267919971424850862500, -3764462373559698053303469993539366620, -200351794835371727264819253678543930100, -10677307235968788426211466171784688529500, -569684308970756656480863861312291798242500]
def b4 : List (Int × Int) := [(0, 1), (-4, 1), (0, 1), (1200, 1), (0, 1), (-1709920, 1), (0, 1), (5392214800, 1), (0, 1), (-29585852093376, 1), (0, 1), (249014742602846000, 1), (0, 1), (-2975489262447878557472, 1), (0, 1), (47874450547803834395538000, 1), (0, 1), (-997765390398249623933136423808, 1), (0, 1), (26146749232979071166682854804134000, 1), (0, 1), (-841457166242131487532298673007954165984, 1), (0, 1), (32624811964588279544921424652752603836877200, 1), (0, 1)]
def v5 : List Int := [0, 1, 0, -1, 0, -1, 0, 1, 0, 1, 0, 1, 0, 0, 0, 1, 0, 1, 0, 1, 0, -1, 0, -1, 0, 1, 0, -1, 0, 1, 0, 1, 0, -1, 0, -1, 0, -1, 0, 0, 0, -1, 0, -1, 0, -1, 0, 1, 0, 1, 0, -1, 0]
def s5 : List Int := [0, -104, -5408, -234104, -9723584, -402673544, -16856254688, -717996617624, -31248794754944, -1393442215963304, -63754047709777568, -2992802554455439544, -143937690325038768704, -7074218433795193131464, -354135288520293009393248, -17993935012838890324667864, -924893675147349597710468864, -47948426462466367183003682024, -2500880879844258582355063197728, -130973085371819966544850268622584, -6876557743041183490033475847679424, -361538734519003404580461483255038984, -19017844231580272424279806696631127008, -1000282435414762131484321996071832263704, -52583645777722957044572150087125531424384]
def b5 : List (Int × Int) := [(0, 1), (-2, 1), (0, 1), (906, 1), (0, 1), (-1286570, 1), (0, 1), (3715520354, 1), (0, 1), (-18330755254866, 1), (0, 1), (138114669861371962, 1), (0, 1), (-1475752562763067867642, 1), (0, 1), (21226580343124927647462930, 1), (0, 1), (-395453947710855078800684404898, 1), (0, 1), (9263369228708637641382766772302058, 1), (0, 1), (-266480366035364384970116314669361282634, 1), (0, 1), (9235548294344777460489946837509572320766146, 1), (0, 1)]
def v6 : List Int := [0, 1, -1, 0, 1, 1, 0, -1, -1, 0, -1, 1, 0, 1, 1, 0, 1, 0, 0, 1, 1, 0, -1, 1, 0, 1, -1, 0, -1, 1, 0, -1, -1, 0, 0, -1, 0, -1, -1, 0, -1, 1, 0, 1, 1, 0, -1, -1, 0, 1, -1, 0]
def s6 : List Int := [0, -102, -5202, -224298, -9347994, -393119322, -16958213082, -753659868378, -34446366165114, -1611853500635802, -76817502952817562, -3710770669495604058, -180980172572265378234, -8885090627755569389082, -438143613470922967143642, -21669041703179240401477338, -1073716217277431825729967354, -53269315671859636467664203162, -2644970263769533330241068151322, -131405006330859143506308148720218, -6531164571112256153348398206012474, -324734776867564744351026118755702042, -16151696849715494265516401124487840602, -803641135617758577255514812967061044698, -40000972210551996104233901860537276233594]
def b6 : List (Int × Int) := [(0, 1), (-2, 1), (0, 1), (804, 1), (0, 1), (-1148500, 1), (0, 1), (3251119396, 1), (0, 1), (-15512204369700, 1), (0, 1), (112585383984517268, 1), (0, 1), (-1157567203517625566900, 1), (0, 1), (16017173555389493198825220, 1), (0, 1), (-287041929666053750948394808900, 1), (0, 1), (6467769701366570843236905700065652, 1), (0, 1), (-178971993135071046189576372951314092500, 1), (0, 1), (5966454901902440496802968695006901458644964, 1), (0, 1)]
def v7 : List Int := [0, 1, 1, 1, 1, -1, 1, 1, 1, 1, -1, -1, 1, -1, 1, -1, 1, 1, 1, -1, -1, 1, -1, -1, 1, 1, -1, 1, 1, -1, -1, -1, 1, -1, 1, -1, 1, 1, -1, -1, -1, -1, 1, -1, -1, -1, -1, 0]
def s7 : List Int := [0, -235, -11045, -478507, -20581253, -887645995, -38446153925, -1672179600907, -73006772183813, -3198276222453355, -140534684568091205, -6192017196843759307, -273495216693704727173, -12107140488786939785515, -537064766737262824274885, -23869016730937935413261707, -1062681152612602091902883333, -47388866390083250783246826475, -2116431080508548838757108080965, -94654304004999133829068488236107, -4238798143969709856960282160764293, -190051916147613488512617100694040235, -8530861976676227523073291664401525445, -383328808841262647653081965705472330507, -17241584033934774152451516218674836642053]
def b7 : List (Int × Int) := [(0, 1), (-5, 1), (0, 1), (864, 1), (0, 1), (-849600, 1), (0, 1), (1942841376, 1), (0, 1), (-7778160846720, 1), (0, 1), (47802347278712928, 1), (0, 1), (-417108017082042861120, 1), (0, 1), (4900764184133689752757920, 1), (0, 1), (-74586241229632082245409068800, 1), (0, 1), (1427310033057428693339762440381152, 1), (0, 1), (-33543082207643467524681295316501645760, 1), (0, 1), (44636194892016539926938526985580173485256928, 47), (0, 1)]
def v8 : List Int := [0, 1, -1, -1, 1, -1, 1, -1, -1, 1, 1, 1, -1, 1, 1, 1, 1, 1, -1, -1, -1, 1, -1, 1, 1, 1, -1, -1, -1, -1, -1, 1, -1, -1, -1, 1, 1, -1, 1, -1, 1, 1, -1, 0]
def s8 : List Int := [0, -43, -1849, -58093, -1577197, -37834453, -750732829, -8453804773, 234282846083, 23126272953707, 1189939005406691, 49256264602783547, 1753643902383776963, 52377157916844761867, 1085241342559496799011, -7058518907482850724133, -2650068864675795415970557, -213168402613578314772549973, -13271411992032178052665619869, -737965793188075918539103975813, -38474615220577882261110040972477, -1923816999961392739973779531621813, -93417006935199742164777081107193949, -4438963830930254837964703995593259493, -207451710927016859279036636915205404797]
def b8 : List (Int × Int) := [(0, 1), (-1, 1), (0, 1), (498, 1), (0, 1), (-530410, 1), (0, 1), (1071919282, 1), (0, 1), (-3637360823058, 1), (0, 1), (18767718403608746, 1), (0, 1), (-137174831106986574746, 1), (0, 1), (1349307404531343227718690, 1), (0, 1), (-17189646634603346225758026274, 1), (0, 1), (275342161606278234947103602722714, 1), (0, 1), (-232899340950668002067594970719781285006, 43), (0, 1), (128359391804187208491481656572724559174418, 1), (0, 1)]
def v9 : List Int := [0, 1, 0, -1, 0, 0, 0, 1, 0, 1, 0, 1, 0, 1, 0, 0, 0, -1, 0, 1, 0, -1, 0, 1, 0, 0, 0, -1, 0, -1, 0, -1, 0, -1, 0, 0, 0, 1, 0, -1, 0]
def s9 : List Int := [0, -80, -3200, -109040, -3603200, -119488400, -4021808000, -137965306160, -4829930585600, -172526108749520, -6280598082704000, -232581507835168880, -8741851144594131200, -332700556082071719440, -12791556851016172323200, -495792172369542111969200, -19336969914824455055744000, -757746980726464261745614160, -29796458014667624149649897600, -1174565343042643431036610619120, -46379166533678486156046129248000, -1833328206588077705833622088129680, -72515280415092456648984514988259200, -2869066744149376394590223234413870640, -113517263560152530890931876100476787200]
def b9 : List (Int × Int) := [(0, 1), (-2, 1), (0, 1), (474, 1), (0, 1), (-395210, 1), (0, 1), (675139346, 1), (0, 1), (-1970888641938, 1), (0, 1), (8786878460808778, 1), (0, 1), (-55554806926841917786, 1), (0, 1), (472826082378870394576770, 1), (0, 1), (-5212314380499684345587864354, 1), (0, 1), (72246524093876766202667383579322, 1), (0, 1), (-1229777361260217506555275508026987242, 1), (0, 1), (25219545568892938145604274267431638120434, 1), (0, 1)]
def v10 : List Int := [0, 1, 1, 0, 1, 1, 0, -1, 1, 0, 1, 1, 0, 0, -1, 0, 1, -1, 0, -1, 1, 0, 1, -1, 0, 1, 0, 0, -1, -1, 0, -1, 1, 0, -1, -1, 0, -1, -1, 0]
def s10 : List Int := [0, -156, -6084, -216684, -7647588, -270753756, -9635723604, -344743072284, -12395430244548, -447708273792156, -16236912928575924, -591017705347225884, -21583031373111209508, -790462476936364377756, -29024589603105111053844, -1068177276115068172979484, -39391792767381099388590468, -1455328098499490405574758556, -53855433113442489433621301364, -1995921960283820547830011725084, -74070385167156994710825699955428, -2752214764936490982673526340902556, -102379522654606600624158265927862484, -3812404102233638610398097606961254684, -142104041417945112291091230920753912388]
def b10 : List (Int × Int) := [(0, 1), (-4, 1), (0, 1), (528, 1), (0, 1), (-365600, 1), (0, 1), (577474352, 1), (0, 1), (-1592475082560, 1), (0, 1), (6739034098707856, 1), (0, 1), (-40488587798947082080, 1), (0, 1), (327553042024706013081840, 1), (0, 1), (-3432496302522760854463007360, 1), (0, 1), (45227561871089936656189994452304, 1), (0, 1), (-731848728925604939253265852497213600, 1), (0, 1), (14267279252653600075143582468637352387248, 1), (0, 1)]
def v11 : List Int := [0, 1, -1, 1, 1, 0, -1, 0, -1, 1, 0, 1, 1, 1, 0, 0, 1, 1, -1, -1, 0, 0, -1, -1, -1, 0, -1, 1, 0, 1, 0, -1, -1, 1, -1, 0]
def s11 : List Int := [0, -70, -2450, -74410, -2207450, -66153850, -2024104250, -63291320890, -2016449305850, -65191866252730, -2130643468840250, -70179646070387770, -2324395454715875450, -77288308863017665210, -2577217080308181131450, -86121098865072442613050, -2882621858697522096160250, -96617882883942621608207290, -3242198814816851849584033850, -108914411731154224360404444730, -3662391482447235276880094224250, -123270438377020449507468523254970, -4152930989284011377195010080363450, -140036567889716537069555809608490810, -4726167342974663843989910524438451450]
def b11 : List (Int × Int) := [(0, 1), (-2, 1), (0, 1), (324, 1), (0, 1), (-211860, 1), (0, 1), (281489796, 1), (0, 1), (-632305925028, 1), (0, 1), (2161285167311028, 1), (0, 1), (-10465737531708989556, 1), (0, 1), (68203239216282391714020, 1), (0, 1), (-575652202276829994566162244, 1), (0, 1), (6108929463208964733050536874772, 1), (0, 1), (-79614353697625910899406550567887892, 1), (0, 1), (1250024134158641036537051915481504745284, 1), (0, 1)]
def v12 : List Int := [0, 1, 1, -1, 1, 1, -1, 1, 1, 1, 1, -1, -1, -1, 1, -1, 1, -1, 1, 1, 1, -1, -1, -1, -1, 1, -1, -1, 1, -1, -1, 0]
def s12 : List Int := [0, -93, -2883, -80445, -2217027, -61305693, -1706277603, -47824147485, -1349758237827, -38347775228253, -1096234223173923, -31514406337837725, -910544310235641027, -26425335057983272413, -769874025611679078243, -22504550356073349819165, -659732818781483739834627, -19388024521553474786542173, -570967970169410132455942563, -16844964227523610094376059805, -497732576031708809326690146627, -14726331076413982864695067981533, -436199742519207113689473991718883, -12933053692306029241447728293487645, -383782092355941514071814350950385027]
def b12 : List (Int × Int) := [(0, 1), (-3, 1), (0, 1), (288, 1), (0, 1), (-129600, 1), (0, 1), (129797472, 1), (0, 1), (-226243359360, 1), (0, 1), (604943220711456, 1), (0, 1), (-2296391559803839680, 1), (0, 1), (363874028900695165988640, 31), (0, 1), (-77716280492031543886920960, 1), (0, 1), (646992553142123781424754641824, 1), (0, 1), (-6614722088237862328665383589153600, 1), (0, 1), (81475233712559635580799250999774375008, 1), (0, 1)]
def v13 : List Int := [0, 1, 0, 0, 0, 1, 0, 1, 0, 0, 0, 1, 0, -1, 0, 0, 0, -1, 0, -1, 0, 0, 0, -1, 0]
def s13 : List Int := [0, -48, -1152, -24336, -504576, -10522608, -222141312, -4751395536, -102865522176, -2250632480688, -49685200198272, -1105076735688336, -24730707159634176, -556262177716365168, -12563777779106562432, -284725789412541446736, -6470332454618087832576, -147365811415831536480048, -3362448238502637421809792, -76834363768718133835742736, -1757828368332672188149829376, -40255125214021974316795289328, -922594108502907777554486036352, -21158306055141868775015776848336, -485489508549623493239401891416576]
def b13 : List (Int × Int) := [(0, 1), (-2, 1), (0, 1), (138, 1), (0, 1), (-39850, 1), (0, 1), (24410722, 1), (0, 1), (-25643069010, 1), (0, 1), (41155246651706, 1), (0, 1), (-93672593609179130, 1), (0, 1), (287008385885508924690, 1), (0, 1), (-1139006590453298870376610, 1), (0, 1), (5683489863117703629482026474, 1), (0, 1), (-34827887010689235548462290763850, 1), (0, 1), (257122682532924676816208278498001858, 1), (0, 1)]
def v14 : List Int := [0, 1, 1, 1, 1, -1, 1, -1, 1, 1, -1, -1, 1, 1, -1, -1, 1, -1, 1, -1, -1, -1, -1, 0]
def s14 : List Int := [0, -69, -1587, -33189, -687171, -14252709, -296707107, -6199903989, -129995031171, -2733954454149, -57654621827427, -1218808512960789, -25822486175986371, -548204990224775589, -11660191475356112547, -248446184109485249589, -5302456423474247232771, -113344398248829588217029, -2426417502149527954474467, -52016485692415214093506389, -1116596685681842679012610371, -23999552807251045033906538469, -516457418203232110257813905187, -11126657167396261050816160707189, -239976668395973286225766970679171]
def b14 : List (Int × Int) := [(0, 1), (-3, 1), (0, 1), (144, 1), (0, 1), (-34080, 1), (0, 1), (18665136, 1), (0, 1), (-17895000384, 1), (0, 1), (605747775717744, 23), (0, 1), (-55033009543875168, 1), (0, 1), (154845463987137924720, 1), (0, 1), (-564356276994182071074432, 1), (0, 1), (2586264348464506331953743312, 1), (0, 1), (-14555177876316656791354248310176, 1), (0, 1), (98687878735303869624743251888774704, 1), (0, 1)]
def v15 : List Int := [0, 1, 0, 1, 0, 0, 0, 1, 0, 1, 0, -1, 0, -1, 0, 0, 0, -1, 0, -1, 0]
def s15 : List Int := [0, -40, -800, -14200, -248000, -4352200, -77132000, -1380837400, -24940592000, -453810227560, -8307086756000, -152806268707000, -2822077398440000, -52292320557466120, -971678083541256800, -18098702583860167000, -337812085529172320000, -6316766072806676787880, -118308298351195133818400, -2219013808475674754001400, -41673870340505615233880000, -783555784407864641051392840, -14747835547641857798066424800, -277839837291517052317799234200, -5238764172820484591948159888000]
def b15 : List (Int × Int) := [(0, 1), (-2, 1), (0, 1), (90, 1), (0, 1), (-17610, 1), (0, 1), (7466130, 1), (0, 1), (-5444415378, 1), (0, 1), (6067706536650, 1), (0, 1), (-9590632320393306, 1), (0, 1), (20406407212721275650, 1), (0, 1), (-56238752765007413999394, 1), (0, 1), (194877651946432093611683130, 1), (0, 1), (-829299842513142821182441329642, 1), (0, 1), (4251697466513202099789769182495090, 1), (0, 1)]
def v16 : List Int := [0, 1, -1, -1, 1, 1, 1, 1, -1, 1, -1, 1, -1, -1, -1, -1, 1, 1, -1, 0]
def s16 : List Int := [0, -19, -361, -5605, -82669, -1222669, -18606301, -294930445, -4885105789, -84256846189, -1501938437341, -27428321758285, -509020186434109, -9537939300907309, -179605183152033181, -3387997756635290125, -63890700222862373629, -1202989769016604514029, -22600112883431183753821, -423478750538917878869965, -7913527804050679438140349, -147479314161817498814514349, -2741289484799693830671679261, -50827819306934075733804561805, -940243695764410294900655750269]
def b16 : List (Int × Int) := [(0, 1), (-1, 1), (0, 1), (66, 1), (0, 1), (-13450, 1), (0, 1), (5303074, 1), (0, 1), (-66751985430, 19), (0, 1), (3539203405562, 1), (0, 1), (-5050550896601210, 1), (0, 1), (9699414331688008530, 1), (0, 1), (-24125251402544959825570, 1), (0, 1), (75448030424803759004254378, 1), (0, 1), (-289764571129187077440536469450, 1), (0, 1), (1340736465532215664738176276981506, 1), (0, 1)]
def v17 : List Int := [0, 1, 1, 0, 1, 0, 0, -1, 1, 0, 0, -1, 0, -1, -1, 0]
def s17 : List Int := [0, -30, -450, -6030, -79650, -1053150, -13979250, -186359070, -2494800450, -33529367070, -452258255250, -6120420430110, -83075530903650, -1130659658069790, -15425412952950450, -210900798856965150, -2889071430514949250, -39645190490732129310, -544877792422455056850, -7499250623205006140190, -103344896064760339097250, -1425811690141124954553630, -19692149813524677526686450, -272234465616516461844211230, -3766845672682386096545107650]
def b17 : List (Int × Int) := [(0, 1), (-2, 1), (0, 1), (48, 1), (0, 1), (-4960, 1), (0, 1), (1159312, 1), (0, 1), (-472932288, 1), (0, 1), (296058470576, 1), (0, 1), (-263127221186336, 1), (0, 1), (314896687039116240, 1), (0, 1), (-488146114235808248704, 1), (0, 1), (951472496445124399070704, 1), (0, 1), (-2277548791136300486593696992, 1), (0, 1), (6568116273984420956923560900368, 1), (0, 1)]
def v18 : List Int := [0, 1, -1, 1, 1, 1, -1, -1, -1, 1, -1, 0]
def s18 : List Int := [0, -11, -121, -1133, -10285, -93941, -874621, -8321093, -80712445, -794994101, -7919026621, -79495801253, -802046564605, -8116550291861, -82271464575421, -834479380852613, -8464351902496765, -85823395039119221, -869645852963161021, -8805252375802275173, -89078607999858588925, -900384384474403108181, -9093055115054298303421, -91755504176877505028933, -925152183132313858521085]
def b18 : List (Int × Int) := [(0, 1), (-1, 1), (0, 1), (18, 1), (0, 1), (-12750, 11), (0, 1), (152082, 1), (0, 1), (-33743250, 1), (0, 1), (11392546506, 1), (0, 1), (-5449138537050, 1), (0, 1), (38583798266778390, 11), (0, 1), (-2924265117969948450, 1), (0, 1), (3065285744885757445434, 1), (0, 1), (-3945903957928886905334250, 1), (0, 1), (6119596903016438430475002738, 1), (0, 1)]
def v19 : List Int := [0, 1, 0, 1, 0, -1, 0, -1, 0]
def s19 : List Int := [0, -8, -64, -440, -2944, -19688, -132544, -899480, -6148864, -42287048, -292181824, -2025977720, -14084896384, -98108119208, -684321805504, -4778064739160, -33385475413504, -233393324300168, -1632227907755584, -11417967509439800, -79887630242468224, -559022690781133928, -3912205202992944064, -27380668174892815640, -191640835742912268544]
def b19 : List (Int × Int) := [(0, 1), (-1, 1), (0, 1), (9, 1), (0, 1), (-285, 1), (0, 1), (19341, 1), (0, 1), (-2256633, 1), (0, 1), (402396753, 1), (0, 1), (-101764694421, 1), (0, 1), (34644669532245, 1), (0, 1), (-15276558850961649, 1), (0, 1), (8469775085205752217, 1), (0, 1), (-5766886515002942338317, 1), (0, 1), (4730555686339685437719069, 1), (0, 1)]
def v20 : List Int := [0, 1, 1, -1, 1, -1, -1, 0]
def s20 : List Int := [0, -7, -49, -295, -1729, -10087, -58849, -343735, -2011009, -11787847, -69241249, -407605975, -2404673089, -14215874407, -84204010849, -499643137015, -2969445811969, -17672548037767, -105306321615649, -628159510168855, -3750429845811649, -22409400210325927, -133988328824103649, -801580877399293495, -4797704790533056129]
def b20 : List (Int × Int) := [(0, 1), (-1, 1), (0, 1), (48, 7), (0, 1), (-160, 1), (0, 1), (8176, 1), (0, 1), (-5086656, 7), (0, 1), (99070928, 1), (0, 1), (-19175657696, 1), (0, 1), (34983594079440, 7), (0, 1), (-1687181167133824, 1), (0, 1), (716179171430814352, 1), (0, 1), (-2613393093900057637344, 7), (0, 1), (234473304419544079405424, 1), (0, 1)]
def v21 : List Int := [0, 1, 0, -1, 0]
def s21 : List Int := [0, -2, -8, -26, -80, -242, -728, -2186, -6560, -19682, -59048, -177146, -531440, -1594322, -4782968, -14348906, -43046720, -129140162, -387420488, -1162261466, -3486784400, -10460353202, -31381059608, -94143178826, -282429536480]
def b21 : List (Int × Int) := [(0, 1), (-1, 2), (0, 1), (3, 2), (0, 1), (-25, 2), (0, 1), (427, 2), (0, 1), (-12465, 2), (0, 1), (555731, 2), (0, 1), (-35135945, 2), (0, 1), (2990414715, 2), (0, 1), (-329655706465, 2), (0, 1), (45692713833379, 2), (0, 1), (-7777794952988025, 2), (0, 1), (1595024111042171723, 2), (0, 1)]
def v22 : List Int := [0, 1, -1, 0]
def s22 : List Int := [0, -1, -3, -7, -15, -31, -63, -127, -255, -511, -1023, -2047, -4095, -8191, -16383, -32767, -65535, -131071, -262143, -524287, -1048575, -2097151, -4194303, -8388607, -16777215]
def b22 : List (Int × Int) := [(0, 1), (-1, 3), (0, 1), (2, 3), (0, 1), (-10, 3), (0, 1), (98, 3), (0, 1), (-1618, 3), (0, 1), (40634, 3), (0, 1), (-1445626, 3), (0, 1), (69214610, 3), (0, 1), (-4291996834, 3), (0, 1), (334634533226, 3), (0, 1), (-32040806644042, 3), (0, 1), (3696041900719682, 3), (0, 1)]
def v23 : List Int := [1, 1]
def s23 : List Int := [1, 1, 1, 1, 1, 1, 1, 1, 1, 1, 1, 1, 1, 1, 1, 1, 1, 1, 1, 1, 1, 1, 1, 1, 1]
def b23 : List (Int × Int) := [(1, 1), (1, 2), (1, 6), (0, 1), (-1, 30), (0, 1), (1, 42), (0, 1), (-1, 30), (0, 1), (5, 66), (0, 1), (-691, 2730), (0, 1), (7, 6), (0, 1), (-3617, 510), (0, 1), (43867, 798), (0, 1), (-174611, 330), (0, 1), (854513, 138), (0, 1), (-236364091, 2730)]
def v24 : List Int := [0, 1, -1, -1, 1, 0]
def s24 : List Int := [0, 0, 4, 30, 160, 750, 3304, 14070, 58720, 241950, 988504, 4015110, 16241680, 65506350, 263636104, 1059360150, 4251855040, 17050597950, 68331794104, 273715121190, 1096023794800, 4387584060750, 17560800790504, 70274592610230, 281192530396960]
def b24 : List (Int × Int) := [(0, 1), (0, 1), (4, 5), (0, 1), (-8, 1), (0, 1), (804, 5), (0, 1), (-5776, 1), (0, 1), (1651004, 5), (0, 1), (-27622104, 1), (0, 1), (15920571604, 5), (0, 1), (-483949589792, 1), (0, 1), (468896302250604, 5), (0, 1), (-22566900581985640, 1), (0, 1), (33011440685167168004, 5), (0, 1), (-2307883601079395222448, 1)]
def v25 : List Int := [0, 1, 0, -1, 0, -1, 0, 1, 0]
def s25 : List Int := [0, 0, 16, 192, 1696, 13440, 101296, 743232, 5367616, 38380800, 272650576, 1928321472, 13596615136, 95666712960, 672114774256, 4717029582912, 33080299632256, 231867445393920, 1624598513224336, 11379820536783552, 79696895379186976, 558069016464727680, 3907436831410912816, 27356826316982659392, 191521626453361487296]
def b25 : List (Int × Int) := [(0, 1), (0, 1), (2, 1), (0, 1), (-44, 1), (0, 1), (2166, 1), (0, 1), (-196888, 1), (0, 1), (28730410, 1), (0, 1), (-6148123332, 1), (0, 1), (1813990148894, 1), (0, 1), (-705775346640176, 1), (0, 1), (350112935442888018, 1), (0, 1), (-215681051222514096220, 1), (0, 1), (161537815119247080938182, 1), (0, 1), (-144555133640020128085896264, 1)]
def v26 : List Int := [0, 1, 0, 0, 0, -1, 0, -1, 0, 0, 0, 1, 0]
def s26 : List Int := [0, 0, 48, 864, 11616, 141120, 1638288, 18585504, 208203456, 2315640960, 25645183728, 283285515744, 3124342948896, 34424602430400, 379065506994768, 4172470090327584, 45916344345111936, 505213635045853440, 5558285085197055408, 61147672479742845024, 672670107298830756576, 7399690921556918614080, 81398837181605387109648, 895402862586968336252064, 9849541034971585752906816]
def b26 : List (Int × Int) := [(0, 1), (0, 1), (4, 1), (0, 1), (-184, 1), (0, 1), (20172, 1), (0, 1), (-4120688, 1), (0, 1), (1352745620, 1), (0, 1), (-651317679912, 1), (0, 1), (432381408863068, 1), (0, 1), (-378513182631468256, 1), (0, 1), (422479063034621671716, 1), (0, 1), (-585587157037131902708120, 1), (0, 1), (986816208638177962247670764, 1), (0, 1), (-1986909596487314453348699501904, 1)]
def v27 : List Int := [0, 1, -1, 1, 1, -1, -1, -1, -1, 1, 1, -1, 1, 0]
def s27 : List Int := [0, 0, 52, 1014, 14560, 187590, 2308552, 27867294, 334129120, 4002932310, 48041381752, 578103242574, 6975137225680, 84351501537030, 1021884959358952, 12395232989161854, 150469871953186240, 1827339157323117750, 22193762485035320152, 269515618399433449134, 3271931198780193242800, 39704484626962821850470, 481565629642170776145352, 5837551495675264223688414, 70721962225241629629427360]
def b27 : List (Int × Int) := [(0, 1), (0, 1), (4, 1), (0, 1), (-232, 1), (0, 1), (401556, 13), (0, 1), (-7482704, 1), (0, 1), (2890943420, 1), (0, 1), (-1634752049016, 1), (0, 1), (1273881501667348, 1), (0, 1), (-1308841448437636768, 1), (0, 1), (22288649130552191642748, 13), (0, 1), (-2789023677976901640399560, 1), (0, 1), (5515964408983304343517812164, 1), (0, 1), (-13034295977626306653506263210992, 1)]
def v28 : List Int := [0, 1, 1, -1, 1, -1, -1, -1, 1, 1, -1, -1, -1, 1, -1, 1, 1, 0]
def s28 : List Int := [0, 0, 136, 3468, 67456, 1196460, 20324656, 337023708, 5505507136, 89058057420, 1431119876176, 22893803148348, 365105861576416, 5810419628302380, 92338733737210096, 1466084750999519388, 23263880004826823296, 369027720248307923340, 5852818040365875734416, 92822702107903876824828, 1472194918029077745695776, 23352119853625282496472300, 370473737388506072363097136, 5878591773623232211455352668, 93300613492800624859854801856]
def b28 : List (Int × Int) := [(0, 1), (0, 1), (8, 1), (0, 1), (-656, 1), (0, 1), (138984, 1), (0, 1), (-958428704, 17), (0, 1), (37040430040, 1), (0, 1), (-35766492971568, 1), (0, 1), (47643871703260616, 1), (0, 1), (-83702146199513589824, 1), (0, 1), (187495636559443234781112, 1), (0, 1), (-521568826538007283065075280, 1), (0, 1), (1763970822938630545763975829928, 1), (0, 1), (-121176226696047566880554112875106912, 17)]
def v29 : List Int := [0, 1, -1, 0, 1, 1, 0, 0, -1, 0, -1, -1, 0, -1, 0, 0, 1, 1, 0, -1, 1, 0]
def s29 : List Int := [0, 0, 168, 5292, 122304, 2531340, 50028048, 970663932, 18740750784, 362525205420, 7049580425328, 137987814474972, 2719277322812064, 53927247911273100, 1075407216920585808, 21545819232277556412, 433304874724614582144, 8739943195313312278380, 176683067302245586045488, 3577557420274088486340252, 72521004902121392479677024, 1471121777331561083797405260, 29853804152756486408165860368, 605907751186752830239175418492, 12296576247642672649646976592704]
def b29 : List (Int × Int) := [(0, 1), (0, 1), (8, 1), (0, 1), (-1232, 1), (0, 1), (431304, 1), (0, 1), (-272938144, 1), (0, 1), (275203390840, 1), (0, 1), (-406091981949936, 1), (0, 1), (825760611387195176, 1), (0, 1), (-2213931285096656191808, 1), (0, 1), (7567795478231718271197912, 1), (0, 1), (-32124256025894098502363554960, 1), (0, 1), (165788429470789114369414281664648, 1), (0, 1), (-1022285558251156297106427262086362592, 1)]
def v30 : List Int := [0, 1, 0, 0, 0, 1, 0, -1, 0, 0, 0, -1, 0, -1, 0, 0, 0, -1, 0, 1, 0, 0, 0, 1, 0]
def s30 : List Int := [0, 0, 288, 10368, 281664, 6946560, 164243808, 3805377408, 87283327104, 1992251635200, 45377514944928, 1032948719941248, 23518867003210944, 535847273878775040, 12219147385423393248, 278898571584528789888, 6371679237953563517184, 145694030061745979182080, 3334097158792227451572768, 76353295056805227266483328, 1749661895592018016369429824, 40116447217138763624564632320, 920238559072114339297909627488, 21118287409529346743035834781568, 484809525605453639898378890772864]
def b30 : List (Int × Int) := [(0, 1), (0, 1), (12, 1), (0, 1), (-2088, 1), (0, 1), (912996, 1), (0, 1), (-745928016, 1), (0, 1), (979492656060, 1), (0, 1), (-1886417518366584, 1), (0, 1), (5009241315184666644, 1), (0, 1), (-17540660475377840594592, 1), (0, 1), (78312324564589338872144748, 1), (0, 1), (-434186642749355569073755056840, 1), (0, 1), (2926720038104119875759386983890372, 1), (0, 1), (-23571271241949942754084942717124230128, 1)]
def v31 : List Int := [0, 1, 0, 1, 0, -1, 0, 0, 0, 1, 0, -1, 0, -1, 0, -1, 0, -1, 0, 1, 0, 0, 0, -1, 0, 1, 0, 1, 0]
def s31 : List Int := [0, 0, 448, 18816, 601216, 17498880, 488961088, 13394188416, 363163929856, 9792221591040, 263210155649728, 7061959066732416, 189259447656743296, 5068502263656249600, 135676197469265282368, 3630825698509350450816, 97149399326443312769536, 2599266013933602650434560, 69545969830244026865411008, 1860940965976888648991327616, 49803123012432590252856616576, 1333103240074698808070196145920, 35691967140945785000121282307648, 955849944627677974763465135346816, 25605404387319886904380488081692416]
def b31 : List (Int × Int) := [(0, 1), (0, 1), (16, 1), (0, 1), (-3616, 1), (0, 1), (2134128, 1), (0, 1), (-2370619712, 1), (0, 1), (4236458467280, 1), (0, 1), (-11105208461121888, 1), (0, 1), (40137812934680610352, 1), (0, 1), (-191302740527877280687744, 1), (0, 1), (1162515989778007058988768144, 1), (0, 1), (-8772812688467451512447915038880, 1), (0, 1), (80489116086143754544265058867689456, 1), (0, 1), (-882333079772095405535631925845265192896, 1)]
def v32 : List Int := [0, 1, -1, -1, 1, 1, 1, 1, -1, 1, -1, -1, -1, 1, -1, -1, 1, -1, -1, -1, 1, -1, 1, 1, 1, 1, -1, -1, 1, 0]
def s32 : List Int := [0, 0, 348, 15138, 476064, 13296210, 352630488, 9145890138, 235555161504, 6078374234370, 158014754218728, 4152173231071338, 110482204627192944, 2978438522165709330, 81319664499416326968, 2246224195270367199738, 62679150784700532696384, 1763958606935795041389090, 49983818703710852236547208, 1423889286111269747620531338, 40722782366894416419706327824, 1167917153512468067626794361650, 33557440528778741295999573791448, 965248588270092405650656749402138, 27778340818414358187723607640823264]
def b32 : List (Int × Int) := [(0, 1), (0, 1), (12, 1), (0, 1), (-3768, 1), (0, 1), (2541996, 1), (0, 1), (-3071414256, 1), (0, 1), (5906689035060, 1), (0, 1), (-16621824169730664, 1), (0, 1), (1869237835699515996876, 29), (0, 1), (-329559644952828806196192, 1), (0, 1), (2148308718203794099581114948, 1), (0, 1), (-17390729103460073022585354878040, 1), (0, 1), (171157658084442896066855022648663372, 1), (0, 1), (-2012666184708753695569385611402314771408, 1)]
def v33 : List Int := [0, 1, 1, 0, 1, -1, 0, -1, 1, 0, -1, 0, 0, -1, -1, 0, 1, 1, 0, -1, -1, 0, 0, -1, 0, 1, -1, 0, -1, 1, 0, 1, 1, 0]
def s33 : List Int := [0, 0, 792, 39204, 1501632, 52729380, 1778013072, 58624132644, 1906603250112, 61457171480100, 1969120593875952, 62829944425582884, 1998915715141548192, 63463807675600752420, 2011972643806439354832, 63719013737972039205924, 2016523229546292446719872, 63786023755807967467490340, 2017027441192620062627297712, 63770501300796565665705001764, 2016016545700405838581629229152, 63733703494141002954998339437860, 2014986070289747055326225196872592, 63712401741672089852283233151610404, 2014844751009306600474682941566260032]
def b33 : List (Int × Int) := [(0, 1), (0, 1), (24, 1), (0, 1), (-6768, 1), (0, 1), (5344632, 1), (0, 1), (-8159522016, 1), (0, 1), (20197659699720, 1), (0, 1), (-73489431556065744, 1), (0, 1), (368879811291242400408, 1), (0, 1), (-2441992864913334149141952, 1), (0, 1), (20612420330110566504345798696, 1), (0, 1), (-216062544918195404293850426558640, 1), (0, 1), (2753526719629557921482585413020838584, 1), (0, 1), (-41927255811742689326559550224891221723808, 1)]
def v34 : List Int := [0, 1, -1, 1, 1, -1, -1, 1, -1, 1, 1, 1, 1, -1, -1, -1, 1, -1, -1, -1, -1, 1, -1, -1, -1, 1, 1, 1, 1, -1, 1, -1, -1, 1, 1, -1, 1, 0]
def s34 : List Int := [0, 0, 740, 41070, 1691936, 62796030, 2233256360, 78119945190, 2720730790496, 94873135191150, 3319973592726680, 116663404370557110, 4115961559925895056, 145723221545368791870, 5174317724621156208200, 184163459439133697869830, 6567093199768674301735616, 234528139073323303721042190, 8385686573823621718928220920, 300127453312770681260444299350, 10750368413191819635071605032176, 385334933736674308118986036486110, 13820143208114401978614028102364840, 495927681142616074485513558421301670, 17804754255088382713428297120189064736]
def b34 : List (Int × Int) := [(0, 1), (0, 1), (20, 1), (0, 1), (-9032, 1), (0, 1), (9732660, 1), (0, 1), (-19098379024, 1), (0, 1), (59771496141100, 1), (0, 1), (-273793520265754776, 1), (0, 1), (1728291722473336402340, 1), (0, 1), (-14384401679406948242413088, 1), (0, 1), (5647596041368421807757144718860, 37), (0, 1), (-2011362971412343004989370148942760, 1), (0, 1), (32223777350069559991635035561179740820, 1), (0, 1), (-616821232699597895057560282351753396748592, 1)]
def v35 : List Int := [0, 1, 0, 1, 0, 0, 0, -1, 0, 1, 0, -1, 0, 1, 0, 0, 0, -1, 0, -1, 0, -1, 0, -1, 0, 0, 0, 1, 0, -1, 0, 1, 0, -1, 0, 0, 0, 1, 0, 1, 0]
def s35 : List Int := [0, 0, 1120, 67200, 3079360, 128736000, 5171587360, 203804630400, 7953699752320, 308808575577600, 11956085331205600, 462166067124432000, 17848516821489378880, 688908896023820908800, 26581082939075183239840, 1025406573080544885552000, 39552573267747998766519040, 1525599822577217806485273600, 58846309635735733780754954080, 2270030121949617998592710390400, 87578111811203761211303530532800, 3379296033225839551118409953376000, 130417679024279851194667169194892320, 5034277140999526582482375828933667200, 194373588218521209588579048776091180160]
def b35 : List (Int × Int) := [(0, 1), (0, 1), (28, 1), (0, 1), (-12616, 1), (0, 1), (15177684, 1), (0, 1), (-34405480592, 1), (0, 1), (125479163808140, 1), (0, 1), (-671273119920813528, 1), (0, 1), (4951424536375043126596, 1), (0, 1), (-48161673744639893561461024, 1), (0, 1), (597287237162764423115829312252, 1), (0, 1), (-9198713155151221311608781357912680, 1), (0, 1), (172238128455376998823799666821237488308, 1), (0, 1), (-3853262726282365165737312757680190560498096, 1)]
def v36 : List Int := [0, 1, 1, -1, 1, 1, -1, -1, 1, 1, 1, -1, -1, -1, -1, -1, 1, -1, 1, -1, 1, 1, -1, 1, -1, 1, -1, -1, -1, -1, -1, 1, 1, 1, -1, -1, 1, 1, -1, 1, 1, 0]
def s36 : List Int := [0, 0, 1312, 80688, 3823168, 165813840, 6904119232, 281181219648, 11302523692288, 450680203657200, 17881622942239552, 707378557780005408, 27936221720969012608, 1102364433837218020560, 43487653578229084967872, 1715710621889412959443968, 67710227726765235608048128, 2673325750818448778734591920, 105600450938455503174180400192, 4173570593121731669070687119328, 165036060286820298519179828702848, 6529402264887156311836599075419280, 258453323092552774084411784054072512, 10235135983283905749244017105392215488, 405504645027588042907804850329480960768]
def b36 : List (Int × Int) := [(0, 1), (0, 1), (32, 1), (0, 1), (-14336, 1), (0, 1), (17614176, 1), (0, 1), (-41555176192, 1), (0, 1), (158802741230560, 1), (0, 1), (-891924550427021568, 1), (0, 1), (6910805556207296016224, 1), (0, 1), (-70620061533489414080766464, 1), (0, 1), (920137082659999539541963750368, 1), (0, 1), (-610417143434035458804470173810542080, 41), (0, 1), (292881882439912601604140904124463524192, 1), (0, 1), (-6883978163305809477508231480502942991426816, 1)]
def v37 : List Int := [0, 1, 0, -1, 0, 1, 0, 1, 0, 1, 0, 0, 0, -1, 0, -1, 0, -1, 0, 1, 0, -1, 0, -1, 0, 1, 0, -1, 0, -1, 0, -1, 0, 0, 0, 1, 0, 1, 0, 1, 0, -1, 0, 1, 0]
def s37 : List Int := [0, 0, 1232, 81312, 4012448, 179002560, 7641940592, 319496883552, 13227204592448, 545518797774720, 22490799543771152, 928892185387221792, 38480110601683713248, 1600014491724336367680, 66799178273536458030512, 2800323648021738085048032, 117865969023091273903326848, 4979824470794043931498141440, 211132994784035571361334606672, 8979851141051014626111582298272, 383002620704785840523749527945248, 16375865458489872285356164423896000, 701671458110766123157431633207867632, 30120174874862846334091802368590268512, 1294953254185772563611696989601998080448]
def b37 : List (Int × Int) := [(0, 1), (0, 1), (28, 1), (0, 1), (-17224, 1), (0, 1), (25568724, 1), (0, 1), (-70297785488, 1), (0, 1), (310304063520140, 1), (0, 1), (-2008692711067743192, 1), (0, 1), (17927974778565066983236, 1), (0, 1), (-211002777045608793296232736, 1), (0, 1), (3166323052747391262202777551612, 1), (0, 1), (-59004405195106649104901804193340520, 1), (0, 1), (1336817212123975543589824186190419570868, 1), (0, 1), (-36187345148244624563499933082252543336768944, 1)]
def v38 : List Int := [0, 1, -1, -1, 1, -1, 1, 1, -1, 1, 1, 1, -1, 1, -1, 1, 1, 1, -1, -1, -1, -1, -1, -1, 1, 1, -1, -1, 1, 1, -1, -1, -1, -1, -1, -1, 1, 1, 1, -1, 1, -1, 1, 1, 1, -1, 1, 1, -1, 1, -1, -1, 1, 0]
def s38 : List Int := [0, 0, 1484, 117978, 6694112, 334636170, 15765477944, 720574348578, 32429183024672, 1449835519346970, 64784581728352904, 2907148967533181778, 131547059730200624432, 6024021720654217559370, 280054308530971656554264, 13250086994224752151288578, 639005538135541754557347392, 31429498969347819606242933370, 1575766890610527587327445626024, 80415158647714960836402998892978, 4168238540590048887186292869737552, 218905125656705600740373209248908970, 11618133545288979276008227847122192184, 621648998307097469875586127476066778978, 33462204482349207050558100250851847298912]
def b38 : List (Int × Int) := [(0, 1), (0, 1), (28, 1), (0, 1), (-31000, 1), (0, 1), (70056444, 1), (0, 1), (-282761459120, 1), (0, 1), (1816284178047140, 1), (0, 1), (-17071599157240980360, 1), (0, 1), (221114810493015993732556, 1), (0, 1), (-3776078704429054274950906720, 1), (0, 1), (82216587268629419865174443829492, 1), (0, 1), (-2222983751406617801960841304592166200, 1), (0, 1), (73075294971097765459024384122345909598748, 1), (0, 1), (-2870131102330064287124732600406723974042902800, 1)]
def v39 : List Int := [0, 1, 0, -1, 0, 1, 0, 0, 0, 1, 0, 1, 0, 1, 0, -1, 0, -1, 0, -1, 0, 0, 0, -1, 0, 1, 0, -1, 0, -1, 0, 1, 0, -1, 0, 0, 0, -1, 0, -1, 0, -1, 0, 1, 0, 1, 0, 1, 0, 0, 0, 1, 0, -1, 0, 1, 0]
def s39 : List Int := [0, 0, 2240, 188160, 11806592, 669473280, 36316804160, 1928823456000, 101420025120512, 5311542429312000, 278046544717215680, 14579751240420791040, 766814597935024725632, 40482928074778257169920, 2146174574436669397947200, 114268287929947352527361280, 6109843581418675789084093952, 328019757672564238436542679040, 17677557706016816870453690582720, 956011762474662313143949852542720, 51865638271758031905158780288857472, 2821804356467272344531821421829071360, 153908922313363110677687783067208946240, 8413118097926711209846309772450727471360, 460768465095643057091404559772394594088192]
def b39 : List (Int × Int) := [(0, 1), (0, 1), (40, 1), (0, 1), (-40048, 1), (0, 1), (96327480, 1), (0, 1), (-428999415776, 1), (0, 1), (3067420327363400, 1), (0, 1), (-32163998604303829584, 1), (0, 1), (465005901407641117043800, 1), (0, 1), (-8865150324161803502331431872, 1), (0, 1), (215488380368763267110416639883880, 1), (0, 1), (-6504647584421422159690902980342101040, 1), (0, 1), (238716294707685466909979127585622103102840, 1), (0, 1), (-10467367204665179280140033432695804150715587488, 1)]
def v40 : List Int := [0, 1, 1, 0, 1, -1, 0, 1, 1, 0, -1, -1, 0, -1, 1, 0, 1, -1, 0, 0, -1, 0, -1, -1, 0, 1, -1, 0, 1, 1, 0, -1, 1, 0, -1, -1, 0, -1, 0, 0, -1, 1, 0, 1, -1, 0, -1, -1, 0, 1, 1, 0, -1, 1, 0, 1, 1, 0]
def s40 : List Int := [0, 0, 3192, 272916, 18126912, 1105244820, 64764203472, 3713218952436, 210116226247872, 11790478164667860, 657979513261547952, 36584555997860050356, 2029153399730249785632, 112362735235511608766100, 6215393456949295847234832, 343580523714211592950082676, 18985677251894680921188984192, 1048938567596201141496609651540, 57951433317760738370940534080112, 3201948123237504486989289082521396, 176942897747709425320428866937027552, 9780112534770292214929868856698076180, 540707547736074981008768042523123939792, 29901950017792580266544646387313086678516, 1654099748601077253645144259172312567579712]
def b40 : List (Int × Int) := [(0, 1), (0, 1), (56, 1), (0, 1), (-45872, 1), (0, 1), (107996568, 1), (0, 1), (-491894238304, 1), (0, 1), (3632701839435880, 1), (0, 1), (-39434416566341857296, 1), (0, 1), (590550783812734419446072, 1), (0, 1), (-11663760287668170163493190848, 1), (0, 1), (293727775643483163262942266055944, 1), (0, 1), (-9185807609381351253206561649497614960, 1), (0, 1), (349260108609931041477716609273690902670296, 1), (0, 1), (-15866383945228754483677694800090643725880377632, 1)]
def v41 : List Int := [0, 1, 0, 0, 0, 0, 0, 1, 0, 0, 0, 1, 0, -1, 0, 0, 0, 1, 0, -1, 0, 0, 0, -1, 0, 0, 0, 0, 0, -1, 0, -1, 0, 0, 0, 0, 0, -1, 0, 0, 0, -1, 0, 1, 0, 0, 0, -1, 0, 1, 0, 0, 0, 1, 0, 0, 0, 0, 0, 1, 0]
def s41 : List Int := [0, 0, 2880, 259200, 17642880, 1091232000, 64756290240, 3768401750400, 217260515669760, 12474331246195200, 715291607616206400, 41024987773930512000, 2355494216229009728640, 135450227402984008569600, 7802529364969228957095360, 450279082720689318968112000, 26032430199245225907040427520, 1507676588126970876736614835200, 87462831649417270115602628301120, 5081773776668997729646598824118400, 295689015210733059691153390218134400, 17227973099759507344774209760810272000, 1004996039166233012030324610443528767680, 58692101101706094066450580141858984099200, 3431125251211410216309538143916133387777280]
def b41 : List (Int × Int) := [(0, 1), (0, 1), (48, 1), (0, 1), (-51552, 1), (0, 1), (140967504, 1), (0, 1), (-719856659904, 1), (0, 1), (5907874011139440, 1), (0, 1), (-71112822920233325856, 1), (0, 1), (1180217556867928253613456, 1), (0, 1), (-25829504600505173523918350208, 1), (0, 1), (720742724621644173161221414207152, 1), (0, 1), (-24975065038411808738994928696426433760, 1), (0, 1), (1052183210284033785331219462261276709458128, 1), (0, 1), (-52963077102807909899573820544550409608072277312, 1)]
def v42 : List Int := [0, 1, -1, 1, 1, 1, -1, -1, -1, 1, -1, -1, 1, 1, 1, 1, 1, -1, -1, 1, 1, -1, 1, -1, -1, 1, -1, 1, -1, -1, -1, -1, -1, -1, 1, -1, 1, -1, -1, 1, -1, 1, 1, -1, -1, 1, 1, 1, 1, 1, -1, -1, 1, -1, -1, -1, 1, 1, 1, -1, 1, 0]
def s42 : List Int := [0, 0, 2684, 245586, 16796960, 1038493890, 61657464344, 3606112286826, 210180731330720, 12270231896692530, 718834560829780904, 42271784327491323066, 2494261025755428055280, 147577062251623438403970, 8749574267839898744179064, 519498970494980898682407306, 30874428229370329324361464640, 1835969068579380620419133376210, 109210237881393486455243078346824, 6496933587137497260215867936115546, 386495820816326727061885474983942800, 22989987626516539557170769429382697250, 1367328855908408152501713045206057692184, 81309688530455109368220243560007453663786, 4834482490500486525817192885940714944513760]
def b42 : List (Int × Int) := [(0, 1), (0, 1), (44, 1), (0, 1), (-52088, 1), (0, 1), (152224332, 1), (0, 1), (-811819371376, 1), (0, 1), (6905756591244820, 1), (0, 1), (-85979802866653265064, 1), (0, 1), (1475185204074982081380188, 1), (0, 1), (-33371637831093847055176432352, 1), (0, 1), (962506880134234110224742084220836, 1), (0, 1), (-34473756841987031568955083627090044440, 1), (0, 1), (1501173306950403349969471320204775982141164, 1), (0, 1), (-78103396778914713851414491131594534074740008528, 1)]
def v43 : List Int := [0, 1, 1, -1, 1, 0, -1, 1, 1, 1, 0, -1, -1, 0, 1, 0, 1, -1, 1, -1, 0, -1, -1, -1, -1, 0, 0, -1, 1, 1, 0, -1, 1, 1, -1, 0, 1, 1, -1, 0, 0, -1, -1, -1, -1, 0, -1, 1, -1, 1, 0, 1, 0, -1, -1, 0, 1, 1, 1, -1, 0, 1, -1, 1, 1, 0]
def s43 : List Int := [0, 0, 4160, 405600, 30480320, 2096952000, 138523249280, 8952277261200, 571156510845440, 36157242714871200, 2278297614980316800, 143177824910669406000, 8986034769996441647360, 563727202916905546209600, 35369449245949763915534720, 2220270567950050578874626000, 139476179619940994039182638080, 8769337941797453669983989439200, 551866039775378444941157517991040, 34762333301993983219776314806297200, 2191735768870432817939078341694969600, 138311732240836121634082052632833552000, 8735824962387101512774174599378957733760, 552207854426119030861667835522370825635600, 34932789447086491099131226389736658421393920]
def b43 : List (Int × Int) := [(0, 1), (0, 1), (64, 1), (0, 1), (-71872, 1), (0, 1), (222102912, 1), (0, 1), (-1317029239424, 1), (0, 1), (12649932343814720, 1), (0, 1), (-178573645871820238656, 1), (0, 1), (3477578343503503497061888, 1), (0, 1), (-89317249463070851702532237568, 1), (0, 1), (2924952261565393476495270356250816, 1), (0, 1), (-118951004530426386970050634743110836160, 1), (0, 1), (5881346349961752539377979649851946736267904, 1), (0, 1), (-347442332733168942068236403124529029192710466432, 1)]
def v44 : List Int := [0, 1, -1, 0, 1, 1, 0, -1, -1, 0, -1, 1, 0, 1, 1, 0, 1, 1, 0, -1, 1, 0, -1, 0, 0, 1, -1, 0, -1, -1, 0, 1, -1, 0, -1, -1, 0, -1, 1, 0, -1, -1, 0, -1, 1, 0, 0, -1, 0, 1, -1, 0, 1, 1, 0, 1, 1, 0, 1, -1, 0, -1, -1, 0, 1, 1, 0, -1, 1, 0]
def s44 : List Int := [0, 0, 3312, 342792, 26072064, 1777376520, 115789195872, 7410902860872, 472336017957504, 30183152828286600, 1940142434955088032, 125607504750489694152, 8191690628191278634944, 537895893427219414531080, 35534247293821168020429792, 2359560042411356686126498632, 157349660147810514549679152384, 10529324514795853042765935213960, 706529428015486121862568303717152, 47511586272274905090695427589530312, 3200368931504846575459763902081717824, 215856844309985858284611211244443839240, 14573612398843674783348391247240376086112, 984702021412450303195377124926599202885192, 66573886400028687839710918845710406148539264]
def b44 : List (Int × Int) := [(0, 1), (0, 1), (48, 1), (0, 1), (-79200, 1), (0, 1), (299394864, 1), (0, 1), (-2045444187840, 1), (0, 1), (22265725015077840, 1), (0, 1), (-354704802564938937120, 1), (0, 1), (7786753187529646571623536, 1), (0, 1), (-225385501439470239568358778240, 1), (0, 1), (8317461833351485175140014920404752, 1), (0, 1), (-381165952558773135327164634481218002400, 1), (0, 1), (21237081393124953294728950413693115280442288, 1), (0, 1), (-1413749393666137603338649044655399836283063540800, 1)]
def tab : List Row := [(-68, v0, s0, b0), (-67, v1, s1, b1), (-59, v2, s2, b2), (-56, v3, s3, b3), (-55, v4, s4, b4), (-52, v5, s5, b5), (-51, v6, s6, b6), (-47, v7, s7, b7), (-43, v8, s8, b8), (-40, v9, s9, b9), (-39, v10, s10, b10), (-35, v11, s11, b11), (-31, v12, s12, b12), (-24, v13, s13, b13), (-23, v14, s14, b14), (-20, v15, s15, b15), (-19, v16, s16, b16), (-15, v17, s17, b17), (-11, v18, s18, b18), (-8, v19, s19, b19), (-7, v20, s20, b20), (-4, v21, s21, b21), (-3, v22, s22, b22), (1, v23, s23, b23), (5, v24, s24, b24), (8, v25, s25, b25), (12, v26, s26, b26), (13, v27, s27, b27), (17, v28, s28, b28), (21, v29, s29, b29), (24, v30, s30, b30), (28, v31, s31, b31), (29, v32, s32, b32), (33, v33, s33, b33), (37, v34, s34, b34), (40, v35, s35, b35), (41, v36, s36, b36), (44, v37, s37, b37), (53, v38, s38, b38), (56, v39, s39, b39), (57, v40, s40, b40), (60, v41, s41, b41), (61, v42, s42, b42), (65, v43, s43, b43), (69, v44, s44, b44)]
def r1 : Row := (1, v23, s23, b23)
def vStep (D : Int) (found : List Int) (n : Int) : Option (List Int) :=
  if found.length < 1000 then
    match (nums 2 (n.toNat - 1)).filter fun p => decide (n % p = 0) with
    | [] => none
    | l :: _ => if l = n then (match g_l_at_prime [.int D, .int n] with
        | some (.sh (.int v)) => some (found ++ [v])
        | _ => none) else (match found[l.toNat]?, found[(n / l).toNat]? with
        | some a, some b => (mulO a b).map fun c => found ++ [c]
        | _, _ => none)
  else none
theorem vals_step {D n : Int} {found r : List Int} {o : Option S} (h2 : 2 ≤ n) (h3 : n ≤ 1000) (h : vStep D found n = some r) :
    ∃ o', w3_l_values [some (.sh (.int D)), some (.ls (found.map PyData.int)), some (.sh (.int n)), o, none] = some (.nx [some (.sh (.int D)), some (.ls (r.map PyData.int)), some (.sh (.int n)), o', none]) := by
  unfold vStep at h
  split at h
  · rename_i hlen
    have e0 : ∀ ρ : Dn.Env, rng2K 2 (n + 1) ρ = some (rngD 2 (n.toNat - 1), ρ) := fun ρ => by
      rw [rng2K_ok (by omega) (by omega) (by omega) (by omega), show (n + 1 - 2).toNat = n.toNat - 1 by omega]
    have e1 : lcK [4] (nameG 4) t1_l_values e2_l_values (rngD 2 (n.toNat - 1)) [some (.sh (.int D)), some (.ls (found.map PyData.int)), some (.sh (.int n)), o, none] = some (.ls (((nums 2 (n.toNat - 1)).filter fun p => decide (n % p = 0)).map PyData.int), [some (.sh (.int D)), some (.ls (found.map PyData.int)), some (.sh (.int n)), o, none]) :=
      lcK_rng rfl (by omega) fun x l1 l2 => by
        exact ⟨_, rfl, Gv.eq (by simp (disch := omega) [t1_l_values]; exact rfl), fun _ => ⟨_, by simp [e2_l_values]; exact ⟨rfl, rfl⟩⟩, rfl⟩
    revert e1 h
    generalize hz : (nums 2 (n.toNat - 1)).filter (fun p => decide (n % p = 0)) = z
    cases z with
    | nil => intro h _; cases h
    | cons l z =>
      intro h e1
      dsimp only at h
      have hl := mem_nums.mp (List.mem_filter.mp (show l ∈ (nums 2 (n.toNat - 1)).filter (fun p => decide (n % p = 0)) by rw [hz]; exact List.mem_cons_self)).1
      have e2 : ∀ xs : List PyData, atI (.int l :: xs) 0 = some (.int l) := fun xs => by
        have := atI_nat (xs := PyData.int l :: xs) (i := 0) (by simp)
        exact this
      split at h
      · rename_i hln
        subst hln
        split at h
        · rename_i v hv
          cases h
          exact ⟨some (.sh (.int l)), by unfold w3_l_values; simp [e0, e1, e2, hv]; omega⟩
        · cases h
      · rename_i hln
        split at h
        · rename_i a b ha hb
          obtain ⟨c, hc, rfl⟩ := Option.map_eq_some_iff.mp h
          have q1 : atI (found.map PyData.int) l = some (.int a) := by
            have h5 : l.toNat < found.length := (List.getElem?_eq_some_iff.mp ha).1
            obtain ⟨d, d1, d2⟩ := atI_of (xs := found.map PyData.int) (i := l) (by omega) (by rw [List.length_map]; omega)
            rw [List.getElem?_map, ha] at d1
            rw [d2, ← d1]; rfl
          have q0 : 0 ≤ n / l := Int.ediv_nonneg (by omega) (by omega)
          have q2 : atI (found.map PyData.int) (n / l) = some (.int b) := by
            have h5 : (n / l).toNat < found.length := (List.getElem?_eq_some_iff.mp hb).1
            obtain ⟨d, d1, d2⟩ := atI_of (xs := found.map PyData.int) (i := n / l) q0 (by rw [List.length_map]; omega)
            rw [List.getElem?_map, hb] at d1
            rw [d2, ← d1]; rfl
          exact ⟨some (.sh (.int l)), by unfold w3_l_values; simp [e0, e1, e2, hln, q1, gFdiv_ok (a := n) (b := l) (by omega) (by omega), q2, mulS_of hc]; omega⟩
        · cases h
  · cases h
theorem v_l_values {D : Int} {r : List Int} (hD : D ≠ 1) (hD2 : D.natAbs ≤ 400) (h : (nums 2 (D.natAbs - 2)).foldlM (vStep D) [0, 1] = some r) : g_l_values [.int D] = some (.ls (r.map PyData.int)) := by
  have esz : (if D < 0 then -D else D) = (D.natAbs : Int) := by split <;> omega
  obtain ⟨ρ', h1, o2, o3, rfl⟩ := for_foldM (tg := nameG 2) (f := w3_l_values) (inj := PyData.int) (xs := nums 2 (D.natAbs - 2)) (step := vStep D) (E := fun found ρ => ∃ o2 o3, ρ = [some (.sh (.int D)), some (.ls (found.map PyData.int)), o2, o3, none]) (b := [0, 1])
    (ρ := [some (.sh (.int D)), some (.ls [.int 0, .int 1]), none, none, none]) ⟨_, _, rfl⟩ (by
    rintro found n ρ hn ⟨o2, o3, rfl⟩
    have hn := mem_nums.mp hn
    refine ⟨_, rfl, ?_⟩
    cases e : vStep D found n with
    | none => trivial
    | some f' =>
      dsimp only
      obtain ⟨o', h⟩ := vals_step (o := o3) (by omega) (by omega) e
      exact ⟨_, h, _, _, rfl⟩) h
  rw [← rngD_nums] at h1
  have e0 : ∀ ρ : Dn.Env, rng2K 2 (D.natAbs : Int) ρ = some (rngD 2 (D.natAbs - 2), ρ) := fun ρ => by
    rw [rng2K_ok (by omega) (by omega) (by omega) (by omega), show ((D.natAbs : Int) - 2).toNat = D.natAbs - 2 by omega]
  refine bodyG_eq rfl ?_
  refine WS.seqW (WS.ifF (by simp [startE, hD]; exact rfl) (WS.nx ?_))
  dsimp only
  refine WS.seq (by simp; exact rfl) ?_
  refine WS.seq (by simp only [ev_forS, ev_rng2, ev_consA, ev_cst, ev_callE, ev_nameE, eg0, Option.bind_some, Option.map_some, ev_nilA, viewL_cons, viewL_nil, view_sh, gAbs_int, esz, e0, h1]; exact rfl) ?_
  refine WS.end (by simp; exact rfl) ?_
  exact rfl
def okI (x : Option S) (n : Int) : Bool := match x with
  | some (.sh (.int i)) => i == n
  | _ => false
def okN (x : Option S) : Bool := match x with
  | some (.sh .none) => true
  | _ => false
def eqInts : List PyData → List Int → Bool
  | [], [] => true
  | .int i :: xs, n :: ns => (i == n) && eqInts xs ns
  | _, _ => false
def okL (x : Option S) (ns : List Int) : Bool := match x with
  | some (.ls xs) => eqInts xs ns
  | _ => false
def okP (x : Option (Int × Int)) (p : Int × Int) : Bool := match x with
  | some q => (q.1 == p.1) && (q.2 == p.2)
  | none => false
def eqPs : List (Int × Int) → List (Int × Int) → Bool
  | [], [] => true
  | p :: ps, q :: qs => ((p.1 == q.1) && (p.2 == q.2)) && eqPs ps qs
  | _, _ => false
def okPs (x : Option (List (Int × Int))) (ps : List (Int × Int)) : Bool := match x with
  | some qs => eqPs qs ps
  | none => false
def chkVal (r : Row) : Bool := okN (g_need_sign [.int r.1]) && ((List.range (r.1.natAbs + 1)).all fun a => okI (g_value_of [.int r.1, .int (a : Nat)]) (r.2.1.getD a 0))
def chkVals (r : Row) : Bool := if r.1 = 1 then okL (g_l_values [.int 1]) (r.2.1.take r.1.natAbs) else match (nums 2 (r.1.natAbs - 2)).foldlM (vStep r.1) [0, 1] with
  | some xs => xs == r.2.1.take r.1.natAbs
  | none => false
def chiR (V : List Int) (a : Int) : Int := V.getD a.toNat 0
def smR (sl : List Int) (j : Nat) : Int := sl.getD j 0
def chkPs (r : Row) : Bool := (List.range 25).all fun j => psum (chiR r.2.1) (r.1.natAbs : Int) j == smR r.2.2.1 j
def chkF : Bool := (List.range 25).all fun k => okPs (firstO (k : Nat)) (tabF.take (k + 1))
def chkB (r : Row) : Bool := (List.range 25).all fun k => okP ((tabF.take (k + 1)).zipIdx.foldlM (bernStep (r.1.natAbs : Int) (k : Nat) (smR r.2.2.1)) (0, 1)) (r.2.2.2.getD k (0, 0))
def chkS (r : Row) : Bool := (decide (r.1 ≠ 0) && decide (r.1.natAbs ≤ 70)) && ((r.2.1.length == r.1.natAbs + 1) && (r.2.1.all fun v => decide (v.natAbs ≤ 1))) && ((r.2.2.2.length == 25) && (r.2.2.2.all fun p => (decide (1 ≤ p.2) && decide (p.2 ≤ 1000000)) && ((Nat.gcd p.1.natAbs p.2.natAbs == 1) && decide (p.1.natAbs.log2 < 590)))) 
def perSum : List Int → Nat → Nat → Int
  | [], _, _ => 0
  | w :: ws, a, m => w * ((a ^ m : Nat) : Int) + perSum ws (a + 1) m
def turns (size : Nat) : Nat := max 1 (min 5 (240 / size))
def goT (W : List Int) (bs : List (Int × Int)) (size k : Nat) : Nat → Nat → Int → Bool
  | 0, _, _ => true
  | n + 1, t, tot => (match endO bs (k : Nat) (((t + 1) * size : Nat) : Int) with
      | some x => (match mulO ((k : Nat) * (tot + perSum W (t * size + 1) (k - 1))) x.1.2 with | some y => y == x.1.1 | none => false)
      | none => false) && goT W bs size k n (t + 1) (tot + perSum W (t * size + 1) (k - 1))
def chkT (r : Row) : Bool := (List.range 24).all fun k => goT (r.2.1.drop 1) (r.2.2.2.take (k + 1)) r.1.natAbs (k + 1) (turns r.1.natAbs) 0 0
def isS (n : Int) : Bool := match g_l_is_sign [.int n] with
  | some (.sh (.bool b)) => !b || tab.any fun r => r.1 == n
  | _ => false
def kumB : SE := (seqS (ifS (orB (notB (truE (callF g_l_is_number (consA (nameE [] 2) nilA)))) (notB (truE (callF g_l_is_number (consA (nameE [] 3) nilA))))) (retS (cst (.bool false))) nxS) (seqS (par2S 4 5 (consA (lstE (consA (binE gIx (nameE [] 2) (cst (.int 0))) (consA (binE gIx (nameE [] 3) (cst (.int 0))) nilA))) (consA (lstE (consA (binE mulS (binE gIx (nameE [] 2) (cst (.int 1))) (nameE [] 1)) (consA (binE mulS (binE gIx (nameE [] 3) (cst (.int 1))) (binE (gInt0 fun i j => i - j) (binE addS (nameE [] 1) (nameE [] 0)) (cst (.int 1)))) nilA))) nilA))) (seqS (forS (rng1I (consA (cst (.int 2)) nilA)) (nameG 6) w2_l_is_kummer) (retS (binE (eqS false) (binE (gInt (fun _ j => decide (0 < j)) fun i j => i % j) (callE gInt1 (consA (binE (gInt0 fun i j => i - j) (binE mulS (binE gIx (nameE [] 4) (cst (.int 0))) (binE gIx (nameE [] 5) (cst (.int 1)))) (binE mulS (binE gIx (nameE [] 4) (cst (.int 1))) (binE gIx (nameE [] 5) (cst (.int 0))))) nilA)) (nameE [] 0)) (cst (.int 0)))))))
theorem kum_eq : d_l_is_kummer = seqS (par2S 2 3 (consA (callF g_bernoulli (consA (nameE [] 1) (consA (cst (.int 1)) nilA))) (consA (callFk g_bernoulli 2 [1, 0] (consA (cst (.int 1)) (consA (binE (gInt0 fun i j => i - j) (binE addS (nameE [] 1) (nameE [] 0)) (cst (.int 1))) nilA))) nilA))) kumB := rfl
end K07
namespace K07
open PySem PyProof.Rows L2 Dn
def chkRow (r : Row) : Bool := chkVal r && (chkVals r && (chkPs r && (chkB r && (chkS r && chkT r))))
def chkK (p k : Nat) : Bool := (k % (p - 1) == 0) || match kumB [some (.sh (.int (p : Nat))), some (.sh (.int (k : Nat))), some (.sh (pr (r1.2.2.2.getD k (0, 0)))), some (.sh (pr (r1.2.2.2.getD (k + p - 1) (0, 0)))), none, none, none, none] with
  | some (.rt (.sh (.bool true)) _) => true
  | _ => false
theorem row_0 : ((tab.drop 0).take 3).all chkRow = true := by decide +kernel
theorem row_1 : ((tab.drop 3).take 3).all chkRow = true := by decide +kernel
theorem row_2 : ((tab.drop 6).take 3).all chkRow = true := by decide +kernel
theorem row_3 : ((tab.drop 9).take 3).all chkRow = true := by decide +kernel
theorem row_4 : ((tab.drop 12).take 3).all chkRow = true := by decide +kernel
theorem row_5 : ((tab.drop 15).take 3).all chkRow = true := by decide +kernel
theorem row_6 : ((tab.drop 18).take 3).all chkRow = true := by decide +kernel
theorem row_7 : ((tab.drop 21).take 3).all chkRow = true := by decide +kernel
theorem row_8 : ((tab.drop 24).take 3).all chkRow = true := by decide +kernel
theorem row_9 : ((tab.drop 27).take 3).all chkRow = true := by decide +kernel
theorem row_10 : ((tab.drop 30).take 3).all chkRow = true := by decide +kernel
theorem row_11 : ((tab.drop 33).take 3).all chkRow = true := by decide +kernel
theorem row_12 : ((tab.drop 36).take 3).all chkRow = true := by decide +kernel
theorem row_13 : ((tab.drop 39).take 3).all chkRow = true := by decide +kernel
theorem row_14 : ((tab.drop 42).take 3).all chkRow = true := by decide +kernel
theorem chk_F : chkF = true := by decide +kernel
theorem chk_S : ((List.range 131).map fun i : Nat => (i : Int) - 64).all isS = true := by decide +kernel
theorem chk_K : ([5, 7, 11, 13, 17, 19].all fun p : Nat => (List.range ((26 - p) / 2)).all fun d => chkK p (2 + 2 * d)) = true := by decide +kernel
theorem rows_ok : ∀ r ∈ tab, chkRow r = true := by
  have e : tab = (tab.drop 0).take 3 ++ (tab.drop 3).take 3 ++ (tab.drop 6).take 3 ++ (tab.drop 9).take 3 ++ (tab.drop 12).take 3 ++ (tab.drop 15).take 3 ++ (tab.drop 18).take 3 ++ (tab.drop 21).take 3 ++ (tab.drop 24).take 3 ++ (tab.drop 27).take 3 ++ (tab.drop 30).take 3 ++ (tab.drop 33).take 3 ++ (tab.drop 36).take 3 ++ (tab.drop 39).take 3 ++ (tab.drop 42).take 3 := rfl
  intro r hr
  rw [e] at hr
  simp only [List.mem_append] at hr
  rcases hr with (((((((((((((h | h) | h) | h) | h) | h) | h) | h) | h) | h) | h) | h) | h) | h) | h
  · exact List.all_eq_true.mp row_0 r h
  · exact List.all_eq_true.mp row_1 r h
  · exact List.all_eq_true.mp row_2 r h
  · exact List.all_eq_true.mp row_3 r h
  · exact List.all_eq_true.mp row_4 r h
  · exact List.all_eq_true.mp row_5 r h
  · exact List.all_eq_true.mp row_6 r h
  · exact List.all_eq_true.mp row_7 r h
  · exact List.all_eq_true.mp row_8 r h
  · exact List.all_eq_true.mp row_9 r h
  · exact List.all_eq_true.mp row_10 r h
  · exact List.all_eq_true.mp row_11 r h
  · exact List.all_eq_true.mp row_12 r h
  · exact List.all_eq_true.mp row_13 r h
  · exact List.all_eq_true.mp row_14 r h
end K07
namespace K07
open PySem PyProof.Rows L2 Dn
theorem okI_eq {x : Option S} {n : Int} (h : okI x n = true) : x = some (.sh (.int n)) := by
  unfold okI at h
  split at h
  · rw [beq_iff_eq] at h; rw [h]
  · cases h
theorem okN_eq {x : Option S} (h : okN x = true) : x = some (.sh .none) := by
  unfold okN at h
  split at h
  · rfl
  · cases h
theorem eqInts_eq : ∀ {xs : List PyData} {ns : List Int}, eqInts xs ns = true → xs = ns.map PyData.int
  | [], [], _ => rfl
  | .int i :: xs, n :: ns, h => by
    rw [eqInts, Bool.and_eq_true, beq_iff_eq] at h
    rw [List.map_cons, ← eqInts_eq h.2, h.1]
  | [], _ :: _, h => by simp [eqInts] at h
  | .int _ :: _, [], h => by simp [eqInts] at h
  | .none :: _, _, h => by simp [eqInts] at h
  | .bool _ :: _, _, h => by simp [eqInts] at h
  | .str _ :: _, _, h => by simp [eqInts] at h
  | .list _ :: _, _, h => by simp [eqInts] at h
  | .tuple _ :: _, _, h => by simp [eqInts] at h
  | .dict _ :: _, _, h => by simp [eqInts] at h
theorem okL_eq {x : Option S} {ns : List Int} (h : okL x ns = true) : x = some (.ls (ns.map PyData.int)) := by
  unfold okL at h
  split at h
  · rw [eqInts_eq h]
  · cases h
theorem okP_eq {x : Option (Int × Int)} {p : Int × Int} (h : okP x p = true) : x = some p := by
  unfold okP at h
  split at h
  · rename_i q
    rw [Bool.and_eq_true, beq_iff_eq, beq_iff_eq] at h
    rw [show q = p from Prod.ext h.1 h.2]
  · cases h
theorem eqPs_eq : ∀ {ps qs : List (Int × Int)}, eqPs ps qs = true → ps = qs
  | [], [], _ => rfl
  | p :: ps, q :: qs, h => by
    rw [eqPs, Bool.and_eq_true, Bool.and_eq_true, beq_iff_eq, beq_iff_eq] at h
    rw [eqPs_eq h.2, show p = q from Prod.ext h.1.1 h.1.2]
  | [], _ :: _, h => by simp [eqPs] at h
  | _ :: _, [], h => by simp [eqPs] at h
theorem first_at {k : Nat} (hk : k < 25) : firstO (k : Nat) = some (tabF.take (k + 1)) := by
  have := List.all_eq_true.mp chk_F k (List.mem_range.mpr hk)
  unfold okPs at this
  split at this
  · rename_i qs e; rw [e, eqPs_eq this]
  · cases this
structure RowOk (r : Row) : Prop where
  d0 : r.1 ≠ 0
  d1 : r.1.natAbs ≤ 70
  ns : g_need_sign [.int r.1] = some (.sh .none)
  val : ∀ a : Nat, a ≤ r.1.natAbs → g_value_of [.int r.1, .int (a : Nat)] = some (.sh (.int (r.2.1.getD a 0)))
  vals : g_l_values [.int r.1] = some (.ls ((r.2.1.take r.1.natAbs).map PyData.int))
  vl : r.2.1.length = r.1.natAbs + 1
  v1 : ∀ v ∈ r.2.1, v.natAbs ≤ 1
  ps : ∀ j < 25, psum (chiR r.2.1) (r.1.natAbs : Int) j = smR r.2.2.1 j
  bs : ∀ k < 25, (tabF.take (k + 1)).zipIdx.foldlM (bernStep (r.1.natAbs : Int) (k : Nat) (smR r.2.2.1)) (0, 1) = some (r.2.2.2.getD k (0, 0))
  bl : r.2.2.2.length = 25
  b1 : ∀ p ∈ r.2.2.2, 1 ≤ p.2 ∧ p.2 ≤ 1000000 ∧ Nat.gcd p.1.natAbs p.2.natAbs = 1 ∧ p.1.natAbs.log2 < 590
  tt : ∀ k < 24, goT (r.2.1.drop 1) (r.2.2.2.take (k + 1)) r.1.natAbs (k + 1) (turns r.1.natAbs) 0 0 = true
theorem row_ok {r : Row} (hr : r ∈ tab) : RowOk r := by
  have q := rows_ok r hr
  unfold chkRow chkVal chkPs chkB chkS chkT at q
  simp only [Bool.and_eq_true, decide_eq_true_eq, List.all_eq_true, beq_iff_eq, List.mem_range] at q
  obtain ⟨⟨q1, q2⟩, q3, q4, q5, ⟨⟨⟨q6, q7⟩, q8, q9⟩, q10, q11⟩, q12⟩ := q
  refine ⟨q6, q7, okN_eq q1, fun a ha => okI_eq (q2 a (by omega)), ?_, q8, q9, q4, fun k hk => okP_eq (q5 k hk), q10, fun p hp => ?_, q12⟩
  · unfold chkVals at q3
    split at q3
    · rename_i e; rw [e]; rw [e] at q3; exact okL_eq q3
    · rename_i e
      split at q3
      · rename_i xs hx
        rw [beq_iff_eq] at q3
        rw [v_l_values e (by omega) hx, q3]
      · cases q3
  · have := q11 p hp
    exact ⟨this.1.1, this.1.2, this.2.1, this.2.2⟩
theorem v_is_integer {i : Int} : g_is_integer [.int i] = some (.sh (.bool true)) := by
  simp [g_is_integer, bodyG, startE, d_is_integer]
theorem v_is_between {i a b : Int} (h1 : a ≤ i) (h2 : i ≤ b) : g_is_between [.int i, .int a, .int b] = some (.sh (.bool true)) := by
  simp [g_is_between, bodyG, startE, d_is_between, v_is_integer, h1, h2]
theorem chi_b {V : List Int} (h : ∀ v ∈ V, v.natAbs ≤ 1) (a : Int) : (chiR V a).natAbs ≤ 1 := by
  unfold chiR
  rw [List.getD_eq_getElem?_getD]
  cases e : V[a.toNat]? with
  | none => simp
  | some v => exact h v (List.mem_of_getElem? e)
theorem v_bern {r : Row} (h : RowOk r) {k : Nat} (hk : k < 25) : g_bernoulli [.int (k : Nat), .int r.1] = some (.sh (pr (r.2.2.2.getD k (0, 0)))) := by
  have e1 := v_is_between (i := (k : Nat)) (a := 0) (b := 24) (by omega) (by omega)
  have e2 : g_signed_number [.int (k : Nat), .int r.1] = some (.sh (pr (r.2.2.2.getD k (0, 0)))) := by
    refine v_signed (chi := chiR r.2.1) (sm := smR r.2.2.1) (fs := tabF.take (k + 1)) (by omega) (by omega) h.d0 (by have := h.d1; omega) (first_at hk) ?_ (fun a l1 l2 => ?_) (chi_b h.v1) (fun j hj => h.ps j (by omega)) (h.bs k hk)
    · rw [List.length_take, show tabF.length = 25 from rfl]; omega
    · have := h.val a.toNat (by omega)
      rw [Int.toNat_of_nonneg (by omega)] at this
      exact this
  refine bodyG_eq rfl ?_
  refine WS.seqW (WS.ifF (by simp [startE, e1]; exact rfl) (WS.nx ?_))
  dsimp only
  refine WS.seq (by simp [h.ns]; exact rfl) ?_
  refine WS.end (by simp [e2, flat_pr]; exact rfl) ?_
  exact rfl
theorem v_sign_at {r : Row} (h : RowOk r) {a : Nat} (ha : a ≤ r.1.natAbs) : g_sign_at [.int r.1, .int (a : Nat)] = some (.sh (.int (r.2.1.getD a 0))) := by
  simp [g_sign_at, bodyG, startE, d_sign_at, h.ns, v_is_integer, h.val a ha]
theorem nums_succ (lo : Int) (n : Nat) : nums lo (n + 1) = lo :: nums (lo + 1) n := by
  unfold nums
  rw [List.range_succ_eq_map, List.map_cons, List.map_map]
  congr 1
  · simp
  · refine List.map_congr_left fun i _ => ?_
    show lo + ((i + 1 : Nat) : Int) = lo + 1 + (i : Int)
    omega
theorem perSum_eq (f : Int → Int) (m : Nat) : ∀ (W : List Int) (lo : Nat), (∀ i (h : i < W.length), f ((lo + i : Nat) : Int) = W[i] * (((lo + i) ^ m : Nat) : Int)) → ((nums (lo : Int) W.length).map f).sum = perSum W lo m
  | [], _, _ => rfl
  | w :: W, lo, h => by
    have h0 := h 0 (by simp)
    have ih := perSum_eq f m W (lo + 1) (fun i hi => by
      have := h (i + 1) (by simpa using hi)
      rw [show lo + 1 + i = lo + (i + 1) by omega]
      simpa using this)
    rw [List.length_cons, nums_succ, List.map_cons, List.sum_cons, perSum, ← ih]
    simp only [Nat.add_zero, List.getElem_cons_zero] at h0
    rw [h0]
    rfl
theorem chk_V0 : (tab.all fun r => r.2.1.getD 0 0 == r.2.1.getD r.1.natAbs 0) = true := by decide +kernel
def term (V : List Int) (size k : Nat) (a : Int) : Int := V.getD (a % (size : Int)).toNat 0 * a ^ (k - 1)
theorem inner_ok {r : Row} (hr : r ∈ tab) (h : RowOk r) {k t : Nat} (hk : 1 ≤ k) (hk2 : k < 25) (ht : t < 5 ∨ r.1.natAbs * t < 300) (ht2 : t ≤ 5) {Vt : List Int} (hVt : Vt = r.2.1.take r.1.natAbs) {tot : Int} {a0 a1 a4 a7 a9 a10 a11 a12 a13 a14 a15 : Option S} :
    ∃ ρ', forGo (nameG 11) w5_law (rngD ((t * r.1.natAbs + 1 : Nat) : Int) r.1.natAbs) [a0, a1, some (.sh (.int r.1)), some (.sh (.int (k : Nat))), a4, some (.sh (.int (r.1.natAbs : Nat))), some (.ls (Vt.map PyData.int)), a7, some (.sh (.int tot)), a9, a10, a11, a12, a13, a14, a15] = some (.nx ρ') ∧
      ∃ o11, ρ' = [a0, a1, some (.sh (.int r.1)), some (.sh (.int (k : Nat))), a4, some (.sh (.int (r.1.natAbs : Nat))), some (.ls (Vt.map PyData.int)), a7, some (.sh (.int (tot + perSum (r.2.1.drop 1) (t * r.1.natAbs + 1) (k - 1)))), a9, a10, o11, a12, a13, a14, a15] := by
  have h0 := h.d0
  have h1 := h.d1
  have hvl := h.vl
  generalize hz : r.1.natAbs = size at *
  have hs : 1 ≤ size := by omega
  obtain ⟨ρ', g1, o11, g2⟩ := for_rng (tg := nameG 11) (f := w5_law) (lo := ((t * size + 1 : Nat) : Int)) (n := size) (E := fun pre ρ => ∃ o11, ρ = [a0, a1, some (.sh (.int r.1)), some (.sh (.int (k : Nat))), a4, some (.sh (.int (size : Nat))), some (.ls (Vt.map PyData.int)), a7, some (.sh (.int (tot + (pre.map (term r.2.1 size k)).sum))), a9, a10, o11, a12, a13, a14, a15])
    (ρ := [a0, a1, some (.sh (.int r.1)), some (.sh (.int (k : Nat))), a4, some (.sh (.int (size : Nat))), some (.ls (Vt.map PyData.int)), a7, some (.sh (.int tot)), a9, a10, a11, a12, a13, a14, a15]) ⟨a11, by simp⟩ (by
    rintro pre a ρ ha hl ⟨o11, rfl⟩
    have hts : t * size ≤ 400 := by
      rcases ht with q | q
      · have : t * size ≤ 5 * 70 := Nat.mul_le_mul ht2 h1
        omega
      · rw [Nat.mul_comm]; omega
    have m0 : 0 ≤ a % (size : Int) := Int.emod_nonneg _ (by omega)
    have m1 : a % (size : Int) < size := Int.emod_lt_of_pos _ (by omega)
    obtain ⟨d, d1, d2⟩ := atI_of (xs := Vt.map PyData.int) (i := a % (size : Int)) m0 (by rw [List.length_map, hVt, List.length_take, hvl]; omega)
    rw [List.getElem?_map, hVt, List.getElem?_take, if_pos (by omega)] at d1
    obtain ⟨v, d3, rfl⟩ := Option.map_eq_some_iff.mp d1
    have d4 : r.2.1.getD (a % (size : Int)).toNat 0 = v := by rw [List.getD_eq_getElem?_getD, d3]; rfl
    have p1 : g_l_power [.int a, .int ((k : Int) - 1)] = some (.sh (.int (a ^ (k - 1)))) := by
      have := v_l_power (x := a) (n := k - 1) (by omega) (by omega)
      rw [show ((k - 1 : Nat) : Int) = (k : Int) - 1 by omega] at this
      exact this
    have p2 := mulS_small (h.v1 v (List.mem_of_getElem? d3)) (show (a ^ (k - 1)).natAbs.log2 < 900000 by have := log2_pow (b := a) (by omega) (k - 1); omega)
    have p3 := gMod_ok (a := a) (b := (size : Int)) (by omega)
    refine ⟨_, [a0, a1, some (.sh (.int r.1)), some (.sh (.int (k : Nat))), a4, some (.sh (.int (size : Nat))), some (.ls (Vt.map PyData.int)), a7, some (.sh (.int (tot + (pre.map (term r.2.1 size k)).sum + v * a ^ (k - 1)))), a9, a10, some (.sh (.int a)), a12, a13, a14, a15], rfl, .inl (Gv.eq ?_), some (.sh (.int a)), ?_⟩
    · unfold w5_law
      simp [p1, p2, p3, d2]
      exact rfl
    · rw [List.map_append, List.sum_append, List.map_singleton, List.sum_singleton]
      unfold term
      rw [d4, Int.add_assoc])
  refine ⟨ρ', g1, o11, ?_⟩
  rw [g2]
  have e : ((nums ((t * size + 1 : Nat) : Int) size).map (term r.2.1 size k)).sum = perSum (r.2.1.drop 1) (t * size + 1) (k - 1) := by
    have hW : (r.2.1.drop 1).length = size := by rw [List.length_drop, hvl]; omega
    have := perSum_eq (term r.2.1 size k) (k - 1) (r.2.1.drop 1) (t * size + 1) (fun i hi => by
      unfold term
      rw [Int.natCast_pow]
      congr 1
      rw [hW] at hi
      have e1 : (((t * size + 1 + i : Nat) : Int) % (size : Int)).toNat = (t * size + 1 + i) % size := by
        rw [← Int.natCast_emod, Int.toNat_natCast]
      rw [e1, List.getElem_drop, show t * size + 1 + i = 1 + i + size * t by rw [Nat.mul_comm]; omega, Nat.add_mul_mod_self_left]
      by_cases hi2 : 1 + i < size
      · rw [Nat.mod_eq_of_lt hi2, List.getD_eq_getElem?_getD, List.getElem?_eq_getElem (by omega)]; rfl
      · have e2 : 1 + i = size := by omega
        have e3 : (1 + i) % size = 0 := by rw [e2, Nat.mod_self]
        have q := List.all_eq_true.mp chk_V0 r hr
        rw [beq_iff_eq, hz] at q
        rw [e3, q, List.getD_eq_getElem?_getD, List.getElem?_eq_getElem (by omega)]
        simp only [e2]
        rfl)
    rw [hW] at this
    exact this
  rw [e]
theorem turns_le {size t : Nat} (hs : 1 ≤ size) (h2 : size ≤ 70) (h : t < turns size) : t < 5 ∧ (t + 1) * size ≤ 240 := by
  unfold turns at h
  have h1 : t < 5 := by
    have : max 1 (min 5 (240 / size)) ≤ 5 := by omega
    omega
  have h3 : 1 ≤ 240 / size := (Nat.le_div_iff_mul_le (by omega)).mpr (by omega)
  have h4 : t + 1 ≤ 240 / size := by omega
  exact ⟨h1, (Nat.le_div_iff_mul_le (by omega)).mp h4⟩
theorem log2_mul_le {a b : Nat} (ha : a ≠ 0) (hb : b ≠ 0) : a.log2 + b.log2 ≤ (a * b).log2 := by
  have h1 := Nat.log2_self_le ha
  have h2 := Nat.log2_self_le hb
  have h3 := Nat.mul_le_mul h1 h2
  rw [← Nat.pow_add] at h3
  exact (Nat.le_log2 (Nat.mul_ne_zero ha hb)).mpr h3
theorem mulS_le {k w c y : Int} (hk : k ≠ 0) (hk1 : k.natAbs.log2 < 1000) (h : mulO (k * w) c = some y) : mulS (.int k) (.int w) = some (.sh (.int (k * w))) := by
  unfold mulO at h
  split at h
  · rename_i hl
    show (if _ then _ else _) = _
    rw [if_pos]
    by_cases hw : w.natAbs = 0
    · rw [hw, Nat.log2_zero]; omega
    · have := log2_mul_le (show k.natAbs ≠ 0 by omega) hw
      rw [← Int.natAbs_mul] at this
      omega
  · cases h
theorem w6_a {k D pp tot : Int} {t ts size : Nat} {V N : S} {a0 a1 a4 a9 a11 a12 a13 a14 a15 o11 : Option S} (e2 : ∀ ρ : Dn.Env, rng2K ((ts : Int) + 1) ((ts : Int) + (size : Nat) + 1) ρ = some (rngD ((ts + 1 : Nat) : Int) size, ρ)) (c4 : mulS (.int (t : Nat)) (.int (size : Nat)) = some (.sh (.int ((ts : Nat) : Int))))
    (g1 : forGo (nameG 11) w5_law (rngD ((ts + 1 : Nat) : Int) size) [a0, a1, some (.sh (.int D)), some (.sh (.int k)), a4, some (.sh (.int (size : Nat))), some V, some N, some (.sh (.int tot)), a9, some (.sh (.int (t : Nat))), a11, a12, a13, a14, a15] = some (.nx [a0, a1, some (.sh (.int D)), some (.sh (.int k)), a4, some (.sh (.int (size : Nat))), some V, some N, some (.sh (.int (tot + pp))), a9, some (.sh (.int (t : Nat))), o11, a12, a13, a14, a15])) :
    forS (rng2I (consA (binE addS (binE mulS (nameE [14, 15, 11] 10) (nameE [14, 15, 11] 5)) (cst (.int 1))) (consA (binE addS (binE addS (binE mulS (nameE [14, 15, 11] 10) (nameE [14, 15, 11] 5)) (nameE [14, 15, 11] 5)) (cst (.int 1))) nilA))) (nameG 11) w5_law [a0, a1, some (.sh (.int D)), some (.sh (.int k)), a4, some (.sh (.int (size : Nat))), some V, some N, some (.sh (.int tot)), a9, some (.sh (.int (t : Nat))), a11, a12, a13, a14, a15] = some (.nx [a0, a1, some (.sh (.int D)), some (.sh (.int k)), a4, some (.sh (.int (size : Nat))), some V, some N, some (.sh (.int (tot + pp))), a9, some (.sh (.int (t : Nat))), o11, a12, a13, a14, a15]) := by
  simp only [ev_forS, ev_rng2, ev_consA, ev_bin, ev_nameE, eg10, eg5, Option.bind_some, Option.map_some, view_sh, c4, ev_cst, addS_int, ev_nilA, viewL_cons, viewL_nil, e2]
  exact g1
theorem w6_b1 {k D tot : Int} {t ts size : Nat} {V : S} {N : PyData} {a0 a1 a4 a9 a12 a13 a14 a15 o11 : Option S} (c4 : mulS (.int (t : Nat)) (.int (size : Nat)) = some (.sh (.int ((ts : Nat) : Int)))) :
    binE addS (binE mulS (nameE [14, 15, 11] 10) (nameE [14, 15, 11] 5)) (nameE [14, 15, 11] 5) [a0, a1, some (.sh (.int D)), some (.sh (.int k)), a4, some (.sh (.int (size : Nat))), some V, some (.sh N), some (.sh (.int tot)), a9, some (.sh (.int (t : Nat))), o11, a12, a13, a14, a15] = some (.sh (.int ((ts : Int) + (size : Nat))), [a0, a1, some (.sh (.int D)), some (.sh (.int k)), a4, some (.sh (.int (size : Nat))), some V, some (.sh N), some (.sh (.int tot)), a9, some (.sh (.int (t : Nat))), o11, a12, a13, a14, a15]) := by
  simp [c4]
theorem w6_b2 {k D tot kw en : Int} {t size : Nat} {V : S} {N q : PyData} {be : EE} {ge gq : List PyData → Option S} {a0 a1 a4 a9 a12 a13 a14 a15 o11 : Option S} (e5 : be [a0, a1, some (.sh (.int D)), some (.sh (.int k)), a4, some (.sh (.int (size : Nat))), some V, some (.sh N), some (.sh (.int tot)), a9, some (.sh (.int (t : Nat))), o11, a12, a13, a14, a15] = some (.sh (.int en), [a0, a1, some (.sh (.int D)), some (.sh (.int k)), a4, some (.sh (.int (size : Nat))), some V, some (.sh N), some (.sh (.int tot)), a9, some (.sh (.int (t : Nat))), o11, a12, a13, a14, a15]))
    (c1 : ge [N, .int k, .int en] = some (.sh q)) (c3 : mulS (.int k) (.int tot) = some (.sh (.int kw))) (c2 : gq [q, .int kw] = some (.sh (.bool true))) (c5 : flatD q = true) :
    notB (truE (callF gq (consA (callF ge (consA (nameE [14, 15, 11] 7) (consA (nameE [14, 15, 11] 3) (consA be nilA)))) (consA (binE mulS (nameE [14, 15, 11] 3) (nameE [14, 15, 11] 8)) nilA)))) [a0, a1, some (.sh (.int D)), some (.sh (.int k)), a4, some (.sh (.int (size : Nat))), some V, some (.sh N), some (.sh (.int tot)), a9, some (.sh (.int (t : Nat))), o11, a12, a13, a14, a15] = some (false, [a0, a1, some (.sh (.int D)), some (.sh (.int k)), a4, some (.sh (.int (size : Nat))), some V, some (.sh N), some (.sh (.int tot)), a9, some (.sh (.int (t : Nat))), o11, a12, a13, a14, a15]) := by
  simp [c1, c2, c3, c5, e5]
theorem ifS_F {t : BE} {f g : SE} {ρ ρ' : Dn.Env} (h : t ρ = some (false, ρ')) : ifS t f g ρ = g ρ' := by
  rw [ev_ifS, h, Option.bind_some, if_neg (by simp)]
theorem w6_b {k D tot kw : Int} {t ts size : Nat} {V : S} {N : PyData} {q : Int × Int} {a0 a1 a4 a9 a12 a13 a14 a15 o11 : Option S} (c4 : mulS (.int (t : Nat)) (.int (size : Nat)) = some (.sh (.int ((ts : Nat) : Int))))
    (c1 : g_l_end [N, .int k, .int ((ts : Int) + (size : Nat))] = some (.sh (pr q))) (c3 : mulS (.int k) (.int tot) = some (.sh (.int kw))) (c2 : g_l_is_equal [pr q, .int kw] = some (.sh (.bool true))) :
    (ifS (notB (truE (callF g_l_is_equal (consA (callF g_l_end (consA (nameE [14, 15, 11] 7) (consA (nameE [14, 15, 11] 3) (consA (binE addS (binE mulS (nameE [14, 15, 11] 10) (nameE [14, 15, 11] 5)) (nameE [14, 15, 11] 5)) nilA)))) (consA (binE mulS (nameE [14, 15, 11] 3) (nameE [14, 15, 11] 8)) nilA))))) (retS (cst (.bool false))) nxS)
      [a0, a1, some (.sh (.int D)), some (.sh (.int k)), a4, some (.sh (.int (size : Nat))), some V, some (.sh N), some (.sh (.int tot)), a9, some (.sh (.int (t : Nat))), o11, a12, a13, a14, a15] = some (.nx [a0, a1, some (.sh (.int D)), some (.sh (.int k)), a4, some (.sh (.int (size : Nat))), some V, some (.sh N), some (.sh (.int tot)), a9, some (.sh (.int (t : Nat))), o11, a12, a13, a14, a15]) := by
  exact ifS_F (w6_b2 (w6_b1 c4) c1 c3 c2 (flat_pr q))
theorem turn_ok {r : Row} (hr : r ∈ tab) (h : RowOk r) {k t n : Nat} (hk : 1 ≤ k) (hk2 : k < 25) (ht : t < turns r.1.natAbs) {Vt : List Int} (hVt : Vt = r.2.1.take r.1.natAbs) {bs : List (Int × Int)} {tot : Int} {a0 a1 a4 a9 a11 a12 a13 a14 a15 : Option S}
    (hg : goT (r.2.1.drop 1) bs r.1.natAbs k (n + 1) t tot = true) :
    ∃ tot' o11, w6_law [a0, a1, some (.sh (.int r.1)), some (.sh (.int (k : Nat))), a4, some (.sh (.int (r.1.natAbs : Nat))), some (.ls (Vt.map PyData.int)), some (.sh (.list (bs.map pr))), some (.sh (.int tot)), a9, some (.sh (.int (t : Nat))), a11, a12, a13, a14, a15] =
      some (.nx [a0, a1, some (.sh (.int r.1)), some (.sh (.int (k : Nat))), a4, some (.sh (.int (r.1.natAbs : Nat))), some (.ls (Vt.map PyData.int)), some (.sh (.list (bs.map pr))), some (.sh (.int tot')), a9, some (.sh (.int (t : Nat))), o11, a12, a13, a14, a15]) ∧
      goT (r.2.1.drop 1) bs r.1.natAbs k n (t + 1) tot' = true := by
  have h0 := h.d0
  have h1 := h.d1
  have hs : 1 ≤ r.1.natAbs := by omega
  obtain ⟨t5, t6⟩ := turns_le hs h1 ht
  have t7 : t * r.1.natAbs ≤ 240 := Nat.le_trans (Nat.mul_le_mul_right _ (Nat.le_succ t)) t6
  obtain ⟨ρ', g1, o11, g2⟩ := inner_ok hr h hk hk2 (.inl t5) (by omega) hVt (tot := tot) (a0 := a0) (a1 := a1) (a4 := a4) (a7 := some (.sh (.list (bs.map pr)))) (a9 := a9) (a10 := some (.sh (.int (t : Nat)))) (a11 := a11) (a12 := a12) (a13 := a13) (a14 := a14) (a15 := a15)
  subst g2
  rw [goT, Bool.and_eq_true] at hg
  obtain ⟨hg1, hg2⟩ := hg
  split at hg1
  · rename_i x hx
    split at hg1
    · rename_i y hy
      rw [beq_iff_eq] at hg1
      generalize perSum (r.2.1.drop 1) (t * r.1.natAbs + 1) (k - 1) = pp at *
      have c1 := v_l_end (bs := bs) (k := (k : Nat)) (e := (((t + 1) * r.1.natAbs : Nat) : Int)) (by omega) (by omega) (by omega) (by omega) hx
      have c2 := v_l_is_equal (a := x.1) hy
      have c3 := mulS_le (k := (k : Nat)) (by omega) (by have := log2_of (i := (k : Nat)) (n := 5) (by show _ < 32; omega) (by decide); omega) hy
      have c4 : mulS (.int (t : Nat)) (.int (r.1.natAbs : Nat)) = some (.sh (.int ((t * r.1.natAbs : Nat) : Int))) := by
        rw [mulS_ok (by omega) (by omega) (by omega) (by omega)]; rfl
      have e1 : (((t + 1) * r.1.natAbs : Nat) : Int) = ((t * r.1.natAbs : Nat) : Int) + (r.1.natAbs : Nat) := by
        rw [Nat.succ_mul]; rfl
      rw [e1] at c1
      generalize t * r.1.natAbs = ts at *
      generalize r.1.natAbs = size at *
      have e2 : ∀ ρ : Dn.Env, rng2K ((ts : Int) + 1) ((ts : Int) + (size : Nat) + 1) ρ = some (rngD ((ts + 1 : Nat) : Int) size, ρ) := fun ρ => by
        rw [rng2K_ok (by omega) (by omega) (by omega) (by omega), show ((ts : Int) + (size : Nat) + 1 - ((ts : Int) + 1)).toNat = size by omega]; rfl
      refine ⟨tot + pp, o11, Gv.eq ?_, hg2⟩
      unfold w6_law
      rw [ev_seqS, w6_a e2 c4 g1, Option.bind_some]
      exact w6_b c4 c1 c3 (by rw [c2, hg1]; simp)
    · cases hg1
  · cases hg1
theorem sign_ok (st : Dn.Deck) (n : Int) (h : DeckOk true n st) (hn : n ≤ 100000) :
    ∃ s st', g_l_sign st [] = some (s, st') ∧ ∃ r ∈ tab, s = .sh (.int (Prod.fst r)) ∧ DeckOk true (n + 2) st' := by
  obtain ⟨s, st1, e, d, rfl, d0, d1, hd⟩ := draw_ok st n 3 h (by omega) (by omega) (by omega)
  refine bodyK_of rfl ?_
  refine WS.seqW (WS.ifB (by simp [startK, e]; exact rfl) (fun _ => ?_) fun _ => WS.nx ?_)
  · obtain ⟨s, st2, e2, x, rfl, hx, hd2⟩ := pickl_ok st1 (n + 1) [1, -3, -4, 5, -7, 8, -8, 12, 1] hd (by omega) (by simp) (by simp)
    have hr : ∃ r ∈ tab, Prod.fst r = x := by
      have q : ([1, -3, -4, 5, -7, 8, -8, 12, 1] : List Int).all (fun y => tab.any fun r => r.1 == y) = true := by decide +kernel
      obtain ⟨r, hr, e⟩ := List.any_eq_true.mp (List.all_eq_true.mp q x hx)
      exact ⟨r, hr, by rw [beq_iff_eq] at e; exact e⟩
    obtain ⟨r, hr, rfl⟩ := hr
    simp only [List.map_cons, List.map_nil] at e2
    refine WS.end (by simp [e2]; exact rfl) ?_
    exact ⟨_, _, by simp; exact rfl, r, hr, rfl, hd2.mono (by omega)⟩
  · dsimp only
    obtain ⟨s, st2, e2, x, rfl, x0, x1, hd2⟩ := draw_ok st1 (n + 1) 125 hd (by omega) (by omega) (by omega)
    refine WS.seq (by simp [e2]; exact rfl) ?_
    refine WS.seqW (WS.forI (by simp; exact rfl) (fun i ρ => ∃ o2, ρ = [some (.deck st2), some (.sh (.int (x - 64))), o2]) ⟨_, rfl⟩ ?_ ?_)
    · rintro i d ρ hm ⟨o2, rfl⟩
      have hi : i < 6 := by
        have := (List.getElem?_eq_some_iff.mp hm).1
        simpa [rngD_length] using this
      have hdv : d = .int (i : Int) := by
        have := rngD_get 6 0 i hi
        have e : some d = some (.int (0 + (i : Int))) := hm.symm.trans this
        rw [Option.some.inj e]; congr 1; omega
      subst hdv
      refine ⟨_, rfl, ?_⟩
      have hs := List.all_eq_true.mp chk_S (x - 64 + i) (List.mem_map.mpr ⟨(x + i).toNat, List.mem_range.mpr (by omega), by omega⟩)
      unfold isS at hs
      split at hs
      · rename_i b hb
        refine WS.ifB (by simp [hb]; exact rfl) (fun hb1 => ?_) fun _ => WS.nx ⟨_, rfl⟩
        subst hb1
        rw [Bool.not_true, Bool.false_or] at hs
        obtain ⟨r, hr, e⟩ := List.any_eq_true.mp hs
        rw [beq_iff_eq] at e
        refine WS.end (by simp; exact rfl) ?_
        exact ⟨_, _, by simp; exact rfl, r, hr, by rw [e], hd2.mono (by omega)⟩
      · cases hs
    · rintro ρ ⟨o2, rfl⟩
      dsimp only
      have hr : ∃ r ∈ tab, Prod.fst r = 1 := by
        have q : (tab.any fun r => r.1 == 1) = true := by decide +kernel
        obtain ⟨r, hr, e⟩ := List.any_eq_true.mp q
        exact ⟨r, hr, by rw [beq_iff_eq] at e; exact e⟩
      obtain ⟨r, hr, e9⟩ := hr
      refine WS.end (by simp; exact rfl) ?_
      exact ⟨_, _, by simp; exact rfl, r, hr, by rw [e9], hd2.mono (by omega)⟩
theorem r1_in : r1 ∈ tab := by
  have q : (tab.any fun r => (r.1 == 1)) = true := by decide +kernel
  have e : ∃ i, tab[i]? = some r1 := ⟨23, rfl⟩
  obtain ⟨i, e⟩ := e
  exact List.mem_of_getElem? e
theorem bern1 {k : Nat} (hk : k < 25) : g_bernoulli [.int (k : Nat), .int 1] = some (.sh (pr (r1.2.2.2.getD k (0, 0)))) := v_bern (row_ok r1_in) hk
theorem num1 {r : Row} (h : RowOk r) {k : Nat} (hk : k < 25) : g_l_is_number [pr (r.2.2.2.getD k (0, 0))] = some (.sh (.bool true)) := by
  have hl := h.bl
  have : r.2.2.2.getD k (0, 0) ∈ r.2.2.2 := by
    rw [List.getD_eq_getElem?_getD, List.getElem?_eq_getElem (by omega)]
    exact List.getElem_mem (by omega)
  have q := h.b1 _ this
  exact v_l_is_number q.1 (by omega) q.2.2.1
theorem kummer_ok {p k : Nat} (hp : p ∈ [5, 7, 11, 13, 17, 19]) {d : Nat} (hd : d < (26 - p) / 2) (hk : k = 2 + 2 * d) (h : k % (p - 1) ≠ 0) : g_l_is_kummer [.int (p : Nat), .int (k : Nat)] = some (.sh (.bool true)) := by
  have hp' : p = 5 ∨ p = 7 ∨ p = 11 ∨ p = 13 ∨ p = 17 ∨ p = 19 := by simpa using hp
  have hc : chkK p k = true := by
    have := List.all_eq_true.mp (List.all_eq_true.mp chk_K p hp) d (List.mem_range.mpr hd)
    rw [← hk] at this
    exact this
  have b0 := bern1 (k := k) (by omega)
  have b2 := bern1 (k := k + p - 1) (by omega)
  have e1 : ((k + p - 1 : Nat) : Int) = (k : Int) + p - 1 := by omega
  rw [e1] at b2
  unfold chkK at hc
  rw [Bool.or_eq_true, beq_iff_eq] at hc
  rcases hc with hc | hc
  · exact absurd hc h
  · split at hc
    · rename_i ρ' hρ
      refine bodyG_eq rfl ?_
      rw [kum_eq]
      refine WS.seq (by simp [startE, b0, b2, flat_pr]; exact rfl) ?_
      exact WS.end (show Gv _ _ from hρ) rfl
    · cases hc
theorem take_nums {α β : Type} (f : α → β) (xs : List α) (d : α) {n : Nat} (hn : n ≤ xs.length) : (nums 0 n).map (fun a => f (xs.getD a.toNat d)) = (xs.take n).map f := by
  refine List.ext_getElem? fun i => ?_
  unfold nums
  rw [List.map_map, List.getElem?_map, List.getElem?_map]
  by_cases h : i < n
  · rw [List.getElem?_range h, List.getElem?_take, if_pos h, List.getElem?_eq_getElem (by omega)]
    show some (f (xs.getD (0 + (i : Int)).toNat d)) = some (f xs[i])
    rw [show (0 + (i : Int)).toNat = i by omega, List.getD_eq_getElem?_getD, List.getElem?_eq_getElem (by omega)]
    rfl
  · rw [List.getElem?_eq_none (by simp; omega), List.getElem?_eq_none (by rw [List.length_take]; omega)]
    rfl
theorem flat_ints (ns : List Int) : flatD.flatAll (ns.map PyData.int) = true := by
  induction ns with
  | nil => rfl
  | cons n ns ih => rw [List.map_cons, flatAll_cons, ih]; rfl
theorem repr_ne {d : PyData} (h : reprOk d = true) : gRepr [d] = some (.sh (.str d.shown)) := if_pos h
theorem rp_vals {V : List Int} (h : ∀ v ∈ V, v.natAbs ≤ 1) (hl : V.length ≤ 100) : reprOk (.list (V.map PyData.int)) = true := by
  refine (RP.lst (n := 0) (w := 200) ((RPL.all (w := 1) fun x hx => ?_).mono (Nat.le_refl _) (by rw [List.length_map]; omega))).ok (by decide) (by decide)
  obtain ⟨v, hv, rfl⟩ := List.mem_map.mp hx
  exact RP.int 1 (by have := h v hv; show _ < 2; omega) (by decide) (by decide)
theorem rp_pr {p : Int × Int} (h0 : 1 ≤ p.2) (h1 : p.2 ≤ 1000000) (h2 : p.1.natAbs.log2 < 590) : reprOk (pr p) = true := by
  have q : p.1.natAbs < 2 ^ 590 := by
    by_cases z : p.1.natAbs = 0
    · rw [z]; exact Nat.pos_of_ne_zero (by simp)
    · exact (Nat.log2_lt z).mp h2
  exact (RP.tup (RPL.cons (n := 0) (w := 590) (RP.int 590 q (by decide) (by decide)) (RPL.cons (w := 20) (RP.int 20 (by show _ < 1048576; omega) (by decide) (by decide)) (RPL.nil (n := 0))))).ok (by decide) (by decide)
theorem math : ∀ ns : List Int, ns.length ≤ 63 → g_law ns = some (.sh (.bool true)) := by
  intro ns hn
  obtain ⟨st0, e0, hd0⟩ := deck_ok ns hn
  obtain ⟨s, st1, e1, r, hr, rfl, hd1⟩ := sign_ok st0 0 hd0 (by omega)
  obtain ⟨s, st2, e2, k', rfl, k0, k1, hd2⟩ := draw_ok st1 _ 24 hd1 (by omega) (by omega) (by omega)
  obtain ⟨s, st3, e3, P, rfl, p0, p1, hd3⟩ := draw_ok st2 _ 5 hd2 (by omega) (by omega) (by omega)
  have h := row_ok hr
  have h0 := h.d0
  have h1 := h.d1
  obtain ⟨k, hk⟩ : ∃ k : Nat, (k : Int) = 1 + k' := ⟨(1 + k').toNat, by omega⟩
  have hk1 : 1 ≤ k := by omega
  have hk2 : k ≤ 24 := by omega
  have main : ∃ s, g_law ns = some s ∧ s = .sh (.bool true) := by
    refine bodyN_of ?_
    refine WS.seq (by simp [startN, e0]; exact rfl) ?_
    refine WS.seq (by simp [e1, e2, e3, ← hk]; exact rfl) ?_
    generalize hper : 1 + P = per
    have esz : (if r.1 < 0 then -r.1 else r.1) = (r.1.natAbs : Int) := by split <;> omega
    obtain ⟨Vt, hVt⟩ : ∃ Vt, Vt = r.2.1.take r.1.natAbs := ⟨_, rfl⟩
    have hvals := h.vals
    rw [← hVt] at hvals
    have fl := flat_ints Vt
    refine WS.seq (by simp [esz, hvals, fl]; exact rfl) ?_
    have hvl := h.vl
    have e5 : lcK [11] (nameG 11) yesB e1_law (rngD 0 r.1.natAbs) [some (.scr ns), some (.deck st3), some (.sh (.int r.1)), some (.sh (.int (k : Nat))), some (.sh (.int per)), some (.sh (.int (r.1.natAbs : Nat))), some (.ls (Vt.map PyData.int)), none, none, none, none, none, none, none, none, none] = some (.ls (Vt.map PyData.int), [some (.scr ns), some (.deck st3), some (.sh (.int r.1)), some (.sh (.int (k : Nat))), some (.sh (.int per)), some (.sh (.int (r.1.natAbs : Nat))), some (.ls (Vt.map PyData.int)), none, none, none, none, none, none, none, none, none]) := by
      have q := lcK_rng (vs := [11]) (tg := nameG 11) (tt := yesB) (el := e1_law) (ρ := [some (.scr ns), some (.deck st3), some (.sh (.int r.1)), some (.sh (.int (k : Nat))), some (.sh (.int per)), some (.sh (.int (r.1.natAbs : Nat))), some (.ls (Vt.map PyData.int)), none, none, none, none, none, none, none, none, none]) (e := fun a => .int (r.2.1.getD a.toNat 0)) (t := fun _ => true) (lo := 0) (n := r.1.natAbs) rfl (by omega) (fun x l1 l2 => by
        have q := v_sign_at h (a := x.toNat) (by omega)
        rw [Int.toNat_of_nonneg l1] at q
        exact ⟨_, rfl, rfl, fun _ => ⟨_, by simp [e1_law, q]; exact ⟨rfl, rfl⟩⟩, rfl⟩)
      rw [List.filter_eq_self.mpr (fun _ _ => rfl), take_nums PyData.int r.2.1 0 (by omega), ← hVt] at q
      exact q
    have rv := rp_vals (V := Vt) (fun v hv => h.v1 v (by rw [hVt] at hv; exact List.mem_of_mem_take hv)) (by rw [hVt, List.length_take]; omega)
    have e6 : ∀ ρ : Dn.Env, rng1K (r.1.natAbs : Int) ρ = some (rngD 0 r.1.natAbs, ρ) := fun ρ => by rw [rng1K_ok (by omega) (by omega)]; rfl
    refine WS.seqW (WS.ifF (by simp [e6, e5, repr_ne rv]; exact rfl) (WS.nx ?_))
    dsimp only
    have e7 : lcK [14] (nameG 14) yesB e2_law (rngD 0 k) [some (.scr ns), some (.deck st3), some (.sh (.int r.1)), some (.sh (.int (k : Nat))), some (.sh (.int per)), some (.sh (.int (r.1.natAbs : Nat))), some (.ls (Vt.map PyData.int)), none, none, none, none, none, none, none, none, none] = some (.ls ((r.2.2.2.take k).map pr), [some (.scr ns), some (.deck st3), some (.sh (.int r.1)), some (.sh (.int (k : Nat))), some (.sh (.int per)), some (.sh (.int (r.1.natAbs : Nat))), some (.ls (Vt.map PyData.int)), none, none, none, none, none, none, none, none, none]) := by
      have q := lcK_rng (vs := [14]) (tg := nameG 14) (tt := yesB) (el := e2_law) (ρ := [some (.scr ns), some (.deck st3), some (.sh (.int r.1)), some (.sh (.int (k : Nat))), some (.sh (.int per)), some (.sh (.int (r.1.natAbs : Nat))), some (.ls (Vt.map PyData.int)), none, none, none, none, none, none, none, none, none]) (e := fun a => pr (r.2.2.2.getD a.toNat (0, 0))) (t := fun _ => true) (lo := 0) (n := k) rfl (by omega) (fun x l1 l2 => by
        have q := v_bern h (k := x.toNat) (by omega)
        rw [Int.toNat_of_nonneg l1] at q
        exact ⟨_, rfl, rfl, fun _ => ⟨_, by simp [e2_law, q, flat_pr]; exact ⟨rfl, rfl⟩⟩, rfl⟩)
      rw [List.filter_eq_self.mpr (fun _ _ => rfl), take_nums pr r.2.2.2 (0, 0) (by rw [h.bl]; omega)] at q
      exact q
    have e8 : ∀ ρ : Dn.Env, rng1K (k : Int) ρ = some (rngD 0 k, ρ) := fun ρ => by rw [rng1K_ok (by omega) (by omega)]; rfl
    obtain ⟨bs, hbs⟩ : ∃ bs, bs = r.2.2.2.take k := ⟨_, rfl⟩
    rw [← hbs] at e7
    refine WS.seq (by simp [e8, e7]; exact rfl) ?_
    have e9 : lcK [15] (nameG 15) t3_law e4_law (bs.map pr) [some (.scr ns), some (.deck st3), some (.sh (.int r.1)), some (.sh (.int (k : Nat))), some (.sh (.int per)), some (.sh (.int (r.1.natAbs : Nat))), some (.ls (Vt.map PyData.int)), some (.sh (.list (bs.map pr))), none, none, none, none, none, none, none, none] = some (.ls [], [some (.scr ns), some (.deck st3), some (.sh (.int r.1)), some (.sh (.int (k : Nat))), some (.sh (.int per)), some (.sh (.int (r.1.natAbs : Nat))), some (.ls (Vt.map PyData.int)), some (.sh (.list (bs.map pr))), none, none, none, none, none, none, none, none]) := by
      have q := lcK_pure (vs := [15]) (tg := nameG 15) (tt := t3_law) (el := e4_law) (ρ := [some (.scr ns), some (.deck st3), some (.sh (.int r.1)), some (.sh (.int (k : Nat))), some (.sh (.int per)), some (.sh (.int (r.1.natAbs : Nat))), some (.ls (Vt.map PyData.int)), some (.sh (.list (bs.map pr))), none, none, none, none, none, none, none, none]) (inj := pr) (e := pr) (t := fun _ => false) (xs := bs) rfl (by rw [hbs, List.length_take]; omega) (fun p hp => by
        have z := h.b1 p (List.mem_of_mem_take (hbs ▸ hp))
        have z2 := v_l_is_number z.1 (by omega) z.2.2.1
        exact ⟨_, rfl, Gv.eq (by simp [t3_law, z2]; exact rfl), (nomatch ·), rfl⟩)
      rw [List.filter_eq_nil_iff.mpr (by simp)] at q
      exact q
    have n0 : eqS true (.list []) (.list []) = some (.sh (.bool false)) := rfl
    refine WS.seqW (WS.ifF (by simp [e9, n0]; exact rfl) (WS.nx ?_))
    dsimp only
    have hs1 : 1 ≤ r.1.natAbs := by omega
    have f1 := gFdiv_ok (a := 240) (b := (r.1.natAbs : Int)) (by omega) (by omega)
    obtain ⟨T, hT1, hT2, hT3⟩ : ∃ T : Nat, (if (if 240 / (r.1.natAbs : Int) < per then 240 / (r.1.natAbs : Int) else per) > 1 then (if 240 / (r.1.natAbs : Int) < per then 240 / (r.1.natAbs : Int) else per) else 1) = (T : Int) ∧ T ≤ turns r.1.natAbs ∧ T ≤ 5 := by
      have q : (240 / (r.1.natAbs : Int)) = ((240 / r.1.natAbs : Nat) : Int) := by simp
      rw [q]
      unfold turns
      generalize 240 / r.1.natAbs = z
      by_cases c1 : (z : Int) < per
      · rw [if_pos c1]
        by_cases c2 : (z : Int) > 1
        · exact ⟨z, by rw [if_pos c2], by omega, by omega⟩
        · exact ⟨1, by rw [if_neg c2]; rfl, by omega, by omega⟩
      · rw [if_neg c1]
        by_cases c2 : per > 1
        · exact ⟨per.toNat, by rw [if_pos c2]; omega, by omega, by omega⟩
        · exact ⟨1, by rw [if_neg c2]; rfl, by omega, by omega⟩
    refine WS.seq (by simp only [ev_asgS, ev_callE, ev_consA, ev_cst, ev_bin, ev_nameE, eg4, eg5, Option.bind_some, Option.map_some, view_sh, f1, ev_nilA, viewL_cons, viewL_nil, gMin2_int, gMax2_int, hT1, ownE_sh]; exact rfl) ?_
    obtain ⟨s, st4, e10, at', rfl, at0, at1, hd4⟩ := draw_ok st3 _ k hd3 (by omega) (by omega) (by omega)
    obtain ⟨at2, rfl⟩ := Int.eq_ofNat_of_zero_le at0
    refine WS.seq (by simp [e10]; exact rfl) ?_
    have e11 : ∀ ρ : Dn.Env, rng1K (T : Int) ρ = some (rngD 0 T, ρ) := fun ρ => by rw [rng1K_ok (by omega) (by omega)]; rfl
    have g0 := h.tt (k - 1) (by omega)
    rw [show k - 1 + 1 = k by omega, ← hbs] at g0
    refine WS.seqW (WS.forI (by simp [e11]; exact rfl) (fun i ρ => ∃ tot o10 o11, ρ = [some (.scr ns), some (.deck st4), some (.sh (.int r.1)), some (.sh (.int (k : Nat))), some (.sh (.int (T : Nat))), some (.sh (.int (r.1.natAbs : Nat))), some (.ls (Vt.map PyData.int)), some (.sh (.list (bs.map pr))), some (.sh (.int tot)), some (.sh (.int (at2 : Nat))), o10, o11, none, none, none, none] ∧ i ≤ T ∧ goT (r.2.1.drop 1) bs r.1.natAbs k (turns r.1.natAbs - i) i tot = true) ⟨0, _, _, rfl, by omega, g0⟩ ?_ ?_)
    · rintro i d ρ hm ⟨tot, o10, o11, rfl, hiT, hg⟩
      have hi : i < T := by
        have := (List.getElem?_eq_some_iff.mp hm).1
        simpa [rngD_length] using this
      have hdv : d = .int (i : Int) := by
        have := rngD_get T 0 i hi
        have e : some d = some (.int (0 + (i : Int))) := hm.symm.trans this
        rw [Option.some.inj e]; congr 1; omega
      subst hdv
      rw [show turns r.1.natAbs - i = (turns r.1.natAbs - (i + 1)) + 1 by omega] at hg
      obtain ⟨tot', o11', q1, q2⟩ := turn_ok hr h hk1 (by omega) (by omega) hVt (a0 := some (.scr ns)) (a1 := some (.deck st4)) (a4 := some (.sh (.int (T : Nat)))) (a9 := some (.sh (.int (at2 : Nat)))) (a11 := o11) (a12 := none) (a13 := none) (a14 := none) (a15 := none) hg
      exact ⟨_, rfl, WS.end (show Gv _ _ from q1) ⟨tot', _, o11', rfl, by omega, q2⟩⟩
    · rintro ρ ⟨tot, o10, o11, rfl, _, _⟩
      dsimp only
      have hat : at2 < k := by omega
      have b0 := v_bern h (k := at2) (by omega)
      have hlb : bs.length = k := by rw [hbs, List.length_take, h.bl]; omega
      have a0 : atI (bs.map pr) (at2 : Int) = some (pr (r.2.2.2.getD at2 (0, 0))) := by
        rw [Dn.atI_nat (by rw [List.length_map]; omega), List.getElem?_map, hbs, List.getElem?_take, if_pos hat, List.getD_eq_getElem?_getD, List.getElem?_eq_getElem (by rw [h.bl]; omega)]
        rfl
      have hin : r.2.2.2.getD at2 (0, 0) ∈ r.2.2.2 := by
        rw [List.getD_eq_getElem?_getD, List.getElem?_eq_getElem (by rw [h.bl]; omega)]
        exact List.getElem_mem (by rw [h.bl]; omega)
      have z := h.b1 _ hin
      have rp := rp_pr z.1 z.2.1 z.2.2.2
      generalize r.2.2.2.getD at2 (0, 0) = bp at b0 a0 rp
      refine WS.seqW (WS.ifF (by simp [b0, a0, flat_pr, repr_ne rp]; exact rfl) (WS.nx ?_))
      dsimp only
      obtain ⟨s, st5, e12, p, rfl, hp, hd5⟩ := pickl_ok st4 _ [5, 7, 11, 13, 17, 19, 5, 7] hd4 (by omega) (by simp) (by simp)
      simp only [List.map_cons, List.map_nil] at e12
      refine WS.seq (by simp [e12]; exact rfl) ?_
      have hp' : p = 5 ∨ p = 7 ∨ p = 11 ∨ p = 13 ∨ p = 17 ∨ p = 19 := by
        simp only [List.mem_cons, List.not_mem_nil, or_false] at hp
        omega
      obtain ⟨q, rfl⟩ := Int.eq_ofNat_of_zero_le (show 0 ≤ p by omega)
      have hq : q = 5 ∨ q = 7 ∨ q = 11 ∨ q = 13 ∨ q = 17 ∨ q = 19 := by omega
      obtain ⟨s, st6, e13, d, rfl, d0, d1, hd6⟩ := draw_ok st5 _ ((26 - (q : Int)) / 2) hd5 (by omega) (by omega) (by omega)
      obtain ⟨d, rfl⟩ := Int.eq_ofNat_of_zero_le d0
      have f2 := gFdiv_ok (a := 26 - (q : Int)) (b := 2) (by omega) (by omega)
      refine WS.seq (by simp (disch := omega) [f2, e13]; exact rfl) ?_
      have ek : (2 : Int) + 2 * (d : Int) = ((2 + 2 * d : Nat) : Int) := by omega
      rw [ek]
      have f3 := gMod_ok (a := ((2 + 2 * d : Nat) : Int)) (b := (q : Int) - 1) (by omega)
      by_cases hm : (2 + 2 * d) % (q - 1) = 0
      · have hm' : ((2 + 2 * d : Nat) : Int) % ((q : Int) - 1) = 0 := by
          rw [show (q : Int) - 1 = ((q - 1 : Nat) : Int) by omega, ← Int.natCast_emod, hm]; rfl
        generalize ((2 + 2 * d : Nat) : Int) = ev at *
        refine WS.end (by simp [f3, hm']; exact rfl) ?_
        exact ⟨_, by simp; exact rfl, rfl⟩
      · have hm' : ¬ ((2 + 2 * d : Nat) : Int) % ((q : Int) - 1) = 0 := by
          rw [show (q : Int) - 1 = ((q - 1 : Nat) : Int) by omega, ← Int.natCast_emod]; omega
        have kk := kummer_ok (p := q) (k := 2 + 2 * d) (d := d) (by simpa using hq) (by omega) rfl hm
        generalize ((2 + 2 * d : Nat) : Int) = ev at *
        refine WS.end (by simp [f3, hm', kk]; exact rfl) ?_
        exact ⟨_, by simp; exact rfl, rfl⟩
  obtain ⟨s, h, rfl⟩ := main
  exact h
end K07
namespace K07
open PySem PyProof.Rows L2 Dn
/-- a def of the top, as the head has left it -/
inductive IsDef (K : PySem.W.Frag) (x : Str) (st : Stmt) : Prop
  | mk {f : Addr} {od an : Option Addr} {sl : Array (Option Value)} {oc kV dc pm cd ct : Value} (a : PySem.W.nsIn K mainGlobals x = some (some (.ref f)))
      (l : K.lookup f = some ⟨oc, od, .func (PySem.W.fnOf x x (defArgs st) (defBody st) (defScope st) .none kV dc pm an cd ct), sl⟩)
      (c : PySem.W.codeIn K cd x = true) (k : PySem.W.keepIn K (.ref f) = true) : IsDef K x st
theorem all_mk {l : PySem.W.OpenLaw} {w : World} {K : PySem.W.Frag} {h : Heap} {mg : Str → Option Value} {fa : Addr} {t_MOST_INDEX : Tok} {t_MOST_SIGN : Tok} (X : K.In h) (G : h.Ns mainGlobals mg) (hfa : mg "law" = some (.ref fa))
    (i_l_deck : IsDef K "_law_deck" s_l_deck)
    (i_l_draw : IsDef K "_law_draw" s_l_draw)
    (i_l_pick : IsDef K "_law_pick" s_l_pick)
    (i_l_is_sign : IsDef K "_law_is_sign" s_l_is_sign)
    (i_l_sign : IsDef K "_law_sign" s_l_sign)
    (i_l_at_prime : IsDef K "_law_at_prime" s_l_at_prime)
    (i_l_values : IsDef K "_law_values" s_l_values)
    (i_is_free : IsDef K "is_free" s_is_free)
    (i_is_integer : IsDef K "is_integer" s_is_integer)
    (i_is_between : IsDef K "is_between" s_is_between)
    (i_is_sign : IsDef K "is_sign" s_is_sign)
    (i_need_sign : IsDef K "need_sign" s_need_sign)
    (i_normal : IsDef K "normal" s_normal)
    (i_number_sum : IsDef K "number_sum" s_number_sum)
    (i_first_numbers : IsDef K "first_numbers" s_first_numbers)
    (i_odd_value : IsDef K "odd_value" s_odd_value)
    (i_value_of : IsDef K "value_of" s_value_of)
    (i_number_product : IsDef K "number_product" s_number_product)
    (i_power_of : IsDef K "power_of" s_power_of)
    (i_signed_number : IsDef K "signed_number" s_signed_number)
    (i_bernoulli : IsDef K "bernoulli" s_bernoulli)
    (i_l_is_number : IsDef K "_law_is_number" s_l_is_number)
    (i_l_is_kummer : IsDef K "_law_is_kummer" s_l_is_kummer)
    (i_l_is_equal : IsDef K "_law_is_equal" s_l_is_equal)
    (i_sign_at : IsDef K "sign_at" s_sign_at)
    (i_l_power : IsDef K "_law_power" s_l_power)
    (i_l_end : IsDef K "_law_end" s_l_end)
    (i_law : IsDef K "law" s_law)
    (z_abs : PySem.W.nsIn K mainGlobals "abs" = some none)
    (z_bool : PySem.W.nsIn K mainGlobals "bool" = some none)
    (z_enumerate : PySem.W.nsIn K mainGlobals "enumerate" = some none)
    (z_int : PySem.W.nsIn K mainGlobals "int" = some none)
    (z_isinstance : PySem.W.nsIn K mainGlobals "isinstance" = some none)
    (z_len : PySem.W.nsIn K mainGlobals "len" = some none)
    (z_list : PySem.W.nsIn K mainGlobals "list" = some none)
    (z_max : PySem.W.nsIn K mainGlobals "max" = some none)
    (z_min : PySem.W.nsIn K mainGlobals "min" = some none)
    (z_range : PySem.W.nsIn K mainGlobals "range" = some none)
    (z_repr : PySem.W.nsIn K mainGlobals "repr" = some none)
    (z_sum : PySem.W.nsIn K mainGlobals "sum" = some none)
    (z_tuple : PySem.W.nsIn K mainGlobals "tuple" = some none)
    (m_MOST_INDEX : PySem.W.nsIn K mainGlobals "MOST_INDEX" = some (some (.int (24) t_MOST_INDEX)))
    (m_MOST_SIGN : PySem.W.nsIn K mainGlobals "MOST_SIGN" = some (some (.int (400) t_MOST_SIGN)))
    (m_comb : PySem.W.nsIn K mainGlobals "comb" = some (some (.builtin "math.comb")))
    (m_gcd : PySem.W.nsIn K mainGlobals "gcd" = some (some (.builtin "math.gcd")))
    : ∃ fd : FuncData, (∀ (s : Shared) (v : Value), BindsTo s fd ⟨[v], []⟩ [("_law_script", v)]) ∧ ∀ base : Heap, K.In base → base.Ns mainGlobals mg → FnG l.prog w K mg base 7 fa fd ["_law_script"] (spTrue K 63) := by
  obtain ⟨a_l_deck, l_l_deck, c_l_deck, k_l_deck⟩ := i_l_deck
  have F_l_deck := fun_mk (st := s_l_deck) l_l_deck c_l_deck k_l_deck
  have b_l_deck := F_l_deck.binds (ps := ["_law_script"]) fun _ _ _ _ _ _ us hl => match us, hl with | [_], _ => rfl
  obtain ⟨a_l_draw, l_l_draw, c_l_draw, k_l_draw⟩ := i_l_draw
  have F_l_draw := fun_mk (st := s_l_draw) l_l_draw c_l_draw k_l_draw
  have b_l_draw := F_l_draw.binds (ps := ["_law_deck_here", "_law_many"]) fun _ _ _ _ _ _ us hl => match us, hl with | [_, _], _ => rfl
  obtain ⟨a_l_pick, l_l_pick, c_l_pick, k_l_pick⟩ := i_l_pick
  have F_l_pick := fun_mk (st := s_l_pick) l_l_pick c_l_pick k_l_pick
  have b_l_pick := F_l_pick.binds (ps := ["_law_deck_here", "_law_some"]) fun _ _ _ _ _ _ us hl => match us, hl with | [_, _], _ => rfl
  obtain ⟨a_l_is_sign, l_l_is_sign, c_l_is_sign, k_l_is_sign⟩ := i_l_is_sign
  have F_l_is_sign := fun_mk (st := s_l_is_sign) l_l_is_sign c_l_is_sign k_l_is_sign
  have b_l_is_sign := F_l_is_sign.binds (ps := ["_law_number"]) fun _ _ _ _ _ _ us hl => match us, hl with | [_], _ => rfl
  obtain ⟨a_l_sign, l_l_sign, c_l_sign, k_l_sign⟩ := i_l_sign
  have F_l_sign := fun_mk (st := s_l_sign) l_l_sign c_l_sign k_l_sign
  have b_l_sign := F_l_sign.binds (ps := ["_law_deck_here"]) fun _ _ _ _ _ _ us hl => match us, hl with | [_], _ => rfl
  obtain ⟨a_l_at_prime, l_l_at_prime, c_l_at_prime, k_l_at_prime⟩ := i_l_at_prime
  have F_l_at_prime := fun_mk (st := s_l_at_prime) l_l_at_prime c_l_at_prime k_l_at_prime
  have b_l_at_prime := F_l_at_prime.binds (ps := ["_law_sign_here", "_law_p"]) fun _ _ _ _ _ _ us hl => match us, hl with | [_, _], _ => rfl
  obtain ⟨a_l_values, l_l_values, c_l_values, k_l_values⟩ := i_l_values
  have F_l_values := fun_mk (st := s_l_values) l_l_values c_l_values k_l_values
  have b_l_values := F_l_values.binds (ps := ["_law_sign_here"]) fun _ _ _ _ _ _ us hl => match us, hl with | [_], _ => rfl
  obtain ⟨a_is_free, l_is_free, c_is_free, k_is_free⟩ := i_is_free
  have F_is_free := fun_mk (st := s_is_free) l_is_free c_is_free k_is_free
  have b_is_free := F_is_free.binds (ps := ["number"]) fun _ _ _ _ _ _ us hl => match us, hl with | [_], _ => rfl
  obtain ⟨a_is_integer, l_is_integer, c_is_integer, k_is_integer⟩ := i_is_integer
  have F_is_integer := fun_mk (st := s_is_integer) l_is_integer c_is_integer k_is_integer
  have b_is_integer := F_is_integer.binds (ps := ["thing"]) fun _ _ _ _ _ _ us hl => match us, hl with | [_], _ => rfl
  obtain ⟨a_is_between, l_is_between, c_is_between, k_is_between⟩ := i_is_between
  have F_is_between := fun_mk (st := s_is_between) l_is_between c_is_between k_is_between
  have b_is_between := F_is_between.binds (ps := ["thing", "least", "most"]) fun _ _ _ _ _ _ us hl => match us, hl with | [_, _, _], _ => rfl
  obtain ⟨a_is_sign, l_is_sign, c_is_sign, k_is_sign⟩ := i_is_sign
  have F_is_sign := fun_mk (st := s_is_sign) l_is_sign c_is_sign k_is_sign
  have b_is_sign := F_is_sign.binds (ps := ["thing"]) fun _ _ _ _ _ _ us hl => match us, hl with | [_], _ => rfl
  obtain ⟨a_need_sign, l_need_sign, c_need_sign, k_need_sign⟩ := i_need_sign
  have F_need_sign := fun_mk (st := s_need_sign) l_need_sign c_need_sign k_need_sign
  have b_need_sign := F_need_sign.binds (ps := ["sign"]) fun _ _ _ _ _ _ us hl => match us, hl with | [_], _ => rfl
  obtain ⟨a_normal, l_normal, c_normal, k_normal⟩ := i_normal
  have F_normal := fun_mk (st := s_normal) l_normal c_normal k_normal
  have b_normal := F_normal.binds (ps := ["top", "bottom"]) fun _ _ _ _ _ _ us hl => match us, hl with | [_, _], _ => rfl
  obtain ⟨a_number_sum, l_number_sum, c_number_sum, k_number_sum⟩ := i_number_sum
  have F_number_sum := fun_mk (st := s_number_sum) l_number_sum c_number_sum k_number_sum
  have b_number_sum := F_number_sum.binds (ps := ["one", "other"]) fun _ _ _ _ _ _ us hl => match us, hl with | [_, _], _ => rfl
  obtain ⟨a_first_numbers, l_first_numbers, c_first_numbers, k_first_numbers⟩ := i_first_numbers
  have F_first_numbers := fun_mk (st := s_first_numbers) l_first_numbers c_first_numbers k_first_numbers
  have b_first_numbers := F_first_numbers.binds (ps := ["k"]) fun _ _ _ _ _ _ us hl => match us, hl with | [_], _ => rfl
  obtain ⟨a_odd_value, l_odd_value, c_odd_value, k_odd_value⟩ := i_odd_value
  have F_odd_value := fun_mk (st := s_odd_value) l_odd_value c_odd_value k_odd_value
  have b_odd_value := F_odd_value.binds (ps := ["top", "bottom"]) fun _ _ _ _ _ _ us hl => match us, hl with | [_, _], _ => rfl
  obtain ⟨a_value_of, l_value_of, c_value_of, k_value_of⟩ := i_value_of
  have F_value_of := fun_mk (st := s_value_of) l_value_of c_value_of k_value_of
  have b_value_of := F_value_of.binds (ps := ["sign", "n"]) fun _ _ _ _ _ _ us hl => match us, hl with | [_, _], _ => rfl
  obtain ⟨a_number_product, l_number_product, c_number_product, k_number_product⟩ := i_number_product
  have F_number_product := fun_mk (st := s_number_product) l_number_product c_number_product k_number_product
  have b_number_product := F_number_product.binds (ps := ["one", "other"]) fun _ _ _ _ _ _ us hl => match us, hl with | [_, _], _ => rfl
  obtain ⟨a_power_of, l_power_of, c_power_of, k_power_of⟩ := i_power_of
  have F_power_of := fun_mk (st := s_power_of) l_power_of c_power_of k_power_of
  have b_power_of := F_power_of.binds (ps := ["base", "many"]) fun _ _ _ _ _ _ us hl => match us, hl with | [_, _], _ => rfl
  obtain ⟨a_signed_number, l_signed_number, c_signed_number, k_signed_number⟩ := i_signed_number
  have F_signed_number := fun_mk (st := s_signed_number) l_signed_number c_signed_number k_signed_number
  have b_signed_number := F_signed_number.binds (ps := ["k", "sign"]) fun _ _ _ _ _ _ us hl => match us, hl with | [_, _], _ => rfl
  obtain ⟨a_bernoulli, l_bernoulli, c_bernoulli, k_bernoulli⟩ := i_bernoulli
  have F_bernoulli := fun_mk (st := s_bernoulli) l_bernoulli c_bernoulli k_bernoulli
  have b_bernoulli := F_bernoulli.binds (ps := ["k", "sign"]) fun _ _ _ _ _ _ us hl => match us, hl with | [_, _], _ => rfl
  obtain ⟨a_l_is_number, l_l_is_number, c_l_is_number, k_l_is_number⟩ := i_l_is_number
  have F_l_is_number := fun_mk (st := s_l_is_number) l_l_is_number c_l_is_number k_l_is_number
  have b_l_is_number := F_l_is_number.binds (ps := ["_law_thing"]) fun _ _ _ _ _ _ us hl => match us, hl with | [_], _ => rfl
  obtain ⟨a_l_is_kummer, l_l_is_kummer, c_l_is_kummer, k_l_is_kummer⟩ := i_l_is_kummer
  have F_l_is_kummer := fun_mk (st := s_l_is_kummer) l_l_is_kummer c_l_is_kummer k_l_is_kummer
  have b_l_is_kummer := F_l_is_kummer.binds (ps := ["_law_p", "_law_k"]) fun _ _ _ _ _ _ us hl => match us, hl with | [_, _], _ => rfl
  obtain ⟨a_l_is_equal, l_l_is_equal, c_l_is_equal, k_l_is_equal⟩ := i_l_is_equal
  have F_l_is_equal := fun_mk (st := s_l_is_equal) l_l_is_equal c_l_is_equal k_l_is_equal
  have b_l_is_equal := F_l_is_equal.binds (ps := ["_law_number", "_law_whole"]) fun _ _ _ _ _ _ us hl => match us, hl with | [_, _], _ => rfl
  obtain ⟨a_sign_at, l_sign_at, c_sign_at, k_sign_at⟩ := i_sign_at
  have F_sign_at := fun_mk (st := s_sign_at) l_sign_at c_sign_at k_sign_at
  have b_sign_at := F_sign_at.binds (ps := ["sign", "n"]) fun _ _ _ _ _ _ us hl => match us, hl with | [_, _], _ => rfl
  obtain ⟨a_l_power, l_l_power, c_l_power, k_l_power⟩ := i_l_power
  have F_l_power := fun_mk (st := s_l_power) l_l_power c_l_power k_l_power
  have b_l_power := F_l_power.binds (ps := ["_law_x", "_law_k"]) fun _ _ _ _ _ _ us hl => match us, hl with | [_, _], _ => rfl
  obtain ⟨a_l_end, l_l_end, c_l_end, k_l_end⟩ := i_l_end
  have F_l_end := fun_mk (st := s_l_end) l_l_end c_l_end k_l_end
  have b_l_end := F_l_end.binds (ps := ["_law_numbers", "_law_k", "_law_end_here"]) fun _ _ _ _ _ _ us hl => match us, hl with | [_, _, _], _ => rfl
  obtain ⟨a_law, l_law, c_law, k_law⟩ := i_law
  have F_law := fun_mk (st := s_law) l_law c_law k_law
  have b_law := F_law.binds (ps := ["_law_script"]) fun _ _ _ _ _ _ us hl => match us, hl with | [_], _ => rfl
  have e := hfa.symm.trans (PySem.W.mg_of X G a_law)
  cases e
  have T : Txt K mg ⟨_, _, _, _, _, _, _, _, _, _, _, _, _, _, _, _, _, _, _, _, _, _, _, _, _, _, _, _, _, _, _, _, _, _, _, _, _, _, _, _, _, _, _, _, _, _, _, _, _, _, _, _, _, _, _, _⟩ := ⟨F_l_deck, PySem.W.mg_of X G a_l_deck, b_l_deck, F_l_draw, PySem.W.mg_of X G a_l_draw, b_l_draw, F_l_pick, PySem.W.mg_of X G a_l_pick, b_l_pick, F_l_is_sign, PySem.W.mg_of X G a_l_is_sign, b_l_is_sign, F_l_sign, PySem.W.mg_of X G a_l_sign, b_l_sign, F_l_at_prime, PySem.W.mg_of X G a_l_at_prime, b_l_at_prime, F_l_values, PySem.W.mg_of X G a_l_values, b_l_values, F_is_free, PySem.W.mg_of X G a_is_free, b_is_free, F_is_integer, PySem.W.mg_of X G a_is_integer, b_is_integer, F_is_between, PySem.W.mg_of X G a_is_between, b_is_between, F_is_sign, PySem.W.mg_of X G a_is_sign, b_is_sign, F_need_sign, PySem.W.mg_of X G a_need_sign, b_need_sign, F_normal, PySem.W.mg_of X G a_normal, b_normal, F_number_sum, PySem.W.mg_of X G a_number_sum, b_number_sum, F_first_numbers, PySem.W.mg_of X G a_first_numbers, b_first_numbers, F_odd_value, PySem.W.mg_of X G a_odd_value, b_odd_value, F_value_of, PySem.W.mg_of X G a_value_of, b_value_of, F_number_product, PySem.W.mg_of X G a_number_product, b_number_product, F_power_of, PySem.W.mg_of X G a_power_of, b_power_of, F_signed_number, PySem.W.mg_of X G a_signed_number, b_signed_number, F_bernoulli, PySem.W.mg_of X G a_bernoulli, b_bernoulli, F_l_is_number, PySem.W.mg_of X G a_l_is_number, b_l_is_number, F_l_is_kummer, PySem.W.mg_of X G a_l_is_kummer, b_l_is_kummer, F_l_is_equal, PySem.W.mg_of X G a_l_is_equal, b_l_is_equal, F_sign_at, PySem.W.mg_of X G a_sign_at, b_sign_at, F_l_power, PySem.W.mg_of X G a_l_power, b_l_power, F_l_end, PySem.W.mg_of X G a_l_end, b_l_end, F_law, PySem.W.mg_of X G a_law, b_law, ⟨fun s ws _ hl => match ws, hl with | [w0, w1], _ => ⟨[w1, w0], rfl, rfl, .of_eq rfl⟩⟩, PySem.W.mg_none_of X G z_abs, PySem.W.mg_none_of X G z_bool, PySem.W.mg_none_of X G z_enumerate, PySem.W.mg_none_of X G z_int, PySem.W.mg_none_of X G z_isinstance, PySem.W.mg_none_of X G z_len, PySem.W.mg_none_of X G z_list, PySem.W.mg_none_of X G z_max, PySem.W.mg_none_of X G z_min, PySem.W.mg_none_of X G z_range, PySem.W.mg_none_of X G z_repr, PySem.W.mg_none_of X G z_sum, PySem.W.mg_none_of X G z_tuple, ⟨_, PySem.W.mg_of X G m_MOST_INDEX⟩, ⟨_, PySem.W.mg_of X G m_MOST_SIGN⟩, PySem.W.mg_of X G m_comb, PySem.W.mg_of X G m_gcd⟩
  exact ⟨_, fun s v => .of_eq rfl, fun base _ _ => law_true (ok_law T) math rfl⟩
end K07
open PySem PySem.W PyProof.Rows in
set_option maxRecDepth 100000 in
set_option maxHeartbeats 0 in
theorem PySem.Challenge.cw_firstterms_k07_whole_sums_of_powers_by_b_holds : PySem.Challenge.rw_firstterms_k07_whole_sums_of_powers_by_b.Holds := by
  w_on; o_law; k_head; (case hw => w_witness2)
  k_fill
  refine Dn.walkG (l := PySem.Challenge.rw_firstterms_k07_whole_sums_of_powers_by_b) (n := 63) (k := 7) (x := "_law_script") rfl (by decide) rfl ⟨rfl, by decide, by decide⟩ (fun w h Y => PySem.W.kIn_of Y) ?F
  case F =>
    intro w mg fa h KX G hmg
    refine' K07.all_mk KX G hmg ?i_l_deck ?i_l_draw ?i_l_pick ?i_l_is_sign ?i_l_sign ?i_l_at_prime ?i_l_values ?i_is_free ?i_is_integer ?i_is_between ?i_is_sign ?i_need_sign ?i_normal ?i_number_sum ?i_first_numbers ?i_odd_value ?i_value_of ?i_number_product ?i_power_of ?i_signed_number ?i_bernoulli ?i_l_is_number ?i_l_is_kummer ?i_l_is_equal ?i_sign_at ?i_l_power ?i_l_end ?i_law ?z_abs ?z_bool ?z_enumerate ?z_int ?z_isinstance ?z_len ?z_list ?z_max ?z_min ?z_range ?z_repr ?z_sum ?z_tuple ?m_MOST_INDEX ?m_MOST_SIGN ?m_comb ?m_gcd
    (case i_l_deck => refine' K07.IsDef.mk ?a ?l ?c ?k; (case a => k_is); (case l => k_is); (case c => k_is); (case k => k_is))
    (case i_l_draw => refine' K07.IsDef.mk ?a ?l ?c ?k; (case a => k_is); (case l => k_is); (case c => k_is); (case k => k_is))
    (case i_l_pick => refine' K07.IsDef.mk ?a ?l ?c ?k; (case a => k_is); (case l => k_is); (case c => k_is); (case k => k_is))
    (case i_l_is_sign => refine' K07.IsDef.mk ?a ?l ?c ?k; (case a => k_is); (case l => k_is); (case c => k_is); (case k => k_is))
    (case i_l_sign => refine' K07.IsDef.mk ?a ?l ?c ?k; (case a => k_is); (case l => k_is); (case c => k_is); (case k => k_is))
    (case i_l_at_prime => refine' K07.IsDef.mk ?a ?l ?c ?k; (case a => k_is); (case l => k_is); (case c => k_is); (case k => k_is))
    (case i_l_values => refine' K07.IsDef.mk ?a ?l ?c ?k; (case a => k_is); (case l => k_is); (case c => k_is); (case k => k_is))
    (case i_is_free => refine' K07.IsDef.mk ?a ?l ?c ?k; (case a => k_is); (case l => k_is); (case c => k_is); (case k => k_is))
    (case i_is_integer => refine' K07.IsDef.mk ?a ?l ?c ?k; (case a => k_is); (case l => k_is); (case c => k_is); (case k => k_is))
    (case i_is_between => refine' K07.IsDef.mk ?a ?l ?c ?k; (case a => k_is); (case l => k_is); (case c => k_is); (case k => k_is))
    (case i_is_sign => refine' K07.IsDef.mk ?a ?l ?c ?k; (case a => k_is); (case l => k_is); (case c => k_is); (case k => k_is))
    (case i_need_sign => refine' K07.IsDef.mk ?a ?l ?c ?k; (case a => k_is); (case l => k_is); (case c => k_is); (case k => k_is))
    (case i_normal => refine' K07.IsDef.mk ?a ?l ?c ?k; (case a => k_is); (case l => k_is); (case c => k_is); (case k => k_is))
    (case i_number_sum => refine' K07.IsDef.mk ?a ?l ?c ?k; (case a => k_is); (case l => k_is); (case c => k_is); (case k => k_is))
    (case i_first_numbers => refine' K07.IsDef.mk ?a ?l ?c ?k; (case a => k_is); (case l => k_is); (case c => k_is); (case k => k_is))
    (case i_odd_value => refine' K07.IsDef.mk ?a ?l ?c ?k; (case a => k_is); (case l => k_is); (case c => k_is); (case k => k_is))
    (case i_value_of => refine' K07.IsDef.mk ?a ?l ?c ?k; (case a => k_is); (case l => k_is); (case c => k_is); (case k => k_is))
    (case i_number_product => refine' K07.IsDef.mk ?a ?l ?c ?k; (case a => k_is); (case l => k_is); (case c => k_is); (case k => k_is))
    (case i_power_of => refine' K07.IsDef.mk ?a ?l ?c ?k; (case a => k_is); (case l => k_is); (case c => k_is); (case k => k_is))
    (case i_signed_number => refine' K07.IsDef.mk ?a ?l ?c ?k; (case a => k_is); (case l => k_is); (case c => k_is); (case k => k_is))
    (case i_bernoulli => refine' K07.IsDef.mk ?a ?l ?c ?k; (case a => k_is); (case l => k_is); (case c => k_is); (case k => k_is))
    (case i_l_is_number => refine' K07.IsDef.mk ?a ?l ?c ?k; (case a => k_is); (case l => k_is); (case c => k_is); (case k => k_is))
    (case i_l_is_kummer => refine' K07.IsDef.mk ?a ?l ?c ?k; (case a => k_is); (case l => k_is); (case c => k_is); (case k => k_is))
    (case i_l_is_equal => refine' K07.IsDef.mk ?a ?l ?c ?k; (case a => k_is); (case l => k_is); (case c => k_is); (case k => k_is))
    (case i_sign_at => refine' K07.IsDef.mk ?a ?l ?c ?k; (case a => k_is); (case l => k_is); (case c => k_is); (case k => k_is))
    (case i_l_power => refine' K07.IsDef.mk ?a ?l ?c ?k; (case a => k_is); (case l => k_is); (case c => k_is); (case k => k_is))
    (case i_l_end => refine' K07.IsDef.mk ?a ?l ?c ?k; (case a => k_is); (case l => k_is); (case c => k_is); (case k => k_is))
    (case i_law => refine' K07.IsDef.mk ?a ?l ?c ?k; (case a => k_is); (case l => k_is); (case c => k_is); (case k => k_is))
    (case z_abs => k_is)
    (case z_bool => k_is)
    (case z_enumerate => k_is)
    (case z_int => k_is)
    (case z_isinstance => k_is)
    (case z_len => k_is)
    (case z_list => k_is)
    (case z_max => k_is)
    (case z_min => k_is)
    (case z_range => k_is)
    (case z_repr => k_is)
    (case z_sum => k_is)
    (case z_tuple => k_is)
    (case m_MOST_INDEX => k_is)
    (case m_MOST_SIGN => k_is)
    (case m_comb => k_is)
    (case m_gcd => k_is)
