import PyProof.Rows.All
import Wide.All
import OpenK.AllK
import Wide.FinOn
import HandS.ForMost
import HandS.Exc
import HandS.ExcOwn
import HandS.WordsExc
import HandS.CallSlots
import HandS.Wide
import HandS.Flow
import HandS.IsInst
import HandS.Deep
import HandS.DictComp
import HandS.RaiseMore
import HandS.Text
import HandS.More
import HandS.SetTxt0
import HandS.SetFor
import HandS.Strs
import PySem.Challenge.RW_eitherpays_k87_first_bad_events
section
set_option Elab.async false
set_option linter.all false
set_option maxRecDepth 100000
set_option maxHeartbeats 4000000
/-! QBase: data without a heap, what a piece of program does to them as a plain function, and the tie of both to the layer's readings. -/
namespace QL
open PySem PySem.Spec L2

/-! ### data -/
inductive D where
  | non | bl (b : Bool) | int (i : Int) | str (x : Str) | ptr (k : Nat) | raw (v : V)
  | tup (ds : List D) | lst (ds : List D)
  | dK (kvs : List (Key × D)) | dT (kvs : List (List Key × D))
  | obj (c : Str) (fs : List (Str × D))
/-- what stands at a place of the store of things that may change -/
inductive MO where
  | lst (ds : List D) | dK (kvs : List (Key × D)) | dT (kvs : List (List Key × D)) | obj (c : Str) (fs : List (Str × D))
  | lkK (kvs : List (Key × D)) | lkT (kvs : List (List Key × D)) | gone
abbrev Mem := List MO
abbrev Sl := List (Option D)
structure Ex where
  c : Str
  fs : List (Str × D)
inductive Res (α : Type) where
  | ok (a : α) (M : Mem) | rz (x : Ex) (M : Mem) | bad
def Res.bind {α β : Type} (r : Res α) (k : α → Mem → Res β) : Res β := match r with
  | .ok a M => k a M
  | .rz x M => .rz x M
  | .bad => .bad
abbrev EF := Sl → Mem → Res D
abbrev BF := Sl → Mem → Res Bool
abbrev AF := Sl → Mem → Res (List D)
inductive SR where
  | nx (S : Sl) (M : Mem) | rt (d : D) (M : Mem) | bk (S : Sl) (M : Mem) | ct (S : Sl) (M : Mem) | rz (x : Ex) (S : Sl) (M : Mem) | bad
abbrev TF := Sl → Mem → SR

/-! ### what data stand for -/
structure Cn where
  K : PySem.W.Frag
  mg : Str → Option Value
structure Gd where
  F : Hp
  θ : List Addr
  /-- things of the layer's own (a list that a comprehension makes) -/
  P : List (Addr × HO)
mutual
def DV (c : Cn) (G : Gd) : D → V → Prop
  | .non, v => v = .non
  | .bl b, v => v = .bl b
  | .int i, v => v = .int i
  | .str x, v => v = .str x
  | .ptr k, v => ∃ a, G.θ[k]? = some a ∧ v = .ref a
  | .raw u, v => v = u
  | .tup ds, v => ∃ a vs, v = .ref a ∧ G.F a = some (.tup vs) ∧ DVs c G ds vs
  | .lst ds, v => ∃ a vs, v = .ref a ∧ SqL c.K G.F a vs ∧ DVs c G ds vs
  | .dK kvs, v => ∃ a ws, v = .ref a ∧ G.F a = some (.dK ws) ∧ DVk c G kvs ws
  | .dT kvs, v => ∃ a ws, v = .ref a ∧ G.F a = some (.dT ws) ∧ DVt c G kvs ws
  | .obj n fs, v => ∃ a C dx ws, v = .ref a ∧ G.F a = some (.ins C dx ws) ∧ c.mg n = some (.ref C) ∧ DVf c G fs ws
def DVs (c : Cn) (G : Gd) : List D → List V → Prop
  | [], vs => vs = []
  | d :: r, vs => ∃ v t, vs = v :: t ∧ DV c G d v ∧ DVs c G r t
def DVk (c : Cn) (G : Gd) : List (Key × D) → List (Key × V) → Prop
  | [], vs => vs = []
  | d :: r, vs => ∃ v t, vs = v :: t ∧ DVk1 c G d v ∧ DVk c G r t
def DVk1 (c : Cn) (G : Gd) : Key × D → Key × V → Prop
  | (k, d), v => v.1 = k ∧ DV c G d v.2
def DVt (c : Cn) (G : Gd) : List (List Key × D) → List (List Key × V) → Prop
  | [], vs => vs = []
  | d :: r, vs => ∃ v t, vs = v :: t ∧ DVt1 c G d v ∧ DVt c G r t
def DVt1 (c : Cn) (G : Gd) : List Key × D → List Key × V → Prop
  | (k, d), v => v.1 = k ∧ DV c G d v.2
def DVf (c : Cn) (G : Gd) : List (Str × D) → List (Str × V) → Prop
  | [], vs => vs = []
  | d :: r, vs => ∃ v t, vs = v :: t ∧ DVf1 c G d v ∧ DVf c G r t
def DVf1 (c : Cn) (G : Gd) : Str × D → Str × V → Prop
  | (k, d), v => v.1 = k ∧ DV c G d v.2
end
/-- the ground has grown -/
structure Gr0 (G G' : Gd) : Prop where
  F : ∀ a u, G.F a = some u → G'.F a = some u
  θ : ∃ more, G'.θ = G.θ ++ more
structure Gr (G G' : Gd) : Prop extends Gr0 G G' where
  P : G'.P = G.P
theorem Gr0.refl (G : Gd) : Gr0 G G := ⟨fun _ _ h => h, [], (List.append_nil _).symm⟩
theorem Gr0.trans {G G1 G2 : Gd} (a : Gr0 G G1) (b : Gr0 G1 G2) : Gr0 G G2 :=
  ⟨fun x u h => b.F x u (a.F x u h), let ⟨m, e⟩ := a.θ; let ⟨m', e'⟩ := b.θ; ⟨m ++ m', by rw [e', e, List.append_assoc]⟩⟩
theorem Gr.refl (G : Gd) : Gr G G := ⟨Gr0.refl G, rfl⟩
theorem Gr.trans {G G1 G2 : Gd} (a : Gr G G1) (b : Gr G1 G2) : Gr G G2 := ⟨a.toGr0.trans b.toGr0, b.P.trans a.P⟩
theorem Gr0.at {G G' : Gd} (g : Gr0 G G') {k : Nat} {a : Addr} (h : G.θ[k]? = some a) : G'.θ[k]? = some a := by
  obtain ⟨m, e⟩ := g.θ
  rw [e, List.getElem?_append_left (List.getElem?_eq_some_iff.mp h).1]
  exact h
theorem Gr0.rd {G G' : Gd} (g : Gr0 G G') {a : Addr} {u : HO} (h : Rd G.F a u) : Rd G'.F a u := by
  rcases h with h | ⟨o, h⟩
  · exact .inl (g.F _ _ h)
  · exact .inr ⟨o, g.F _ _ h⟩
theorem Gr0.sqL {c : Cn} {G G' : Gd} (g : Gr0 G G') {a : Addr} {xs : List V} (h : SqL c.K G.F a xs) : SqL c.K G'.F a xs := by
  rcases h with h | h
  · exact .inl (g.rd h)
  · exact .inr h
theorem Gr0.sqT {c : Cn} {G G' : Gd} (g : Gr0 G G') {a : Addr} {xs : List V} (h : SqT c.K G.F a xs) : SqT c.K G'.F a xs := by
  rcases h with h | h
  · exact .inl (g.rd h)
  · exact .inr h
theorem Gr.at {G G' : Gd} (g : Gr G G') {k : Nat} {a : Addr} (h : G.θ[k]? = some a) : G'.θ[k]? = some a := g.toGr0.at h
theorem Gr.sqL {c : Cn} {G G' : Gd} (g : Gr G G') {a : Addr} {xs : List V} (h : SqL c.K G.F a xs) : SqL c.K G'.F a xs := g.toGr0.sqL h
theorem Gr.sqT {c : Cn} {G G' : Gd} (g : Gr G G') {a : Addr} {xs : List V} (h : SqT c.K G.F a xs) : SqT c.K G'.F a xs := g.toGr0.sqT h
section
variable {c : Cn} {G G' : Gd}
mutual
theorem DV.mono0 (g : Gr0 G G') : ∀ {d : D} {v : V}, DV c G d v → DV c G' d v
  | .non, _, h => h
  | .bl _, _, h => h
  | .int _, _, h => h
  | .str _, _, h => h
  | .ptr _, _, h => let ⟨a, e, z⟩ := h; ⟨a, g.at e, z⟩
  | .raw _, _, h => h
  | .tup _, _, h => let ⟨a, vs, e, q, r⟩ := h; ⟨a, vs, e, g.F _ _ q, DVs.mono0 g r⟩
  | .lst _, _, h => let ⟨a, vs, e, q, r⟩ := h; ⟨a, vs, e, g.sqL q, DVs.mono0 g r⟩
  | .dK _, _, h => let ⟨a, vs, e, q, r⟩ := h; ⟨a, vs, e, g.F _ _ q, DVk.mono0 g r⟩
  | .dT _, _, h => let ⟨a, vs, e, q, r⟩ := h; ⟨a, vs, e, g.F _ _ q, DVt.mono0 g r⟩
  | .obj _ _, _, h => let ⟨a, C, dx, vs, e, q, m, r⟩ := h; ⟨a, C, dx, vs, e, g.F _ _ q, m, DVf.mono0 g r⟩
theorem DVs.mono0 (g : Gr0 G G') : ∀ {ds : List D} {vs : List V}, DVs c G ds vs → DVs c G' ds vs
  | [], _, h => h
  | _ :: _, _, h => let ⟨v, t, e, q, r⟩ := h; ⟨v, t, e, DV.mono0 g q, DVs.mono0 g r⟩
theorem DVk.mono0 (g : Gr0 G G') : ∀ {ds : List (Key × D)} {vs : List (Key × V)}, DVk c G ds vs → DVk c G' ds vs
  | [], _, h => h
  | (_, _) :: _, _, h => let ⟨v, t, e, q, r⟩ := h; ⟨v, t, e, ⟨q.1, DV.mono0 g q.2⟩, DVk.mono0 g r⟩
theorem DVt.mono0 (g : Gr0 G G') : ∀ {ds : List (List Key × D)} {vs : List (List Key × V)}, DVt c G ds vs → DVt c G' ds vs
  | [], _, h => h
  | (_, _) :: _, _, h => let ⟨v, t, e, q, r⟩ := h; ⟨v, t, e, ⟨q.1, DV.mono0 g q.2⟩, DVt.mono0 g r⟩
theorem DVf.mono0 (g : Gr0 G G') : ∀ {ds : List (Str × D)} {vs : List (Str × V)}, DVf c G ds vs → DVf c G' ds vs
  | [], _, h => h
  | (_, _) :: _, _, h => let ⟨v, t, e, q, r⟩ := h; ⟨v, t, e, ⟨q.1, DV.mono0 g q.2⟩, DVf.mono0 g r⟩
end
theorem DV.mono (g : Gr G G') {d : D} {v : V} (h : DV c G d v) : DV c G' d v := h.mono0 g.toGr0
theorem DVs.mono (g : Gr G G') {d : List D} {v : List V} (h : DVs c G d v) : DVs c G' d v := h.mono0 g.toGr0
theorem DVk.mono (g : Gr G G') {d : List (Key × D)} {v : List (Key × V)} (h : DVk c G d v) : DVk c G' d v := h.mono0 g.toGr0
theorem DVt.mono (g : Gr G G') {d : List (List Key × D)} {v : List (List Key × V)} (h : DVt c G d v) : DVt c G' d v := h.mono0 g.toGr0
theorem DVf.mono (g : Gr G G') {d : List (Str × D)} {v : List (Str × V)} (h : DVf c G d v) : DVf c G' d v := h.mono0 g.toGr0
theorem DVs.length : ∀ {ds : List D} {vs : List V}, DVs c G ds vs → vs.length = ds.length
  | [], _, h => by
    cases (show _ = [] from h)
    rfl
  | _ :: _, _, h => by
    obtain ⟨v, t, e, q, r⟩ := h
    rw [e, List.length_cons, List.length_cons, DVs.length r]
theorem DVs.get : ∀ {ds : List D} {vs : List V} {i : Nat} {d : D}, DVs c G ds vs → ds[i]? = some d → ∃ v, vs[i]? = some v ∧ DV c G d v
  | [], _, _, _, _, h => by simp at h
  | _ :: _, _, 0, d, h, e => by
    obtain ⟨v, t, rfl, q, r⟩ := h
    have e' := Option.some.inj e
    subst e'
    exact ⟨v, rfl, q⟩
  | _ :: ds, _, i + 1, d, h, e => by
    obtain ⟨v, t, rfl, q, r⟩ := h
    exact DVs.get (ds := ds) (i := i) r e
theorem DVs.append : ∀ {ds es : List D} {vs us : List V}, DVs c G ds vs → DVs c G es us → DVs c G (ds ++ es) (vs ++ us)
  | [], _, _, _, h, k => by
    cases (show _ = [] from h)
    exact k
  | _ :: _, _, _, _, h, k => by
    obtain ⟨v, t, rfl, q, r⟩ := h
    exact ⟨v, t ++ _, rfl, q, DVs.append r k⟩
theorem DVs.one {d : D} {v : V} (h : DV c G d v) : DVs c G [d] [v] := ⟨v, [], rfl, h, rfl⟩
theorem DVs.cons {d : D} {v : V} {ds : List D} {vs : List V} (h : DV c G d v) (t : DVs c G ds vs) : DVs c G (d :: ds) (v :: vs) := ⟨v, vs, rfl, h, t⟩
end

/-! ### the store against the heap -/
def isD : HO → Bool
  | .dK _ => true
  | .dT _ => true
  | _ => false
def Fz (F H : Hp) : Prop := ∀ a u, F a = some u → H a = some u ∨ (isD u = true ∧ ∃ o, H a = some (.frz o u))
def MOk (c : Cn) (G : Gd) (H : Hp) : MO → Addr → Prop
  | .lst ds, a => ∃ vs, H a = some (.lst vs) ∧ DVs c G ds vs
  | .dK kvs, a => ∃ ws, H a = some (.dK ws) ∧ DVk c G kvs ws
  | .dT kvs, a => ∃ ws, H a = some (.dT ws) ∧ DVt c G kvs ws
  | .obj n fs, a => ∃ C dx ws, H a = some (.ins C dx ws) ∧ c.mg n = some (.ref C) ∧ DVf c G fs ws
  | .lkK kvs, a => ∃ ws o, H a = some (.frz o (.dK ws)) ∧ DVk c G kvs ws
  | .lkT kvs, a => ∃ ws o, H a = some (.frz o (.dT ws)) ∧ DVt c G kvs ws
  | .gone, _ => True
def MO.live : MO → Bool
  | .gone => false
  | _ => true
structure Rep (c : Cn) (G : Gd) (H : Hp) (M : Mem) : Prop where
  fz : Fz G.F H
  len : G.θ.length = M.length
  nd : G.θ.Nodup
  mem : ∀ (k : Nat) mo a, M[k]? = some mo → G.θ[k]? = some a → MOk c G H mo a
  sep : ∀ (k : Nat) mo a, M[k]? = some mo → G.θ[k]? = some a → mo.live = true → G.F a = none
  liv : ∀ a ∈ G.θ, ∃ u, H a = some u
  pin : ∀ p ∈ G.P, H p.1 = some p.2 ∧ G.F p.1 = none ∧ p.1 ∉ G.θ
section
variable {c : Cn} {G G' : Gd} {H H' : Hp} {M : Mem}
theorem MOk.mono0 (g : Gr0 G G') {mo : MO} {a : Addr} (h : MOk c G H mo a) : MOk c G' H mo a := by
  cases mo with
  | lst ds => obtain ⟨vs, e, r⟩ := h; exact ⟨vs, e, r.mono0 g⟩
  | dK ds => obtain ⟨vs, e, r⟩ := h; exact ⟨vs, e, r.mono0 g⟩
  | dT ds => obtain ⟨vs, e, r⟩ := h; exact ⟨vs, e, r.mono0 g⟩
  | obj n fs => obtain ⟨C, dx, vs, e, m, r⟩ := h; exact ⟨C, dx, vs, e, m, r.mono0 g⟩
  | lkK ds => obtain ⟨vs, o, e, r⟩ := h; exact ⟨vs, o, e, r.mono0 g⟩
  | lkT ds => obtain ⟨vs, o, e, r⟩ := h; exact ⟨vs, o, e, r.mono0 g⟩
  | gone => exact h
theorem MOk.mono (g : Gr G G') {mo : MO} {a : Addr} (h : MOk c G H mo a) : MOk c G' H mo a := h.mono0 g.toGr0
/-- what stands at a is the same there -/
theorem MOk.at {mo : MO} {a : Addr} (h : MOk c G H mo a) (e : H' a = H a) : MOk c G H' mo a := by
  cases mo with
  | lst ds => obtain ⟨vs, q, r⟩ := h; exact ⟨vs, e.trans q, r⟩
  | dK ds => obtain ⟨vs, q, r⟩ := h; exact ⟨vs, e.trans q, r⟩
  | dT ds => obtain ⟨vs, q, r⟩ := h; exact ⟨vs, e.trans q, r⟩
  | obj n fs => obtain ⟨C, dx, vs, q, m, r⟩ := h; exact ⟨C, dx, vs, e.trans q, m, r⟩
  | lkK ds => obtain ⟨vs, o, q, r⟩ := h; exact ⟨vs, o, e.trans q, r⟩
  | lkT ds => obtain ⟨vs, o, q, r⟩ := h; exact ⟨vs, o, e.trans q, r⟩
  | gone => exact h
theorem Fz.sqL (z : Fz G.F H) {a : Addr} {xs : List V} (h : SqL c.K G.F a xs) : SqL c.K H a xs := by
  rcases h with (h | ⟨o, h⟩) | h
  · rcases z _ _ h with q | ⟨q, _⟩
    · exact .inl (.inl q)
    · exact absurd q (by simp [isD])
  · rcases z _ _ h with q | ⟨q, _⟩
    · exact .inl (.inr ⟨o, q⟩)
    · exact absurd q (by simp [isD])
  · exact .inr h
theorem Fz.sqT (z : Fz G.F H) {a : Addr} {xs : List V} (h : SqT c.K G.F a xs) : SqT c.K H a xs := by
  rcases h with (h | ⟨o, h⟩) | h
  · rcases z _ _ h with q | ⟨q, _⟩
    · exact .inl (.inl q)
    · exact absurd q (by simp [isD])
  · rcases z _ _ h with q | ⟨q, _⟩
    · exact .inl (.inr ⟨o, q⟩)
    · exact absurd q (by simp [isD])
  · exact .inr h
theorem Fz.tup (z : Fz G.F H) {a : Addr} {xs : List V} (h : G.F a = some (.tup xs)) : H a = some (.tup xs) := by
  rcases z _ _ h with q | ⟨q, _⟩
  · exact q
  · exact absurd q (by simp [isD])
theorem Fz.rd (z : Fz G.F H) {a : Addr} {u : HO} (h : G.F a = some u) : Rd H a u := by
  rcases z _ _ h with q | ⟨_, o, q⟩
  · exact .inl q
  · exact .inr ⟨o, q⟩
theorem Fz.ins (z : Fz G.F H) {a C dx : Addr} {fs : List (Str × V)} (h : G.F a = some (.ins C dx fs)) : H a = some (.ins C dx fs) := by
  rcases z _ _ h with q | ⟨q, _⟩
  · exact q
  · exact absurd q (by simp [isD])
theorem Fz.free (z : Fz G.F H) {a : Addr} (h : H a = none) : G.F a = none := by
  cases q : G.F a with
  | none => rfl
  | some u =>
    rcases z _ _ q with e | ⟨_, o, e⟩
    · rw [h] at e; cases e
    · rw [h] at e; cases e
/-- a new thing that will not change -/
theorem Gr.newF {p : Addr} {o : HO} (h : G.F p = none) : Gr G { G with F := upd G.F p o } :=
  ⟨⟨fun a u e => by show upd G.F p o a = some u; rw [upd_ne (ne_of_none e h)]; exact e, [], (List.append_nil _).symm⟩, rfl⟩
theorem Rep.newF (r : Rep c G H M) {p : Addr} {o : HO} (hp : H p = none) : Rep c { G with F := upd G.F p o } (upd H p o) M := by
  have g : Gr G { G with F := upd G.F p o } := Gr.newF (r.fz.free hp)
  have np : ∀ a ∈ G.θ, a ≠ p := fun a ha e => by
    obtain ⟨u, q⟩ := r.liv a ha
    rw [e, hp] at q
    cases q
  refine ⟨fun a u e => ?_, r.len, r.nd, fun k mo a e1 e2 => ?_, fun k mo a e1 e2 l => ?_, fun a ha => ?_, fun q hq => ?_⟩
  · by_cases z : a = p
    · subst z
      have e' : upd G.F a o a = some u := e
      rw [upd_same] at e'
      exact .inl (by rw [upd_same]; exact e')
    · have e' : upd G.F p o a = some u := e
      rw [upd_ne z] at e'
      rw [upd_ne z]
      exact r.fz a u e'
  · exact ((r.mem k mo a e1 e2).mono g).at (upd_ne (np a (List.mem_of_getElem? e2)))
  · show upd G.F p o a = none
    rw [upd_ne (np a (List.mem_of_getElem? e2))]
    exact r.sep k mo a e1 e2 l
  · obtain ⟨u, q⟩ := r.liv a ha
    exact ⟨u, by rw [upd_ne (np a ha)]; exact q⟩
  · obtain ⟨h1, h2, h3⟩ := r.pin q hq
    have nq : q.1 ≠ p := ne_of_none h1 hp
    exact ⟨by rw [upd_ne nq]; exact h1, by show upd G.F p o q.1 = none; rw [upd_ne nq]; exact h2, h3⟩
/-- a new thing that may change -/
theorem Gr.newP (p : Addr) : Gr G { G with θ := G.θ ++ [p] } := ⟨⟨fun _ _ e => e, [p], rfl⟩, rfl⟩
theorem Rep.newP (r : Rep c G H M) {p : Addr} {o : HO} {mo : MO} (hp : H p = none) (hm : MOk c { G with θ := G.θ ++ [p] } (upd H p o) mo p) : Rep c { G with θ := G.θ ++ [p] } (upd H p o) (M ++ [mo]) := by
  have np : ∀ a ∈ G.θ, a ≠ p := fun a ha e => by
    obtain ⟨u, q⟩ := r.liv a ha
    rw [e, hp] at q
    cases q
  have gt : ∀ {k : Nat} {a : Addr} {x : MO}, (M ++ [mo])[k]? = some x → (G.θ ++ [p])[k]? = some a → (M[k]? = some x ∧ G.θ[k]? = some a) ∨ (x = mo ∧ a = p) := fun {k a x} e1 e2 => by
    by_cases hk : k < M.length
    · rw [List.getElem?_append_left hk] at e1
      rw [List.getElem?_append_left (by rw [r.len]; exact hk)] at e2
      exact .inl ⟨e1, e2⟩
    · have hk1 : M.length ≤ k := Nat.le_of_not_lt hk
      rw [List.getElem?_append_right hk1] at e1
      rw [List.getElem?_append_right (by rw [r.len]; exact hk1), r.len] at e2
      cases q : k - M.length with
      | zero =>
        rw [q] at e1 e2
        exact .inr ⟨(Option.some.inj e1).symm, (Option.some.inj e2).symm⟩
      | succ n =>
        rw [q] at e1
        simp at e1
  refine ⟨fun a u e => ?_, by simp [r.len], ?_, fun k x a e1 e2 => ?_, fun k x a e1 e2 l => ?_, fun a ha => ?_, fun q hq => ?_⟩
  · have e' : G.F a = some u := e
    have hn : a ≠ p := fun z => by
      rw [z, r.fz.free hp] at e'
      cases e'
    rw [upd_ne hn]
    exact r.fz a u e'
  · show (G.θ ++ [p]).Nodup
    rw [List.nodup_append]
    exact ⟨r.nd, by simp, fun a ha b hb => by rw [List.mem_singleton.mp hb]; exact np a ha⟩
  · rcases gt e1 e2 with ⟨q1, q2⟩ | ⟨rfl, rfl⟩
    · exact ((r.mem k x a q1 q2).mono (Gr.newP p)).at (upd_ne (np a (List.mem_of_getElem? q2)))
    · exact hm
  · rcases gt e1 e2 with ⟨q1, q2⟩ | ⟨rfl, rfl⟩
    · exact r.sep k x a q1 q2 l
    · exact r.fz.free hp
  · rcases List.mem_append.mp ha with q | q
    · obtain ⟨u, e⟩ := r.liv a q
      exact ⟨u, by rw [upd_ne (np a q)]; exact e⟩
    · rw [List.mem_singleton.mp q]
      exact ⟨o, upd_same⟩
  · obtain ⟨h1, h2, h3⟩ := r.pin q hq
    have nq : q.1 ≠ p := ne_of_none h1 hp
    refine ⟨by rw [upd_ne nq]; exact h1, h2, fun z => ?_⟩
    rcases List.mem_append.mp z with y | y
    · exact h3 y
    · exact nq (List.mem_singleton.mp y)
theorem nodup_at {l : List Addr} (h : l.Nodup) {i j : Nat} {a : Addr} (e1 : l[i]? = some a) (e2 : l[j]? = some a) : i = j := by
  obtain ⟨h1, q1⟩ := List.getElem?_eq_some_iff.mp e1
  obtain ⟨h2, q2⟩ := List.getElem?_eq_some_iff.mp e2
  exact (List.getElem_inj h).mp (q1.trans q2.symm)
theorem Rep.addr (r : Rep c G H M) {k : Nat} {mo : MO} (e : M[k]? = some mo) : ∃ a, G.θ[k]? = some a := by
  have h := (List.getElem?_eq_some_iff.mp e).1
  exact ⟨G.θ[k]'(by rw [r.len]; exact h), List.getElem?_eq_getElem (by rw [r.len]; exact h)⟩
/-- a thing is changed -/
theorem Rep.write (r : Rep c G H M) {k : Nat} {a : Addr} {mo mo' : MO} {o : HO} (e1 : M[k]? = some mo) (e2 : G.θ[k]? = some a) (l : mo.live = true) (hm : MOk c G (upd H a o) mo' a) : Rep c G (upd H a o) (M.set k mo') := by
  have hF := r.sep k mo a e1 e2 l
  have gt : ∀ {j : Nat} {b : Addr} {x : MO}, (M.set k mo')[j]? = some x → G.θ[j]? = some b → (j ≠ k ∧ M[j]? = some x ∧ b ≠ a) ∨ (j = k ∧ x = mo' ∧ b = a) := fun {j b x} q1 q2 => by
    by_cases hj : j = k
    · subst hj
      rw [List.getElem?_set_self (List.getElem?_eq_some_iff.mp e1).1] at q1
      rw [e2] at q2
      exact .inr ⟨rfl, (Option.some.inj q1).symm, (Option.some.inj q2).symm⟩
    · rw [List.getElem?_set_ne (Ne.symm hj)] at q1
      exact .inl ⟨hj, q1, fun z => hj (nodup_at r.nd (z ▸ q2) e2)⟩
  refine ⟨fun b u e => ?_, by rw [List.length_set]; exact r.len, r.nd, fun j x b q1 q2 => ?_, fun j x b q1 q2 lx => ?_, fun b hb => ?_, fun q hq => ?_⟩
  · rw [upd_ne (fun z => by rw [z, hF] at e; cases e)]
    exact r.fz b u e
  · rcases gt q1 q2 with ⟨_, m, n⟩ | ⟨_, rfl, rfl⟩
    · exact (r.mem j x b m q2).at (upd_ne n)
    · exact hm
  · rcases gt q1 q2 with ⟨_, m, n⟩ | ⟨rfl, _, rfl⟩
    · exact r.sep j x b m q2 lx
    · exact hF
  · by_cases z : b = a
    · exact ⟨o, by rw [z, upd_same]⟩
    · obtain ⟨u, e⟩ := r.liv b hb
      exact ⟨u, by rw [upd_ne z]; exact e⟩
  · obtain ⟨h1, h2, h3⟩ := r.pin q hq
    have nq : q.1 ≠ a := fun z => h3 (z ▸ List.mem_of_getElem? e2)
    exact ⟨by rw [upd_ne nq]; exact h1, h2, h3⟩
/-- a thing will not change any more -/
theorem Rep.freeze (r : Rep c G H M) {k : Nat} {a : Addr} {mo : MO} {u : HO} (e1 : M[k]? = some mo) (e2 : G.θ[k]? = some a) (l : mo.live = true) (hu : H a = some u) :
    Gr G { G with F := upd G.F a u } ∧ Rep c { G with F := upd G.F a u } H (M.set k .gone) := by
  have g : Gr G { G with F := upd G.F a u } := Gr.newF (r.sep k mo a e1 e2 l)
  have gt : ∀ {j : Nat} {b : Addr} {x : MO}, (M.set k .gone)[j]? = some x → G.θ[j]? = some b → (j ≠ k ∧ M[j]? = some x ∧ b ≠ a) ∨ (j = k ∧ x = .gone ∧ b = a) := fun {j b x} q1 q2 => by
    by_cases hj : j = k
    · subst hj
      rw [List.getElem?_set_self (List.getElem?_eq_some_iff.mp e1).1] at q1
      rw [e2] at q2
      exact .inr ⟨rfl, (Option.some.inj q1).symm, (Option.some.inj q2).symm⟩
    · rw [List.getElem?_set_ne (Ne.symm hj)] at q1
      exact .inl ⟨hj, q1, fun z => hj (nodup_at r.nd (z ▸ q2) e2)⟩
  refine ⟨g, fun b v e => ?_, by rw [List.length_set]; exact r.len, r.nd, fun j x b q1 q2 => ?_, fun j x b q1 q2 lx => ?_, r.liv, fun q hq => ?_⟩
  · by_cases z : b = a
    · subst z
      have e' : upd G.F b u b = some v := e
      rw [upd_same] at e'
      cases e'
      exact .inl hu
    · have e' : upd G.F a u b = some v := e
      rw [upd_ne z] at e'
      exact r.fz b v e'
  · rcases gt q1 q2 with ⟨_, m, n⟩ | ⟨_, rfl, rfl⟩
    · exact (r.mem j x b m q2).mono g
    · trivial
  · rcases gt q1 q2 with ⟨_, m, n⟩ | ⟨_, rfl, _⟩
    · show upd G.F a u b = none
      rw [upd_ne n]
      exact r.sep j x b m q2 lx
    · cases lx
  · obtain ⟨h1, h2, h3⟩ := r.pin q hq
    have nq : q.1 ≠ a := fun z => h3 (z ▸ List.mem_of_getElem? e2)
    exact ⟨h1, by show upd G.F a u q.1 = none; rw [upd_ne nq]; exact h2, h3⟩
/-- a thing of the layer's own: begun, changed, given over -/
theorem Rep.pinNew (r : Rep c G H M) {p : Addr} {o : HO} (hp : H p = none) : Rep c { G with P := (p, o) :: G.P } (upd H p o) M := by
  have np : ∀ {a : Addr} {u : HO}, H a = some u → a ≠ p := fun e => ne_of_none e hp
  refine ⟨fun a u e => ?_, r.len, r.nd, fun k mo a e1 e2 => ?_, r.sep, fun a ha => ?_, fun q hq => ?_⟩
  · have e' : G.F a = some u := e
    rw [upd_ne (fun z => by rw [z, r.fz.free hp] at e'; cases e')]
    exact r.fz a u e'
  · obtain ⟨u, z⟩ := r.liv a (List.mem_of_getElem? e2)
    have g0 : Gr0 G { G with P := (p, o) :: G.P } := ⟨fun _ _ h => h, [], (List.append_nil _).symm⟩
    exact (MOk.mono0 g0 (r.mem k mo a e1 e2)).at (upd_ne (np z))
  · obtain ⟨u, z⟩ := r.liv a ha
    exact ⟨u, by rw [upd_ne (np z)]; exact z⟩
  · rcases List.mem_cons.mp hq with rfl | hq
    · refine ⟨upd_same, r.fz.free hp, fun z => ?_⟩
      obtain ⟨u, y⟩ := r.liv _ z
      rw [hp] at y
      cases y
    · obtain ⟨h1, h2, h3⟩ := r.pin q hq
      exact ⟨by rw [upd_ne (np h1)]; exact h1, h2, h3⟩
theorem Rep.pinSet {p : Addr} {o o' : HO} {P : List (Addr × HO)} (r : Rep c { G with P := (p, o) :: P } H M) (hP : ∀ q ∈ P, q.1 ≠ p) : Rep c { G with P := (p, o') :: P } (upd H p o') M := by
  obtain ⟨h1, h2, h3⟩ := r.pin (p, o) List.mem_cons_self
  refine ⟨fun a u e => ?_, r.len, r.nd, fun k mo a e1 e2 => ?_, r.sep, fun a ha => ?_, fun q hq => ?_⟩
  · have e' : G.F a = some u := e
    rw [upd_ne (fun z => by rw [z] at e'; exact absurd (e'.symm.trans h2) (by simp))]
    exact r.fz a u e'
  · have na : a ≠ p := fun z => h3 (z ▸ List.mem_of_getElem? e2)
    have g0 : Gr0 { G with P := (p, o) :: P } { G with P := (p, o') :: P } := ⟨fun _ _ h => h, [], (List.append_nil _).symm⟩
    exact (MOk.mono0 g0 (r.mem k mo a e1 e2)).at (upd_ne na)
  · obtain ⟨u, z⟩ := r.liv a ha
    have na : a ≠ p := fun y => h3 (y ▸ ha)
    exact ⟨u, by rw [upd_ne na]; exact z⟩
  · rcases List.mem_cons.mp hq with rfl | hq
    · exact ⟨upd_same, h2, h3⟩
    · obtain ⟨q1, q2, q3⟩ := r.pin q (List.mem_cons_of_mem _ hq)
      exact ⟨by rw [upd_ne (hP q hq)]; exact q1, q2, q3⟩
/-- .. as a thing that will not change any more -/
theorem Rep.pinF {p : Addr} {o : HO} {P : List (Addr × HO)} (r : Rep c { G with P := (p, o) :: P } H M) (hP : ∀ q ∈ P, q.1 ≠ p) : Rep c { G with F := upd G.F p o, P := P } H M := by
  obtain ⟨h1, h2, h3⟩ := r.pin (p, o) List.mem_cons_self
  have hF : G.F p = none := h2
  have g : Gr0 { G with P := (p, o) :: P } { G with F := upd G.F p o, P := P } := ⟨fun a u e => by show upd G.F p o a = some u; rw [upd_ne (ne_of_none e hF)]; exact e, [], (List.append_nil _).symm⟩
  refine ⟨fun a u e => ?_, r.len, r.nd, fun k mo a e1 e2 => (r.mem k mo a e1 e2).mono0 g, fun k mo a e1 e2 l => ?_, r.liv, fun q hq => ?_⟩
  · by_cases z : a = p
    · subst z
      have e' : upd G.F a o a = some u := e
      rw [upd_same] at e'
      exact .inl (h1.trans e')
    · have e' : upd G.F p o a = some u := e
      rw [upd_ne z] at e'
      exact r.fz a u e'
  · show upd G.F p o a = none
    have na : a ≠ p := fun z => h3 (z ▸ List.mem_of_getElem? e2)
    rw [upd_ne na]
    exact r.sep k mo a e1 e2 l
  · obtain ⟨q1, q2, q3⟩ := r.pin q (List.mem_cons_of_mem _ hq)
    exact ⟨q1, by show upd G.F p o q.1 = none; rw [upd_ne (hP q hq)]; exact q2, q3⟩
/-- .. as a thing that may change -/
theorem Rep.pinP {p : Addr} {o : HO} {P : List (Addr × HO)} {mo : MO} (r : Rep c { G with P := (p, o) :: P } H M) (hP : ∀ q ∈ P, q.1 ≠ p) (hm : MOk c { G with θ := G.θ ++ [p], P := P } H mo p) : Rep c { G with θ := G.θ ++ [p], P := P } H (M ++ [mo]) := by
  obtain ⟨h1, h2, h3⟩ := r.pin (p, o) List.mem_cons_self
  have hl : G.θ.length = M.length := r.len
  have gt : ∀ {k : Nat} {a : Addr} {x : MO}, (M ++ [mo])[k]? = some x → (G.θ ++ [p])[k]? = some a → (M[k]? = some x ∧ G.θ[k]? = some a) ∨ (x = mo ∧ a = p) := fun {k a x} e1 e2 => by
    by_cases hk : k < M.length
    · rw [List.getElem?_append_left hk] at e1
      rw [List.getElem?_append_left (by rw [hl]; exact hk)] at e2
      exact .inl ⟨e1, e2⟩
    · have hk1 : M.length ≤ k := Nat.le_of_not_lt hk
      rw [List.getElem?_append_right hk1] at e1
      rw [List.getElem?_append_right (by rw [hl]; exact hk1), hl] at e2
      cases q : k - M.length with
      | zero =>
        rw [q] at e1 e2
        exact .inr ⟨(Option.some.inj e1).symm, (Option.some.inj e2).symm⟩
      | succ n =>
        rw [q] at e1
        simp at e1
  refine ⟨r.fz, by simp [hl], ?_, fun k x a e1 e2 => ?_, fun k x a e1 e2 l => ?_, fun a ha => ?_, fun q hq => ?_⟩
  · show (G.θ ++ [p]).Nodup
    rw [List.nodup_append]
    exact ⟨r.nd, by simp, fun a ha b hb => by rw [List.mem_singleton.mp hb]; exact fun z => h3 (z ▸ ha)⟩
  · rcases gt e1 e2 with ⟨q1, q2⟩ | ⟨rfl, rfl⟩
    · have g0 : Gr0 { G with P := (p, o) :: P } { G with θ := G.θ ++ [p], P := P } := ⟨fun _ _ h => h, [p], rfl⟩
      exact MOk.mono0 g0 (r.mem k x a q1 q2)
    · exact hm
  · rcases gt e1 e2 with ⟨q1, q2⟩ | ⟨rfl, rfl⟩
    · exact r.sep k x a q1 q2 l
    · exact h2
  · rcases List.mem_append.mp ha with q | q
    · exact r.liv a q
    · rw [List.mem_singleton.mp q]
      exact ⟨o, h1⟩
  · obtain ⟨q1, q2, q3⟩ := r.pin q (List.mem_cons_of_mem _ hq)
    refine ⟨q1, q2, fun z => ?_⟩
    rcases List.mem_append.mp z with y | y
    · exact q3 y
    · exact hP q hq (List.mem_singleton.mp y)
end

/-! ### slots -/
def SlR (c : Cn) (G : Gd) (S : Sl) (σ : St) : Prop := σ.length = S.length ∧ ∀ (i : Nat) d, S[i]? = some (some d) → ∃ v, σ[i]? = some (some v) ∧ DV c G d v
section
variable {c : Cn} {G G' : Gd} {S : Sl} {σ : St}
theorem SlR.mono (g : Gr G G') (h : SlR c G S σ) : SlR c G' S σ := ⟨h.1, fun i d e => let ⟨v, q, r⟩ := h.2 i d e; ⟨v, q, r.mono g⟩⟩
theorem SlR.set (h : SlR c G S σ) {i : Nat} {d : D} {v : V} (r : DV c G d v) : SlR c G (S.set i (some d)) (σ.set i (some v)) := by
  refine ⟨by rw [List.length_set, List.length_set]; exact h.1, fun j e q => ?_⟩
  by_cases z : i = j
  · subst z
    have hl : i < S.length := by
      have := (List.getElem?_eq_some_iff.mp q).1
      rwa [List.length_set] at this
    rw [List.getElem?_set_self hl] at q
    have q' := Option.some.inj (Option.some.inj q)
    subst q'
    exact ⟨v, by rw [List.getElem?_set_self (by rw [h.1]; exact hl)], r⟩
  · rw [List.getElem?_set_ne z] at q
    rw [List.getElem?_set_ne z]
    exact h.2 j e q
theorem SlR.off (h : SlR c G S σ) (i : Nat) : SlR c G (S.set i none) σ := by
  refine ⟨by rw [List.length_set]; exact h.1, fun j e q => ?_⟩
  by_cases z : i = j
  · subst z
    have hl : i < S.length := by
      have := (List.getElem?_eq_some_iff.mp q).1
      rwa [List.length_set] at this
    rw [List.getElem?_set_self hl] at q
    cases Option.some.inj q
  · rw [List.getElem?_set_ne z] at q
    exact h.2 j e q
/-- slots are forgotten -/
def kl (vs : List Nat) (S : Sl) : Sl := match vs with
  | [] => S
  | i :: r => kl r (S.set i none)
theorem SlR.kl : ∀ {vs : List Nat} {S : Sl}, SlR c G S σ → SlR c G (kl vs S) σ
  | [], _, h => h
  | i :: r, _, h => SlR.kl (vs := r) (h.off i)
end

/-! ### exceptions -/
def ExV (c : Cn) (G : Gd) (x : Ex) (cls : Value) (d : Option Addr) : Prop := ∃ C, c.mg x.c = some (.ref C) ∧ cls = .ref C ∧ (x.fs = [] ∨ ∃ a ws, d = some a ∧ G.F a = some (.xd ws) ∧ DVf c G x.fs ws)
theorem ExV.mono {c : Cn} {G G' : Gd} (g : Gr G G') {x : Ex} {cls : Value} {d : Option Addr} (h : ExV c G x cls d) : ExV c G' x cls d := by
  obtain ⟨C, m, e, h⟩ := h
  rcases h with h | ⟨a, ws, e1, e2, r⟩
  · exact ⟨C, m, e, .inl h⟩
  · exact ⟨C, m, e, .inr ⟨a, ws, e1, g.F _ _ e2, r.mono g⟩⟩

/-! ### what is wanted behind -/
section
variable {α β α' β' : Type}
def Post (c : Cn) (W : WX) (σ : St) (G : Gd) (rel : Gd → α → β → Prop) (r : Res α) (Q : β → Hp → Prop) : Prop := match r with
  | .ok d M => ∀ G' v H, Gr G G' → Rep c G' H M → rel G' d v → Q v H
  | .rz x M => ∀ G' cls dd H, Gr G G' → Rep c G' H M → ExV c G' x cls dd → W cls dd σ H
  | .bad => False
def Up (c : Cn) (W : WX) (rel : Gd → α → β → Prop) (e : Sl → Mem → Res α) : St → Hp → (β → Hp → Prop) → Prop := fun σ H Q =>
  ∃ G S M, Rep c G H M ∧ SlR c G S σ ∧ Post c W σ G rel (e S M) Q
variable {c : Cn} {W : WX} {σ : St} {G G' : Gd} {H : Hp} {rel : Gd → α → β → Prop} {rel' : Gd → α' → β' → Prop}
theorem Post.mono {r : Res α} {Q : β → Hp → Prop} (g : Gr G G') (h : Post c W σ G rel r Q) : Post c W σ G' rel r Q := by
  cases r with
  | ok d M => exact fun G2 v H g2 r q => h G2 v H (g.trans g2) r q
  | rz x M => exact fun G2 cls dd H g2 r q => h G2 cls dd H (g.trans g2) r q
  | bad => exact h
theorem Post.imp {r : Res α} {Q Q' : β → Hp → Prop} (h : Post c W σ G rel r Q) (k : ∀ v H, Q v H → Q' v H) : Post c W σ G rel r Q' := by
  cases r with
  | ok d M => exact fun G2 v H g2 r q => k _ _ (h G2 v H g2 r q)
  | rz x M => exact h
  | bad => exact h
theorem Post.bind {r : Res α} {k : α → Mem → Res α'} {Q : β' → Hp → Prop} (h : Post c W σ G rel' (r.bind k) Q) :
    Post c W σ G rel r (fun v H => ∃ G' d M, Gr G G' ∧ Rep c G' H M ∧ rel G' d v ∧ Post c W σ G' rel' (k d M) Q) := by
  cases r with
  | ok d M => exact fun G2 v H g2 r q => ⟨G2, d, M, g2, r, q, Post.mono g2 h⟩
  | rz x M => exact h
  | bad => exact h
theorem Up.imp {e : Sl → Mem → Res α} {Q Q' : β → Hp → Prop} (h : Up c W rel e σ H Q) (k : ∀ v H, Q v H → Q' v H) : Up c W rel e σ H Q' :=
  let ⟨G, S, M, r, s, p⟩ := h; ⟨G, S, M, r, s, p.imp k⟩
/-- one part, then the rest -/
theorem Up.bind {e : Sl → Mem → Res α} {k : Sl → α → Mem → Res α'} {Q : β' → Hp → Prop} (h : Up c W rel' (fun S M => (e S M).bind (k S)) σ H Q) :
    Up c W rel e σ H (fun v H' => ∃ G S d M, Rep c G H' M ∧ SlR c G S σ ∧ rel G d v ∧ Post c W σ G rel' (k S d M) Q) := by
  obtain ⟨G, S, M, r, s, p⟩ := h
  exact ⟨G, S, M, r, s, (Post.bind p).imp fun v H' ⟨G', d, M', g, r', q, p'⟩ => ⟨G', S, d, M', r', s.mono g, q, p'⟩⟩
end

/-! ### the judgements -/
abbrev cn (X : Cx) : Cn := ⟨X.K, X.mg⟩
def QE (X : Cx) (W : WX) (e : Expr) (f : EF) : Prop := PE X e (Up (cn X) W (DV (cn X)) f)
def QT (X : Cx) (W : WX) (e : Expr) (f : BF) : Prop := PT X e (Up (cn X) W (fun _ (a b : Bool) => a = b) f)
def QW (X : Cx) (W : WX) (e : Expr) (f : BF) : Prop := PW X e (Up (cn X) W (fun _ (a b : Bool) => a = b) f)
def QA (X : Cx) (W : WX) (es : List Expr) (f : AF) : Prop := PA X es (Up (cn X) W (DVs (cn X)) f)
theorem PE.imp {X : Cx} {e : Expr} {t t' : TE} (h : PE X e t) (k : ∀ σ H Q, t' σ H Q → t σ H Q) : PE X e t' := ⟨fun pins s σ H Q I z => h.run pins s σ H Q I (k σ H Q z)⟩
theorem PT.imp {X : Cx} {e : Expr} {t t' : TT} (h : PT X e t) (k : ∀ σ H Q, t' σ H Q → t σ H Q) : PT X e t' := ⟨fun pins s σ H Q I z => h.run pins s σ H Q I (k σ H Q z)⟩
theorem PW.imp {X : Cx} {e : Expr} {t t' : TT} (h : PW X e t) (k : ∀ σ H Q, t' σ H Q → t σ H Q) : PW X e t' := ⟨fun wh pins s σ H Q I z => h.run wh pins s σ H Q I (k σ H Q z)⟩
theorem PA.imp {X : Cx} {e : List Expr} {t t' : TA} (h : PA X e t) (k : ∀ σ H Q, t' σ H Q → t σ H Q) : PA X e t' := ⟨fun p pins s σ H Q I z => h.run p pins s σ H Q I (k σ H Q z)⟩
theorem PS.imp {X : Cx} {e : Stmt} {t t' : TS} (h : PS X e t) (k : ∀ D σ H, t' D σ H → t D σ H) : PS X e t' := ⟨fun pins s σ H D I z => h.run pins s σ H D I (k D σ H z)⟩
theorem PSs.imp {X : Cx} {e : List Stmt} {t t' : TS} (h : PSs X e t) (k : ∀ D σ H, t' D σ H → t D σ H) : PSs X e t' := ⟨fun pins s σ H D I z => h.run pins s σ H D I (k D σ H z)⟩

/-! ### names, constants -/
def eVar (i : Nat) : EF := fun S M => match S[i]? with
  | some (some d) => .ok d M
  | _ => .bad
def eC (d : D) : EF := fun _ M => .ok d M
section
variable {X : Cx} {W : WX} {pos : Pos}
theorem qv (i : Nat) {x : Str} (hN : X.N[i]? = some x := by rfl) (hv : Vis X.env.scope x := by first | exact Or.inl rfl | exact Or.inr (Or.inl rfl) | exact Or.inr (Or.inr rfl)) (hd : (x == ("__debug__" : Str)) = false := by decide)
    (hcd : (x == ("__classdict__" : Str)) = false := by decide) : QE X W (.Name x pos) (eVar i) := by
  refine PE.imp (pe_var hN hv hd hcd) fun σ H Q h => ?_
  obtain ⟨G, S, M, r, s, p⟩ := h
  unfold eVar at p
  split at p
  · rename_i d hd
    obtain ⟨v, e, q⟩ := s.2 i d hd
    exact ⟨v, e, p G v H (Gr.refl G) r q⟩
  · exact p.elim
theorem up_c {c : Cn} {d : D} {v : V} {σ : St} {H : Hp} {Q : VK} (h : Up c W (DV c) (eC d) σ H Q) (hd : ∀ G, DV c G d v) : tC v σ H Q := by
  obtain ⟨G, S, M, r, s, p⟩ := h
  exact p G v H (Gr.refl G) r (hd G)
theorem qint {i : Int} {j} : QE X W (.Constant (.int i) j pos) (eC (.int i)) := PE.imp pe_int fun σ H Q h => up_c h fun _ => rfl
theorem qbl {b j} : QE X W (.Constant (.bool b) j pos) (eC (.bl b)) := PE.imp pe_bl fun σ H Q h => up_c h fun _ => rfl
theorem qnon {j} : QE X W (.Constant .none j pos) (eC .non) := PE.imp pe_non fun σ H Q h => up_c h fun _ => rfl
theorem qstr {x j} : QE X W (.Constant (.str x) j pos) (eC (.str x)) := PE.imp pe_str fun σ H Q h => up_c h fun _ => rfl
/-- a module's constant -/
theorem qglobI {x : Str} {i : Int} {t : Tok} (hg : Gl X x) (hm : X.mg x = some (.int i t)) (hd : (x == ("__debug__" : Str)) = false := by decide) : QE X W (.Name x pos) (eC (.int i)) :=
  PE.imp (pe_glob (v := .int i) hg hm ⟨t, rfl⟩ hd) fun σ H Q h => up_c h fun _ => rfl
theorem qglobS {x : Str} {i : Str} {t : Tok} (hg : Gl X x) (hm : X.mg x = some (.str i t)) (hd : (x == ("__debug__" : Str)) = false := by decide) : QE X W (.Name x pos) (eC (.str i)) :=
  PE.imp (pe_glob (v := .str i) hg hm ⟨t, rfl⟩ hd) fun σ H Q h => up_c h fun _ => rfl
end

/-! ### argument lists, tuples, lists -/
def aNil : AF := fun _ M => .ok [] M
def aCons (e : EF) (r : AF) : AF := fun S M => (e S M).bind fun d M1 => (r S M1).bind fun ds M2 => .ok (d :: ds) M2
def eTup (a : AF) : EF := fun S M => (a S M).bind fun ds M1 => if ds.length ≤ sizeLine then .ok (.tup ds) M1 else .bad
/-- a list that will not change -/
def eLst (a : AF) : EF := fun S M => (a S M).bind fun ds M1 => if ds.length ≤ sizeLine then .ok (.lst ds) M1 else .bad
/-- a list that may change -/
def eLstP (a : AF) : EF := fun S M => (a S M).bind fun ds M1 => if ds.length ≤ sizeLine then .ok (.ptr M1.length) (M1 ++ [.lst ds]) else .bad
section
variable {X : Cx} {W : WX} {pos : Pos} {e : Expr} {es : List Expr} {f : EF} {a : AF}
theorem qa_nil : QA X W [] aNil := PA.imp pa_nil fun σ H Q h => by
  obtain ⟨G, S, M, r, s, p⟩ := h
  exact p G [] H (Gr.refl G) r rfl
theorem qa_cons (h1 : QE X W e f) (h2 : QA X W es a) (hs : starEach (e :: es) X.env = (false, eval e X.env) :: starEach es X.env := by rfl) : QA X W (e :: es) (aCons f a) := PA.imp (pa_cons h1 h2 hs) fun σ H Q h => by
  refine Up.imp (Up.bind h) fun v H1 ⟨G, S, d, M, r, s, q, p⟩ => ?_
  refine ⟨G, S, M, r, s, (Post.bind (rel := DVs (cn X)) p).imp fun vs H2 ⟨G2, ds, M2, g2, r2, q2, p2⟩ => ?_⟩
  exact p2 G2 _ H2 (Gr.refl _) r2 (DVs.cons (q.mono g2) q2)
theorem qtup {x1} (h : QA X W es a) : QE X W (.Tuple es x1 pos) (eTup a) := PE.imp (pe_tup h) fun σ H Q h => by
  refine Up.imp (Up.bind h) fun vs H1 ⟨G, S, ds, M, r, s, q, p⟩ => ?_
  split at p
  · rename_i hz
    refine ⟨by rw [q.length]; exact hz, fun a ha => ?_⟩
    have g : Gr G { G with F := upd G.F a (.tup vs) } := Gr.newF (r.fz.free ha)
    exact p _ _ _ g (r.newF ha) ⟨a, vs, rfl, upd_same, q.mono g⟩
  · exact p.elim
theorem qlst (h : QA X W es a) : QE X W (.List es pos) (eLst a) := PE.imp (pe_lst h) fun σ H Q h => by
  refine Up.imp (Up.bind h) fun vs H1 ⟨G, S, ds, M, r, s, q, p⟩ => ?_
  split at p
  · rename_i hz
    refine ⟨by rw [q.length]; exact hz, fun a ha => ?_⟩
    have g : Gr G { G with F := upd G.F a (.lst vs) } := Gr.newF (r.fz.free ha)
    exact p _ _ _ g (r.newF ha) ⟨a, vs, rfl, .inl (.inl upd_same), q.mono g⟩
  · exact p.elim
theorem qlstP (h : QA X W es a) : QE X W (.List es pos) (eLstP a) := PE.imp (pe_lst h) fun σ H Q h => by
  refine Up.imp (Up.bind h) fun vs H1 ⟨G, S, ds, M, r, s, q, p⟩ => ?_
  split at p
  · rename_i hz
    refine ⟨by rw [q.length]; exact hz, fun a ha => ?_⟩
    have g := Gr.newP (G := G) a
    refine p _ _ _ g (r.newP ha (mo := .lst ds) ⟨vs, upd_same, q.mono g⟩) ⟨a, ?_, rfl⟩
    show (G.θ ++ [a])[M.length]? = some a
    rw [List.getElem?_append_right (by rw [r.len]; exact Nat.le_refl _), r.len, Nat.sub_self]
    rfl
  · exact p.elim
end

/-! ### operators, by values -/
/-- f, on data, is what r asks on values -/
def R2s (c : Cn) (f : D → D → Mem → Res D) (r : R2) : Prop := ∀ (W : WX) (σ : St) (G : Gd) (H : Hp) (M : Mem) (x y : V) (dx dy : D) (Q : VK), Rep c G H M → DV c G dx x → DV c G dy y → Post c W σ G (DV c) (f dx dy M) Q → r x y H Q
def e2 (f : D → D → Mem → Res D) (a b : EF) : EF := fun S M => (a S M).bind fun x M1 => (b S M1).bind fun y M2 => f x y M2
theorem up_op {c : Cn} {W : WX} {f : D → D → Mem → Res D} {r : R2} {a b : EF} {σ : St} {H : Hp} {Q : VK} (hr : R2s c f r) (h : Up c W (DV c) (e2 f a b) σ H Q) : tOp r (Up c W (DV c) a) (Up c W (DV c) b) σ H Q := by
  refine Up.imp (Up.bind h) fun v H1 ⟨G, S, d, M, r1, s, q, p⟩ => ?_
  refine ⟨G, S, M, r1, s, (Post.bind (rel := DV c) p).imp fun u H2 ⟨G2, d2, M2, g2, r2, q2, p2⟩ => ?_⟩
  exact hr W σ G2 H2 M2 v u d d2 Q r2 (q.mono g2) q2 p2
section
variable {X : Cx} {W : WX} {pos : Pos} {a b : Expr} {fa fb : EF} {f : D → D → Mem → Res D} {r : R2}
theorem q_op {op : Operator} (ho : OpR X (binaryOp op) r) (hr : R2s (cn X) f r) (ha : QE X W a fa) (hb : QE X W b fb) : QE X W (.BinOp a op b pos) (e2 f fa fb) :=
  PE.imp (pe_op ho ha hb) fun _ _ _ h => up_op hr h
theorem q_cmp {op : CmpOp} (ho : OpR X (compareOp op) r) (hr : R2s (cn X) f r) (hm : behindInMarks op b = false) (ha : QE X W a fa) (hb : QE X W b fb) : QE X W (.Compare a [op] [b] pos) (e2 f fa fb) :=
  PE.imp (pe_cmpR ho ha hb hm) fun _ _ _ h => up_op hr h
theorem q_ix (ho : IxR X r) (hr : R2s (cn X) f r) (ha : QE X W a fa) (hb : QE X W b fb) (hs : PlainIx b := by exact fun _ _ => rfl) : QE X W (.Subscript a b pos) (e2 f fa fb) :=
  PE.imp (pe_ix ho ha hb hs) fun _ _ _ h => up_op hr h
end
/-- a value as a test -/
def bV (a : EF) : BF := fun S M => (a S M).bind fun x M1 => match x with
  | .bl b => .ok b M1
  | _ => .bad
def bNot (a : BF) : BF := fun S M => (a S M).bind fun x M1 => .ok (!x) M1
def bAnd (a b : BF) : BF := fun S M => (a S M).bind fun x M1 => if x = true then b S M1 else .ok false M1
def bOr (a b : BF) : BF := fun S M => (a S M).bind fun x M1 => if x = true then .ok true M1 else b S M1
def eNot (a : EF) : EF := fun S M => (a S M).bind fun x M1 => match x with
  | .bl b => .ok (.bl (!b)) M1
  | _ => .bad
def eAnd (a b : EF) : EF := fun S M => (a S M).bind fun x M1 => match x with
  | .bl true => b S M1
  | .bl false => .ok (.bl false) M1
  | _ => .bad
def eOr (a b : EF) : EF := fun S M => (a S M).bind fun x M1 => match x with
  | .bl true => .ok (.bl true) M1
  | .bl false => b S M1
  | _ => .bad
def eIf (t : BF) (a b : EF) : EF := fun S M => (t S M).bind fun x M1 => if x = true then a S M1 else b S M1
section
variable {X : Cx} {W : WX} {pos : Pos} {a b c : Expr} {rest : List Expr} {fa fb : EF} {ta tb : BF}
theorem qt_val (h : QE X W a fa) (he : ∀ whole, isTrue a X.env whole = (do let v ← whole; standAt a.pos; holding [v] (truthy v)) := by intro _; rfl) : QT X W a (bV fa) := PT.imp (pt_val h he) fun σ H Q h => by
  refine Up.imp (Up.bind h) fun v H1 ⟨G, S, d, M, r1, s, q, p⟩ => ?_
  split at p
  · cases (show v = _ from q)
    exact ⟨_, rfl, p G _ H1 (Gr.refl _) r1 rfl⟩
  · exact p.elim
theorem qt_cmp {op : CmpOp} {f : D → D → Mem → Res D} {r : R2} (ho : OpR X (compareOp op) r) (hr : R2s (cn X) f r) (hm : behindInMarks op b = false) (ha : QE X W a fa) (hb : QE X W b fb) : QT X W (.Compare a [op] [b] pos) (bV (e2 f fa fb)) :=
  PT.imp (pt_cmpR ho ha hb hm) fun σ H Q h => by
    have h2 := Up.bind (rel := DV (cn X)) h
    refine up_op hr (Up.imp h2 fun v H1 ⟨G, S, d, M, r1, s, q, p⟩ => ?_)
    split at p
    · cases (show v = _ from q)
      exact ⟨_, rfl, p G _ H1 (Gr.refl _) r1 rfl⟩
    · exact p.elim
theorem qt_not (h : QT X W a ta) : QT X W (.UnaryOp .Not a pos) (bNot ta) := PT.imp (pt_not h) fun σ H Q h => by
  refine Up.imp (Up.bind h) fun v H1 ⟨G, S, d, M, r1, s, q, p⟩ => ?_
  subst q
  exact p G _ H1 (Gr.refl _) r1 rfl
theorem qw_and1 (h : QT X W a ta) : QW X W (.BoolOp .And [a] pos) ta := pw_and1 h
theorem qw_or1 (h : QT X W a ta) : QW X W (.BoolOp .Or [a] pos) ta := pw_or1 h
theorem qw_and (ha : QT X W a ta) (hb : QW X W (.BoolOp .And (b :: rest) pos) tb) : QW X W (.BoolOp .And (a :: b :: rest) pos) (bAnd ta tb) := PW.imp (pw_and ha hb) fun σ H Q h => by
  refine Up.imp (Up.bind h) fun v H1 ⟨G, S, d, M, r1, s, q, p⟩ => ?_
  subst q
  cases d with
  | true => exact ⟨G, S, M, r1, s, p⟩
  | false => exact p G _ H1 (Gr.refl _) r1 rfl
theorem qw_or (ha : QT X W a ta) (hb : QW X W (.BoolOp .Or (b :: rest) pos) tb) : QW X W (.BoolOp .Or (a :: b :: rest) pos) (bOr ta tb) := PW.imp (pw_or ha hb) fun σ H Q h => by
  refine Up.imp (Up.bind h) fun v H1 ⟨G, S, d, M, r1, s, q, p⟩ => ?_
  subst q
  cases d with
  | true => exact p G _ H1 (Gr.refl _) r1 rfl
  | false => exact ⟨G, S, M, r1, s, p⟩
theorem qt_w (h : QW X W a ta) : QT X W a ta := PW.pt h
theorem q_one {op} (h : QE X W a fa) : QE X W (.BoolOp op [a] pos) fa := pe_one h
theorem q_and (ha : QE X W a fa) (hb : QE X W (.BoolOp .And (b :: rest) pos) fb) : QE X W (.BoolOp .And (a :: b :: rest) pos) (eAnd fa fb) := PE.imp (pe_and ha hb) fun σ H Q h => by
  refine Up.imp (Up.bind h) fun v H1 ⟨G, S, d, M, r1, s, q, p⟩ => ?_
  split at p
  · cases (show v = _ from q)
    exact ⟨true, rfl, ⟨G, S, M, r1, s, p⟩⟩
  · cases (show v = _ from q)
    exact ⟨false, rfl, p G _ H1 (Gr.refl _) r1 rfl⟩
  · exact p.elim
theorem q_or (ha : QE X W a fa) (hb : QE X W (.BoolOp .Or (b :: rest) pos) fb) : QE X W (.BoolOp .Or (a :: b :: rest) pos) (eOr fa fb) := PE.imp (pe_or ha hb) fun σ H Q h => by
  refine Up.imp (Up.bind h) fun v H1 ⟨G, S, d, M, r1, s, q, p⟩ => ?_
  split at p
  · cases (show v = _ from q)
    exact ⟨true, rfl, p G _ H1 (Gr.refl _) r1 rfl⟩
  · cases (show v = _ from q)
    exact ⟨false, rfl, ⟨G, S, M, r1, s, p⟩⟩
  · exact p.elim
theorem q_not (ha : QE X W a fa) : QE X W (.UnaryOp .Not a pos) (eNot fa) := PE.imp (pe_not ha) fun σ H Q h => by
  refine Up.imp (Up.bind h) fun v H1 ⟨G, S, d, M, r1, s, q, p⟩ => ?_
  split at p
  · cases (show v = _ from q)
    exact ⟨_, rfl, p G _ H1 (Gr.refl _) r1 rfl⟩
  · exact p.elim
theorem q_if (ht : QT X W c ta) (ha : QE X W a fa) (hb : QE X W b fb) : QE X W (.IfExp c a b pos) (eIf ta fa fb) := PE.imp (pe_ifExp ht ha hb) fun σ H Q h => by
  refine Up.imp (Up.bind h) fun v H1 ⟨G, S, d, M, r1, s, q, p⟩ => ?_
  subst q
  cases d with
  | true => exact ⟨G, S, M, r1, s, p⟩
  | false => exact ⟨G, S, M, r1, s, p⟩
end
end QL
end
section
set_option Elab.async false
set_option linter.all false
set_option maxRecDepth 100000
set_option maxHeartbeats 4000000
/-! QStmt: statements, calls, defs. -/
namespace QL
open PySem PySem.Spec L2

def PostS (c : Cn) (W : WX) (G : Gd) (D : Ends) (r : SR) : Prop := match r with
  | .nx S M => ∀ G' σ H, Gr G G' → Rep c G' H M → SlR c G' S σ → D.nx σ H
  | .rt d M => ∀ G' v H, Gr G G' → Rep c G' H M → DV c G' d v → D.rt v H
  | .bk S M => ∀ G' σ H, Gr G G' → Rep c G' H M → SlR c G' S σ → D.bk σ H
  | .ct S M => ∀ G' σ H, Gr G G' → Rep c G' H M → SlR c G' S σ → D.ct σ H
  | .rz x S M => ∀ G' cls dd σ H, Gr G G' → Rep c G' H M → SlR c G' S σ → ExV c G' x cls dd → W cls dd σ H
  | .bad => False
def UpS (c : Cn) (W : WX) (t : TF) : TS := fun D σ H => ∃ G S M, Rep c G H M ∧ SlR c G S σ ∧ PostS c W G D (t S M)
def QS (X : Cx) (W : WX) (st : Stmt) (t : TF) : Prop := PS X st (UpS (cn X) W t)
def QSs (X : Cx) (W : WX) (st : List Stmt) (t : TF) : Prop := PSs X st (UpS (cn X) W t)
/-- behind a part: what the part raises is raised -/
def Res.thn {α : Type} (r : Res α) (S : Sl) (k : α → Mem → SR) : SR := match r with
  | .ok a M => k a M
  | .rz x M => .rz x S M
  | .bad => .bad
def SR.thn (r : SR) (k : Sl → Mem → SR) : SR := match r with
  | .nx S M => k S M
  | r => r
section
variable {c : Cn} {W : WX} {G G' : Gd} {σ : St} {H : Hp} {D : Ends} {S : Sl} {M : Mem}
theorem PostS.mono {r : SR} (g : Gr G G') (h : PostS c W G D r) : PostS c W G' D r := by
  cases r with
  | nx S M => exact fun G2 σ H g2 r s => h G2 σ H (g.trans g2) r s
  | rt d M => exact fun G2 σ H g2 r s => h G2 σ H (g.trans g2) r s
  | bk S M => exact fun G2 σ H g2 r s => h G2 σ H (g.trans g2) r s
  | ct S M => exact fun G2 σ H g2 r s => h G2 σ H (g.trans g2) r s
  | rz x S M => exact fun G2 cls dd σ H g2 r s => h G2 cls dd σ H (g.trans g2) r s
  | bad => exact h
theorem PostS.thnE {α β : Type} {rel : Gd → α → β → Prop} {r : Res α} {k : α → Mem → SR} (s : SlR c G S σ) (h : PostS c W G D (r.thn S k)) :
    Post c W σ G rel r (fun v H => ∃ G' d M, Gr G G' ∧ Rep c G' H M ∧ rel G' d v ∧ PostS c W G' D (k d M)) := by
  cases r with
  | ok d M => exact fun G2 v H g2 r q => ⟨G2, d, M, g2, r, q, PostS.mono g2 h⟩
  | rz x M => exact fun G2 cls dd H g2 r q => h G2 cls dd σ H g2 r (s.mono g2) q
  | bad => exact h
theorem PostS.thnS {r : SR} {k : Sl → Mem → SR} (h : PostS c W G D (r.thn k)) : PostS c W G { D with nx := fun σ H => ∃ G' S M, Gr G G' ∧ Rep c G' H M ∧ SlR c G' S σ ∧ PostS c W G' D (k S M) } r := by
  cases r with
  | nx S M => exact fun G2 σ H g2 r s => ⟨G2, S, M, g2, r, s, PostS.mono g2 h⟩
  | rt d M => exact h
  | bk S M => exact h
  | ct S M => exact h
  | rz x S M => exact h
  | bad => exact h
theorem PostS.ends {r : SR} {D' : Ends} (h : PostS c W G D r) (h1 : ∀ σ H, D.nx σ H → D'.nx σ H) (h2 : ∀ σ H, D.rt σ H → D'.rt σ H) (h3 : ∀ σ H, D.bk σ H → D'.bk σ H) (h4 : ∀ σ H, D.ct σ H → D'.ct σ H) : PostS c W G D' r := by
  cases r with
  | nx S M => exact fun G2 σ H g2 r s => h1 _ _ (h G2 σ H g2 r s)
  | rt d M => exact fun G2 σ H g2 r s => h2 _ _ (h G2 σ H g2 r s)
  | bk S M => exact fun G2 σ H g2 r s => h3 _ _ (h G2 σ H g2 r s)
  | ct S M => exact fun G2 σ H g2 r s => h4 _ _ (h G2 σ H g2 r s)
  | rz x S M => exact h
  | bad => exact h
/-- a part of a statement, then what follows of it -/
theorem UpS.thn {α β : Type} {rel : Gd → α → β → Prop} {e : Sl → Mem → Res α} {k : Sl → α → Mem → SR} (h : UpS c W (fun S M => (e S M).thn S (k S)) D σ H) :
    Up c W rel e σ H (fun v H' => ∃ G S d M, Rep c G H' M ∧ SlR c G S σ ∧ rel G d v ∧ PostS c W G D (k S d M)) := by
  obtain ⟨G, S, M, r, s, p⟩ := h
  exact ⟨G, S, M, r, s, (PostS.thnE s p).imp fun v H' ⟨G', d, M', g, r', q, p'⟩ => ⟨G', S, d, M', r', s.mono g, q, p'⟩⟩
end

/-! ### blocks -/
def kNil : TF := fun S M => .nx S M
def kSeq (t u : TF) : TF := fun S M => (t S M).thn u
def kRet (e : EF) : TF := fun S M => (e S M).thn S fun d M1 => .rt d M1
def kRetN : TF := fun _ M => .rt .non M
def kDrop (e : EF) : TF := fun S M => (e S M).thn S fun _ M1 => .nx S M1
def kIf (b : BF) (t u : TF) : TF := fun S M => (b S M).thn S fun x M1 => if x = true then t S M1 else u S M1
def kBreak : TF := fun S M => .bk S M
def kCont : TF := fun S M => .ct S M
def kNever : TF := fun _ _ => .bad
/-- slots are forgotten ahead of a statement -/
def kKl (vs : List Nat) (t : TF) : TF := fun S M => t (kl vs S) M
section
variable {X : Cx} {W : WX} {pos : Pos} {st : Stmt} {rest : List Stmt} {t u : TF} {e : Expr} {f : EF} {b : BF}
theorem qs_nil : QSs X W [] kNil := PSs.imp pss_nil fun D σ H h => by
  obtain ⟨G, S, M, r, s, p⟩ := h
  exact p G σ H (Gr.refl G) r s
theorem qs_cons (h1 : QS X W st t) (h2 : QSs X W rest u) : QSs X W (st :: rest) (kSeq t u) := PSs.imp (pss_cons h1 h2) fun D σ H h => by
  obtain ⟨G, S, M, r, s, p⟩ := h
  refine ⟨G, S, M, r, s, (PostS.thnS p).ends (fun σ H ⟨G', S', M', g, r', s', p'⟩ => ⟨G', S', M', r', s', p'⟩) (fun _ _ z => z) (fun _ _ z => z) (fun _ _ z => z)⟩
theorem qs_one (h1 : QS X W st t) : QSs X W [st] t := pss_one h1
theorem qpass : QS X W (.Pass pos) kNil := PS.imp ps_pass fun D σ H h => by
  obtain ⟨G, S, M, r, s, p⟩ := h
  exact p G σ H (Gr.refl G) r s
theorem qbreak : QS X W (.Break pos) kBreak := PS.imp ps_break fun D σ H h => by
  obtain ⟨G, S, M, r, s, p⟩ := h
  exact p G σ H (Gr.refl G) r s
theorem qcont : QS X W (.Continue pos) kCont := PS.imp ps_continue fun D σ H h => by
  obtain ⟨G, S, M, r, s, p⟩ := h
  exact p G σ H (Gr.refl G) r s
theorem qnever : QS X W st kNever := PS.imp ps_never fun D σ H h => by
  obtain ⟨G, S, M, r, s, p⟩ := h
  exact p
theorem qretN : QS X W (.Return none pos) kRetN := PS.imp ps_retN fun D σ H h => by
  obtain ⟨G, S, M, r, s, p⟩ := h
  exact p G .non H (Gr.refl G) r rfl
theorem qret (h : QE X W e f) : QS X W (.Return (some e) pos) (kRet f) := PS.imp (ps_ret h) fun D σ H h => by
  refine Up.imp (UpS.thn h) fun v H1 ⟨G, S, d, M, r, s, q, p⟩ => ?_
  exact p G v H1 (Gr.refl G) r q
theorem qexpr (h : QE X W e f) (hs : swapsWith e none pos.line X.env = pure false := by rfl) : QS X W (.Expr e pos) (kDrop f) := PS.imp (ps_expr h hs) fun D σ H h => by
  refine Up.imp (UpS.thn h) fun v H1 ⟨G, S, d, M, r, s, q, p⟩ => ?_
  exact p G σ H1 (Gr.refl G) r s
theorem qif {c : Expr} {as bs : List Stmt} (hc : QT X W c b) (ha : QSs X W as t) (hb : QSs X W bs u) : QS X W (.If c as bs pos) (kIf b t u) := PS.imp (ps_if hc ha hb) fun D σ H h => by
  refine Up.imp (UpS.thn h) fun v H1 ⟨G, S, d, M, r, s, q, p⟩ => ?_
  subst q
  cases d with
  | true => exact ⟨G, S, M, r, s, p⟩
  | false => exact ⟨G, S, M, r, s, p⟩
theorem qkl {vs : List Nat} (h : QS X W st t) : QS X W st (kKl vs t) := PS.imp h fun D σ H h => by
  obtain ⟨G, S, M, r, s, p⟩ := h
  exact ⟨G, kl vs S, M, r, s.kl, p⟩
end

/-! ### targets -/
abbrev GF := D → Sl → Mem → Res Sl
abbrev GsF := List D → Sl → Mem → Res Sl
def UpG (c : Cn) (W : WX) (g : GF) : TG := fun v σ H Q => ∃ G S M d, Rep c G H M ∧ SlR c G S σ ∧ DV c G d v ∧ Post c W σ G (SlR c) (g d S M) Q
def UpGs (c : Cn) (W : WX) (g : GsF) : TGs := fun v σ H Q => ∃ G S M d, Rep c G H M ∧ SlR c G S σ ∧ DVs c G d v ∧ Post c W σ G (SlR c) (g d S M) Q
def QG (X : Cx) (W : WX) (tg : Expr) (g : GF) : Prop := PG X tg (UpG (cn X) W g)
def QGs (X : Cx) (W : WX) (tg : List Expr) (g : GsF) : Prop := PGs X tg (UpGs (cn X) W g)
theorem PG.imp {X : Cx} {e : Expr} {t t' : TG} (h : PG X e t) (k : ∀ v σ H Q, t' v σ H Q → t v σ H Q) : PG X e t' := ⟨fun pins s σ H v u Q I r z => h.run pins s σ H v u Q I r (k v σ H Q z)⟩
theorem PGs.imp {X : Cx} {e : List Expr} {t t' : TGs} (h : PGs X e t) (k : ∀ v σ H Q, t' v σ H Q → t v σ H Q) : PGs X e t' := ⟨fun pins s σ H v u Q I r z => h.run pins s σ H v u Q I r (k v σ H Q z)⟩
def gN (i : Nat) : GF := fun d S M => .ok (S.set i (some d)) M
def gNilF : GsF := fun ds S M => match ds with
  | [] => .ok S M
  | _ => .bad
def gConsF (g : GF) (r : GsF) : GsF := fun ds S M => match ds with
  | d :: t => (g d S M).bind fun S1 M1 => r t S1 M1
  | _ => .bad
def gTupF (n : Nat) (g : GsF) : GF := fun d S M => match d with
  | .tup ds => if ds.length = n then g ds S M else .bad
  | _ => .bad
section
variable {X : Cx} {W : WX} {pos : Pos} {e : Expr} {es : List Expr} {g : GF} {gs : GsF}
theorem qg_name {i : Nat} {x : Str} (hN : X.N.Nodup) (hi : X.N[i]? = some x) (hx : Loc X.env.scope x := by first | exact .inl rfl | exact .inr rfl) (hf : X.fn x = true ∨ X.env.scope.names.lookup x = some .local := by first | exact .inl rfl | exact .inr rfl) : QG X W (.Name x pos) (gN i) := PG.imp (pg_name hN hi hx hf) fun v σ H Q h => by
  obtain ⟨G, S, M, d, r, s, q, p⟩ := h
  exact p G _ H (Gr.refl G) r (s.set q)
theorem qgs_nil : QGs X W [] gNilF := PGs.imp pgs_nil fun v σ H Q h => by
  obtain ⟨G, S, M, ds, r, s, q, p⟩ := h
  cases ds with
  | nil => exact ⟨q, p G σ H (Gr.refl G) r s⟩
  | cons d t => exact (show False from p).elim
theorem qgs_cons (h1 : QG X W e g) (h2 : QGs X W es gs) (hW : ∀ c d σ σ' H, W c d σ H → W c d σ' H := by exact fun _ _ _ _ _ z => z) (hs : (assignEach (e :: es) X.env).map (·.2) = assign e X.env :: (assignEach es X.env).map (·.2) := by rfl) : QGs X W (e :: es) (gConsF g gs) := PGs.imp (pgs_cons h1 h2 hs) fun vs σ H Q h => by
  obtain ⟨G, S, M, ds, r, s, q, p⟩ := h
  cases ds with
  | nil => exact (show False from p).elim
  | cons d t =>
    obtain ⟨v, vt, rfl, qd, qt⟩ := q
    refine ⟨v, vt, rfl, G, S, M, d, r, s, qd, (Post.bind (rel := SlR (cn X)) p).imp fun σ1 H1 ⟨G1, S1, M1, g1, r1, s1, p1⟩ => ?_⟩
    refine ⟨G1, S1, M1, t, r1, s1, qt.mono g1, ?_⟩
    cases e : gs t S1 M1 with
    | ok S2 M2 => rw [e] at p1; exact p1
    | rz x M2 => rw [e] at p1; exact fun G2 cls dd H2 g2 r2 q2 => hW _ _ _ _ _ (p1 G2 cls dd H2 g2 r2 q2)
    | bad => rw [e] at p1; exact p1
theorem qg_tup {k : Nat} {n : Nat} (hc : X.calm = true) (h : QGs X W es gs) (hn : (assignEach es X.env).length = n := by rfl) (hst : (assignEach es X.env).findIdx? (·.1) = none := by rfl) : QG X W (.Tuple es k pos) (gTupF n gs) := PG.imp (pg_tup hc h hn hst) fun v σ H Q h => by
  obtain ⟨G, S, M, d, r, s, q, p⟩ := h
  unfold gTupF at p
  split at p
  · rename_i ds
    split at p
    · rename_i hl
      obtain ⟨a, vs, rfl, hs, qs⟩ := q
      exact ⟨a, vs, rfl, .inl (.inl (r.fz.tup hs)), by rw [qs.length]; exact hl, G, S, M, ds, r, s, qs, p⟩
    · exact p.elim
  · exact p.elim
end

/-! ### assignments -/
def kAsg (e : EF) (g : GF) : TF := fun S M => (e S M).thn S fun d M1 => (g d S M1).thn S fun S2 M2 => .nx S2 M2
section
variable {X : Cx} {W : WX} {pos : Pos} {e tg : Expr} {f : EF} {g : GF}
theorem up_asg {c : Cn} {σ : St} {H : Hp} {D : Ends} (h : UpS c W (kAsg f g) D σ H) : tAsg (Up c W (DV c) f) (UpG c W g) D σ H := by
  refine Up.imp (UpS.thn h) fun v H1 ⟨G, S, d, M, r, s, q, p⟩ => ?_
  refine ⟨G, S, M, d, r, s, q, (PostS.thnE s p).imp fun σ2 H2 ⟨G2, S2, M2, g2, r2, s2, p2⟩ => ?_⟩
  exact p2 G2 σ2 H2 (Gr.refl _) r2 s2
theorem qasg (he : QE X W e f) (hg : QG X W tg g) (hs : swapsWithSole [tg] e pos.line X.env = pure false := by rfl) (hw : swappedStores [tg] e X.env = pure none := by rfl)
    (h1 : (assignEach [tg] X.env).map (·.2) = [assign tg X.env] := by rfl) : QS X W (.Assign [tg] e pos) (kAsg f g) := PS.imp (ps_asg he hg hs hw h1) fun _ _ _ h => up_asg h
theorem qset {i : Nat} {x : Str} {pos' : Pos} (hN : X.N.Nodup) (hi : X.N[i]? = some x) (he : QE X W e f) (hx : Loc X.env.scope x := by first | exact .inl rfl | exact .inr rfl) (hs : swapsWith e (some (.Name x pos')) pos.line X.env = pure false := by rfl)
    (hf : X.fn x = true ∨ X.env.scope.names.lookup x = some .local := by first | exact .inl rfl | exact .inr rfl) : QS X W (.Assign [.Name x pos'] e pos) (kAsg f (gN i)) := PS.imp (ps_set hN hi hx he hs hf) fun D σ H h => by
  refine Up.imp (UpS.thn h) fun v H1 ⟨G, S, d, M, r, s, q, p⟩ => ?_
  exact p G _ H1 (Gr.refl G) r (s.set q)
/-- a, b = e1, e2 -/
def kPar (i j : Nat) (a : AF) : TF := fun S M => (a S M).thn S fun ds M1 => match ds with
  | [d, e] => .nx ((S.set i (some d)).set j (some e)) M1
  | _ => .bad
theorem qpar {i j : Nat} {x y : Str} {a b : Expr} {ta : AF} {px py pt : Pos} {kt k2 pt2} (hc : X.calm = true) (hN : X.N.Nodup) (hi : X.N[i]? = some x) (hj : X.N[j]? = some y) (hij : i ≠ j)
    (ha : QA X W [a, b] ta) (hx : X.env.scope.names.lookup x = some .local := by rfl) (hy : X.env.scope.names.lookup y = some .local := by rfl)
    (hw : swappedStores [.Tuple [.Name x px, .Name y py] kt pt] (.Tuple [a, b] k2 pt2) X.env = pure (some [x, y]) := by rfl)
    (hs : swapsWithSole [.Tuple [.Name x px, .Name y py] kt pt] (.Tuple [a, b] k2 pt2) pos.line X.env = pure false := by rfl) :
    QS X W (.Assign [.Tuple [.Name x px, .Name y py] kt pt] (.Tuple [a, b] k2 pt2) pos) (kPar i j ta) := PS.imp (ps_par hc hN hi hj hij hx hy ha hw hs) fun D σ H h => by
  refine Up.imp (UpS.thn h) fun v H1 ⟨G, S, d, M, r, s, q, p⟩ => ?_
  split at p
  · rename_i d1 d2
    obtain ⟨v1, t, rfl, q1, v2, t2, rfl, q2, rfl⟩ := q
    exact ⟨v1, v2, rfl, p G _ H1 (Gr.refl G) r ((s.set q1).set q2)⟩
  · exact p.elim
/-- x op= e, on ints -/
def kAug (i : Nat) (e : EF) (o : Int → Int → Int) : TF := fun S M => match S[i]? with
  | some (some (.int a)) => (e S M).thn S fun d M1 => match d with
    | .int b => .nx (S.set i (some (.int (o a b)))) M1
    | _ => .bad
  | _ => .bad
theorem qaug {i : Nat} {x : Str} {op : Operator} {o : Int → Int → Int} {pos' : Pos} (hN : X.N.Nodup) (hi : X.N[i]? = some x) (he : QE X W e f) (ho : PIp X op (ipI o)) (hx : Loc X.env.scope x := by first | exact .inl rfl | exact .inr rfl)
    (hf : X.fn x = true ∨ X.env.scope.names.lookup x = some .local := by first | exact .inl rfl | exact .inr rfl) : QS X W (.AugAssign (.Name x pos') op e pos) (kAug i f o) := PS.imp (ps_aug hN hi hx he ho hf) fun D σ H h => by
  obtain ⟨G, S, M, r, s, p⟩ := h
  unfold kAug at p
  split at p
  · rename_i a ha
    obtain ⟨v, ev, qv⟩ := s.2 i _ ha
    cases (show v = _ from qv)
    refine ⟨_, ev, G, S, M, r, s, (PostS.thnE (rel := DV (cn X)) s p).imp fun u H1 ⟨G1, d, M1, g1, r1, q1, p1⟩ => ?_⟩
    split at p1
    · rename_i b
      cases (show u = _ from q1)
      exact ⟨a, b, rfl, rfl, p1 G1 _ H1 (Gr.refl _) r1 ((s.mono g1).set rfl)⟩
    · exact p1.elim
  · exact p.elim
end

/-! ### while -/
/-- at most n turns -/
def whN (b : BF) (t : TF) (vs : List Nat) : Nat → Sl → Mem → SR
  | 0, _, _ => .bad
  | n + 1, S, M => (b S M).thn S fun x M1 => if x = true then match t S M1 with
      | .nx S2 M2 => whN b t vs n (kl vs S2) M2
      | .ct S2 M2 => whN b t vs n (kl vs S2) M2
      | .bk S2 M2 => .nx S2 M2
      | r => r
    else .nx S M1
open Classical in
noncomputable def kWhile (b : BF) (t : TF) (vs : List Nat) : TF := fun S M => if h : ∃ n, whN b t vs n S M ≠ .bad then whN b t vs h.choose S M else .bad
theorem Res.thn_bad {α : Type} {r : Res α} {S : Sl} {k : α → Mem → SR} (h : r.thn S k ≠ .bad) : r ≠ .bad := fun e => h (by rw [e]; rfl)
theorem whN_more {b : BF} {t : TF} {vs : List Nat} : ∀ {n : Nat} {S : Sl} {M : Mem}, whN b t vs n S M ≠ .bad → whN b t vs (n + 1) S M = whN b t vs n S M
  | 0, S, M, h => absurd rfl h
  | n + 1, S, M, h => by
    rw [whN] at h
    rw [whN, whN]
    cases e : b S M with
    | bad => rfl
    | rz x M1 => rfl
    | ok x M1 =>
      rw [e] at h
      simp only [Res.thn] at h ⊢
      cases x with
      | false => rfl
      | true =>
        simp only [if_true] at h ⊢
        cases e2 : t S M1 with
        | nx S2 M2 => rw [e2] at h; exact whN_more h
        | ct S2 M2 => rw [e2] at h; exact whN_more h
        | bk S2 M2 => rfl
        | rt _ _ => rfl
        | rz _ _ _ => rfl
        | bad => rfl
theorem whN_le {b : BF} {t : TF} {vs : List Nat} {n m : Nat} {S : Sl} {M : Mem} (hm : n ≤ m) (h : whN b t vs n S M ≠ .bad) : whN b t vs m S M = whN b t vs n S M := by
  induction m with
  | zero =>
    have e : n = 0 := by omega
    rw [e]
  | succ m ih =>
    by_cases e : n = m + 1
    · rw [e]
    · have q := ih (by omega)
      rw [whN_more (by rw [q]; exact h), q]
theorem kWhile_of {b : BF} {t : TF} {vs : List Nat} {n : Nat} {S : Sl} {M : Mem} (h : whN b t vs n S M ≠ .bad) : kWhile b t vs S M = whN b t vs n S M := by
  have ex : ∃ n, whN b t vs n S M ≠ .bad := ⟨n, h⟩
  unfold kWhile
  rw [dif_pos ex]
  rcases Nat.le_total n ex.choose with q | q
  · exact whN_le q h
  · exact (whN_le q ex.choose_spec).symm
theorem kWhile_at {b : BF} {t : TF} {vs : List Nat} {S : Sl} {M : Mem} (h : kWhile b t vs S M ≠ .bad) : ∃ n, kWhile b t vs S M = whN b t vs n S M := by
  unfold kWhile at h ⊢
  by_cases ex : ∃ n, whN b t vs n S M ≠ .bad
  · exact ⟨ex.choose, by rw [dif_pos ex]⟩
  · rw [dif_neg ex] at h
    exact absurd rfl h
/-- one turn -/
theorem kWhile_eq (b : BF) (t : TF) (vs : List Nat) (S : Sl) (M : Mem) : kWhile b t vs S M = (b S M).thn S fun x M1 => if x = true then match t S M1 with
      | .nx S2 M2 => kWhile b t vs (kl vs S2) M2
      | .ct S2 M2 => kWhile b t vs (kl vs S2) M2
      | .bk S2 M2 => .nx S2 M2
      | r => r
    else .nx S M1 := by
  have go : ∀ {S2 : Sl} {M2 : Mem}, (∀ n, whN b t vs (n + 1) S M = whN b t vs n S2 M2) → kWhile b t vs S M = kWhile b t vs S2 M2 := fun {S2 M2} h => by
    by_cases ex : ∃ n, whN b t vs n S2 M2 ≠ .bad
    · obtain ⟨n, hn⟩ := ex
      rw [kWhile_of hn, kWhile_of (n := n + 1) (by rw [h]; exact hn), h]
    · have e2 : kWhile b t vs S2 M2 = .bad := by unfold kWhile; rw [dif_neg ex]
      rw [e2]
      unfold kWhile
      rw [dif_neg fun ⟨n, hn⟩ => by
        cases n with
        | zero => exact hn rfl
        | succ n => exact ex ⟨n, by rw [← h]; exact hn⟩]
  have st : ∀ {r : SR}, (∀ n, whN b t vs (n + 1) S M = r) → kWhile b t vs S M = r := fun {r} h => by
    by_cases hr : r = .bad
    · subst hr
      unfold kWhile
      rw [dif_neg fun ⟨n, hn⟩ => by
        cases n with
        | zero => exact hn rfl
        | succ n => exact hn (h n)]
    · rw [kWhile_of (n := 1) (by rw [h]; exact hr), h]
  cases e : b S M with
  | bad => exact st fun n => by rw [whN, e]; rfl
  | rz x M1 => exact st fun n => by rw [whN, e]; rfl
  | ok x M1 =>
    simp only [Res.thn]
    cases x with
    | false => exact st fun n => by rw [whN, e]; rfl
    | true =>
      simp only [if_true]
      cases e2 : t S M1 with
      | nx S2 M2 => exact go fun n => by rw [whN, e]; simp only [Res.thn, if_true, e2]
      | ct S2 M2 => exact go fun n => by rw [whN, e]; simp only [Res.thn, if_true, e2]
      | bk S2 M2 => exact st fun n => by rw [whN, e]; simp only [Res.thn, if_true, e2]
      | rt _ _ => exact st fun n => by rw [whN, e]; simp only [Res.thn, if_true, e2]
      | rz _ _ _ => exact st fun n => by rw [whN, e]; simp only [Res.thn, if_true, e2]
      | bad => exact st fun n => by rw [whN, e]; simp only [Res.thn, if_true, e2]
theorem qwhile {X : Cx} {W : WX} {pos : Pos} {c : Expr} {body : List Stmt} {b : BF} {t : TF} {vs : List Nat} (hp : PassesOwn (model X.prog X.w) X.A X.env X.xe) (hc : QT X W c b) (hb : QSs X W body t) : QS X W (.While c body [] pos) (kWhile b t vs) :=
  PS.imp (ps_while hp hc hb) fun D σ H h => by
    obtain ⟨G, S, M, r, s, p⟩ := h
    have nb : kWhile b t vs S M ≠ .bad := fun e => by rw [e] at p; exact p
    obtain ⟨n, en⟩ := kWhile_at nb
    rw [en] at p
    refine ⟨fun m σ H => ∃ G S M, Rep (cn X) G H M ∧ SlR (cn X) G S σ ∧ PostS (cn X) W G D (whN b t vs m S M), ⟨n, G, S, M, r, s, p⟩, fun m σ H ⟨G, S, M, r, s, p⟩ => ?_⟩
    cases m with
    | zero => exact (show False from p).elim
    | succ m =>
      rw [whN] at p
      refine ⟨G, S, M, r, s, (PostS.thnE (rel := fun _ (a b : Bool) => a = b) s p).imp fun x H1 ⟨G1, d, M1, g1, r1, q1, p1⟩ => ?_⟩
      subst q1
      cases d with
      | false => exact p1 G1 σ H1 (Gr.refl _) r1 (s.mono g1)
      | true =>
        refine ⟨fun σ H => ∃ G S M, Rep (cn X) G H M ∧ SlR (cn X) G S σ ∧ PostS (cn X) W G D (whN b t vs m S M), fun σ' H' z => ⟨m, Nat.lt_succ_self m, z⟩, G1, S, M1, r1, s.mono g1, ?_⟩
        simp only [if_true] at p1
        cases e : t S M1 with
        | nx S2 M2 => rw [e] at p1; exact fun G2 σ2 H2 g2 r2 s2 => ⟨G2, _, M2, r2, s2.kl, PostS.mono g2 p1⟩
        | ct S2 M2 => rw [e] at p1; exact fun G2 σ2 H2 g2 r2 s2 => ⟨G2, _, M2, r2, s2.kl, PostS.mono g2 p1⟩
        | bk S2 M2 => rw [e] at p1; exact p1
        | rt _ _ => rw [e] at p1; exact p1
        | rz _ _ _ => rw [e] at p1; exact p1
        | bad => rw [e] at p1; exact p1
end QL
end
section
set_option Elab.async false
set_option linter.all false
set_option maxRecDepth 100000
set_option maxHeartbeats 4000000
/-! QCall: what a def keeps behind it, calls, defs, instances. -/
namespace QL
open PySem PySem.Spec L2
open PyProof.Rows (envOfC)
set_option autoImplicit false

/-! ### data that name no place of the store from n on -/
mutual
def lowD (n : Nat) : D → Bool
  | .ptr k => decide (k < n)
  | .tup ds => lowDs n ds
  | .lst ds => lowDs n ds
  | .dK kvs => lowK n kvs
  | .dT kvs => lowT n kvs
  | .obj _ fs => lowF n fs
  | _ => true
def lowDs (n : Nat) : List D → Bool
  | [] => true
  | d :: r => lowD n d && lowDs n r
def lowK (n : Nat) : List (Key × D) → Bool
  | [] => true
  | d :: r => lowK1 n d && lowK n r
def lowK1 (n : Nat) : Key × D → Bool
  | (_, d) => lowD n d
def lowT (n : Nat) : List (List Key × D) → Bool
  | [] => true
  | d :: r => lowT1 n d && lowT n r
def lowT1 (n : Nat) : List Key × D → Bool
  | (_, d) => lowD n d
def lowF (n : Nat) : List (Str × D) → Bool
  | [] => true
  | d :: r => lowF1 n d && lowF n r
def lowF1 (n : Nat) : Str × D → Bool
  | (_, d) => lowD n d
end
def lowO (n : Nat) : MO → Bool
  | .lst ds => lowDs n ds
  | .dK kvs => lowK n kvs
  | .dT kvs => lowT n kvs
  | .obj _ fs => lowF n fs
  | .lkK kvs => lowK n kvs
  | .lkT kvs => lowT n kvs
  | .gone => true
def lowM (n : Nat) (M : Mem) : Bool := M.all (lowO n)
def cutG (n : Nat) (G : Gd) : Gd := ⟨G.F, G.θ.take n, G.P⟩
section
variable {c : Cn} {G : Gd} {n : Nat}
theorem and2 {a b : Bool} (h : (a && b) = true) : a = true ∧ b = true := Bool.and_eq_true_iff.mp h
mutual
theorem DV.low : ∀ {d : D} {v : V}, lowD n d = true → DV c G d v → DV c (cutG n G) d v
  | .non, _, _, h => h
  | .bl _, _, _, h => h
  | .int _, _, _, h => h
  | .str _, _, _, h => h
  | .ptr k, _, l, h => by
    obtain ⟨a, e, z⟩ := h
    have hk : k < n := of_decide_eq_true (by simpa [lowD] using l)
    exact ⟨a, by show (G.θ.take n)[k]? = some a; rw [List.getElem?_take_of_lt hk]; exact e, z⟩
  | .raw _, _, _, h => h
  | .tup _, _, l, h => let ⟨a, vs, e, q, r⟩ := h; ⟨a, vs, e, q, DVs.low (by simpa [lowD] using l) r⟩
  | .lst _, _, l, h => let ⟨a, vs, e, q, r⟩ := h; ⟨a, vs, e, q, DVs.low (by simpa [lowD] using l) r⟩
  | .dK _, _, l, h => let ⟨a, vs, e, q, r⟩ := h; ⟨a, vs, e, q, DVk.low (by simpa [lowD] using l) r⟩
  | .dT _, _, l, h => let ⟨a, vs, e, q, r⟩ := h; ⟨a, vs, e, q, DVt.low (by simpa [lowD] using l) r⟩
  | .obj _ _, _, l, h => let ⟨a, C, dx, vs, e, q, m, r⟩ := h; ⟨a, C, dx, vs, e, q, m, DVf.low (by simpa [lowD] using l) r⟩
theorem DVs.low : ∀ {ds : List D} {vs : List V}, lowDs n ds = true → DVs c G ds vs → DVs c (cutG n G) ds vs
  | [], _, _, h => h
  | _ :: _, _, l, h => let ⟨v, t, e, q, r⟩ := h; have z := and2 (by simpa [lowDs] using l); ⟨v, t, e, DV.low z.1 q, DVs.low z.2 r⟩
theorem DVk.low : ∀ {ds : List (Key × D)} {vs : List (Key × V)}, lowK n ds = true → DVk c G ds vs → DVk c (cutG n G) ds vs
  | [], _, _, h => h
  | (_, _) :: _, _, l, h => let ⟨v, t, e, q, r⟩ := h; have z := and2 (by simpa [lowK, lowK1] using l); ⟨v, t, e, ⟨q.1, DV.low z.1 q.2⟩, DVk.low z.2 r⟩
theorem DVt.low : ∀ {ds : List (List Key × D)} {vs : List (List Key × V)}, lowT n ds = true → DVt c G ds vs → DVt c (cutG n G) ds vs
  | [], _, _, h => h
  | (_, _) :: _, _, l, h => let ⟨v, t, e, q, r⟩ := h; have z := and2 (by simpa [lowT, lowT1] using l); ⟨v, t, e, ⟨q.1, DV.low z.1 q.2⟩, DVt.low z.2 r⟩
theorem DVf.low : ∀ {ds : List (Str × D)} {vs : List (Str × V)}, lowF n ds = true → DVf c G ds vs → DVf c (cutG n G) ds vs
  | [], _, _, h => h
  | (_, _) :: _, _, l, h => let ⟨v, t, e, q, r⟩ := h; have z := and2 (by simpa [lowF, lowF1] using l); ⟨v, t, e, ⟨q.1, DV.low z.1 q.2⟩, DVf.low z.2 r⟩
end
theorem MOk.low {H : Hp} {mo : MO} {a : Addr} (l : lowO n mo = true) (h : MOk c G H mo a) : MOk c (cutG n G) H mo a := by
  cases mo with
  | lst ds => obtain ⟨vs, e, r⟩ := h; exact ⟨vs, e, r.low l⟩
  | dK ds => obtain ⟨vs, e, r⟩ := h; exact ⟨vs, e, r.low l⟩
  | dT ds => obtain ⟨vs, e, r⟩ := h; exact ⟨vs, e, r.low l⟩
  | obj n fs => obtain ⟨C, dx, vs, e, m, r⟩ := h; exact ⟨C, dx, vs, e, m, r.low l⟩
  | lkK ds => obtain ⟨vs, o, e, r⟩ := h; exact ⟨vs, o, e, r.low l⟩
  | lkT ds => obtain ⟨vs, o, e, r⟩ := h; exact ⟨vs, o, e, r.low l⟩
  | gone => exact h
theorem Rep.cut {H : Hp} {M : Mem} (r : Rep c G H M) (l : lowM n (M.take n) = true) : Rep c (cutG n G) H (M.take n) := by
  have at1 : ∀ {k : Nat} {mo : MO}, (M.take n)[k]? = some mo → M[k]? = some mo ∧ k < n := fun {k mo} h => by
    have hk := (List.getElem?_eq_some_iff.mp h).1
    rw [List.length_take] at hk
    rw [List.getElem?_take_of_lt (by omega)] at h
    exact ⟨h, by omega⟩
  have at2 : ∀ {k : Nat} {a : Addr}, k < n → (G.θ.take n)[k]? = some a → G.θ[k]? = some a := fun {k a} hk h => by
    rwa [List.getElem?_take_of_lt hk] at h
  refine ⟨r.fz, by show (G.θ.take n).length = _; rw [List.length_take, List.length_take, r.len], r.nd.sublist (List.take_sublist _ _), fun k mo a e1 e2 => ?_, fun k mo a e1 e2 lv => ?_, fun a ha => r.liv a (List.mem_of_mem_take ha), fun q hq => let ⟨h1, h2, h3⟩ := r.pin q hq; ⟨h1, h2, fun z => h3 (List.mem_of_mem_take z)⟩⟩
  · obtain ⟨q, hk⟩ := at1 e1
    exact (r.mem k mo a q (at2 hk e2)).low (List.all_eq_true.mp l mo (List.mem_of_getElem? e1))
  · obtain ⟨q, hk⟩ := at1 e1
    exact r.sep k mo a q (at2 hk e2) lv
theorem Gr.cut {G' : Gd} (g : Gr G G') (h : G.θ.length = n) : Gr G (cutG n G') := by
  obtain ⟨m, e⟩ := g.θ
  exact ⟨⟨g.F, [], by show G'.θ.take n = _; rw [e, ← h, List.take_left, List.append_nil]⟩, g.P⟩
theorem ExV.low {x : Ex} {cls : Value} {d : Option Addr} (l : lowF n x.fs = true) (h : ExV c G x cls d) : ExV c (cutG n G) x cls d := by
  obtain ⟨C, m, e, h⟩ := h
  rcases h with h | ⟨a, ws, e1, e2, r⟩
  · exact ⟨C, m, e, .inl h⟩
  · exact ⟨C, m, e, .inr ⟨a, ws, e1, e2, r.low l⟩⟩
end
/-- what a def made for itself is let go -/
def settle (n : Nat) (r : Res D) : Res D := match r with
  | .ok d M => if M.length ≤ n then .ok d M else if lowD n d = true ∧ lowM n (M.take n) = true then .ok d (M.take n) else .ok d M
  | .rz x M => if M.length ≤ n then .rz x M else if lowF n x.fs = true ∧ lowM n (M.take n) = true then .rz x (M.take n) else .rz x M
  | .bad => .bad
def SR.fin (r : SR) : Res D := match r with
  | .nx _ M => .ok .non M
  | .rt d M => .ok d M
  | .rz x _ M => .rz x M
  | _ => .bad
/-- a def of n parameters and m further names -/
def runF (n m : Nat) (t : TF) (ds : List D) (M : Mem) : Res D := if ds.length = n then settle M.length (t (ds.map some ++ List.replicate m none) M).fin else .bad

def WF (E : XK) : WX := fun cls d _ H => E cls d H
/-- a def's promise -/
def spF (c : Cn) (f : List D → Mem → Res D) : Sp := fun vs H Q E => ∃ G ds M, Rep c G H M ∧ DVs c G ds vs ∧ Post c (WF E) [] G (DV c) (f ds M) Q
theorem Post.wish {α β : Type} {c : Cn} {W W' : WX} {σ σ' : St} {G : Gd} {rel : Gd → α → β → Prop} {r : Res α} {Q : β → Hp → Prop} (h : Post c W σ G rel r Q) (k : ∀ cls dd H, W cls dd σ H → W' cls dd σ' H) : Post c W' σ' G rel r Q := by
  cases r with
  | ok d M => exact h
  | rz x M => exact fun G2 cls dd H g r e => k _ _ _ (h G2 cls dd H g r e)
  | bad => exact h
theorem Post.settle {c : Cn} {W : WX} {σ : St} {G : Gd} {r : Res D} {Q : VK} (h : Post c W σ G (DV c) (settle G.θ.length r) Q) : Post c W σ G (DV c) r Q := by
  cases r with
  | ok d M =>
    intro G' v H g rp q
    unfold QL.settle at h
    simp only at h
    split at h
    · exact h G' v H g rp q
    · split at h
      · rename_i z
        exact h (cutG G.θ.length G') v H (g.cut rfl) (rp.cut z.2) (q.low z.1)
      · exact h G' v H g rp q
  | rz x M =>
    intro G' cls dd H g rp q
    unfold QL.settle at h
    simp only at h
    split at h
    · exact h G' cls dd H g rp q
    · split at h
      · rename_i z
        exact h (cutG G.θ.length G') cls dd H (g.cut rfl) (rp.cut z.2) (q.low z.1)
      · exact h G' cls dd H g rp q
  | bad => exact h
section
variable {P : Program} {w : World} {K : PySem.W.Frag} {mg : Str → Option Value} {base : Heap}
theorem DVs.slots {c : Cn} {G : Gd} {ds : List D} {vs : List V} {N : List Str} {m : Nat} (h : DVs c G ds vs) (hN : N.length = ds.length + m) : SlR c G (ds.map some ++ List.replicate m none) (L2.start N vs) := by
  have hl := h.length
  unfold L2.start
  refine ⟨by simp; omega, fun i d e => ?_⟩
  by_cases hi : i < ds.length
  · rw [List.getElem?_append_left (by simpa using hi), List.getElem?_map] at e
    obtain ⟨d', e1, e2⟩ : ∃ d', ds[i]? = some d' ∧ some d' = some d := by
      cases q : ds[i]? with
      | none => rw [q] at e; cases e
      | some d' => rw [q] at e; exact ⟨d', rfl, Option.some.inj e⟩
    cases e2
    obtain ⟨v, e3, r⟩ := h.get e1
    exact ⟨v, by rw [List.getElem?_append_left (by simp; omega), List.getElem?_map, e3]; rfl, r⟩
  · rw [List.getElem?_append_right (by simpa using Nat.le_of_not_lt hi), List.getElem?_replicate] at e
    split at e <;> cases e
/-- the context of a def's body -/
abbrev cxQ (P : Program) (w : World) (K : PySem.W.Frag) (mg : Str → Option Value) (base : Heap) (N : List Str) (qual : Str) (st : Stmt) (f : Addr) (cdv : Value) (A : Around) (outer : List Env) (s : Shared) (H : Hp) (E : XK) : Cx :=
  cxOf (L2.CX P w) P w K mg base N qual (defScope st) f cdv A outer s H E
theorem takesQ {N : List Str} {qual : Str} {st : Stmt} {f : Addr} {cdv : Value} {A : Around} {outer : List Env} {s : Shared} {H : Hp} {E : XK} : Takes (cxQ P w K mg base N qual st f cdv A outer s H E) (WF E) := takes_of rfl rfl rfl rfl
theorem passesQ {N : List Str} {qual : Str} {st : Stmt} {f : Addr} {cdv : Value} {A : Around} {outer : List Env} {s : Shared} {H : Hp} {E : XK} :
    PassesOwn (model (cxQ P w K mg base N qual st f cdv A outer s H E).prog (cxQ P w K mg base N qual st f cdv A outer s H E).w) (cxQ P w K mg base N qual st f cdv A outer s H E).A (cxQ P w K mg base N qual st f cdv A outer s H E).env (cxQ P w K mg base N qual st f cdv A outer s H E).xe := passes_of rfl
/-- THE RULE for a def -/
theorem okQ {x qual : Str} {st : Stmt} {f : Addr} {fd : FuncData} {N ps : List Str} {k m : Nat} {t : TF} (F : Fun K x qual st f fd) (S : FnScope N ps (defScope st)) (hN : N.length = ps.length + m)
    (hb : ∀ (cdv : Value) (A : Around) (outer : List Env) (s : Shared) (H : Hp) (E : XK), Room k (A.deeper (envOfC qual (defScope st) s.heap.objs.size f cdv)) → QSs (cxQ P w K mg base N qual st f cdv A outer s H E) (WF E) (defBody st) t) :
    FnOk P w K mg base (L2.CX P w) (k + 1) f fd ps (spF ⟨K, mg⟩ (runF ps.length m t)) := by
  refine F.okX S (fun vs H Q E h => ?_) (fun cdv A outer s H vs Q E hr h => ?_)
  · obtain ⟨G, ds, M, r, q, p⟩ := h
    unfold runF at p
    split at p
    · rename_i e
      rw [q.length, e]
    · exact p.elim
  · obtain ⟨G, ds, M, r, q, p⟩ := h
    refine ⟨_, hb cdv A outer s H E hr, ?_⟩
    unfold runF at p
    split at p
    · rename_i e
      rw [← r.len] at p
      have p := Post.settle p
      refine ⟨G, ds.map some ++ List.replicate m none, M, r, q.slots (by rw [e]; exact hN), ?_⟩
      cases e2 : t (ds.map some ++ List.replicate m none) M with
      | nx S2 M2 => rw [e2] at p; exact fun G2 σ2 H2 g2 r2 s2 => p G2 .non H2 g2 r2 rfl
      | rt d M2 => rw [e2] at p; exact p
      | bk S2 M2 => rw [e2] at p; exact p.elim
      | ct S2 M2 => rw [e2] at p; exact p.elim
      | rz x S2 M2 => rw [e2] at p; exact fun G2 cls dd σ2 H2 g2 r2 s2 q2 => p G2 cls dd H2 g2 r2 q2
      | bad => rw [e2] at p; exact p.elim
    · exact p.elim
/-- the def of that name is there and keeps f -/
def Has (P : Program) (w : World) (K : PySem.W.Frag) (mg : Str → Option Value) (base : Heap) (k : Nat) (name : Str) (ps : List Str) (g : List D → Mem → Res D) : Prop :=
  ∃ f fd, mg name = some (.ref f) ∧ PySem.W.keepIn K (.ref f) = true ∧ Binds K fd ps [] ∧ FnOk P w K mg base (L2.CX P w) k f fd ps (spF ⟨K, mg⟩ g)
/-- the def as the top has left it -/
def Raw (K : PySem.W.Frag) (mg : Str → Option Value) (name : Str) (st : Stmt) (ps : List Str) : Prop :=
  ∃ f fd, mg name = some (.ref f) ∧ Fun K name name st f fd ∧ Binds K fd ps []
theorem Raw.has {name : Str} {st : Stmt} {N ps : List Str} {k m : Nat} {t : TF} (R : Raw K mg name st ps) (S : FnScope N ps (defScope st)) (hN : N.length = ps.length + m)
    (hb : ∀ (f : Addr) (cdv : Value) (A : Around) (outer : List Env) (s : Shared) (H : Hp) (E : XK), Room k (A.deeper (envOfC name (defScope st) s.heap.objs.size f cdv)) → QSs (cxQ P w K mg base N name st f cdv A outer s H E) (WF E) (defBody st) t) :
    Has P w K mg base (k + 1) name ps (runF ps.length m t) := by
  obtain ⟨f, fd, m1, F, b⟩ := R
  exact ⟨f, fd, m1, F.kp, b, okQ F S hN (hb f)⟩
/-- a method -/
def HasM (P : Program) (w : World) (K : PySem.W.Frag) (mg : Str → Option Value) (base : Heap) (k : Nat) (cl name : Str) (ps : List Str) (g : List D → Mem → Res D) : Prop :=
  ∃ C f fd, mg cl = some (.ref C) ∧ Meth K C name f ∧ Binds K fd ps [] ∧ FnOk P w K mg base (L2.CX P w) k f fd ps (spF ⟨K, mg⟩ g)
def RawM (K : PySem.W.Frag) (mg : Str → Option Value) (cl name qual : Str) (st : Stmt) (ps : List Str) : Prop :=
  ∃ C f fd, mg cl = some (.ref C) ∧ Meth K C name f ∧ Fun K name qual st f fd ∧ Binds K fd ps []
theorem RawM.has {cl name qual : Str} {st : Stmt} {N ps : List Str} {k m : Nat} {t : TF} (R : RawM K mg cl name qual st ps) (S : FnScope N ps (defScope st)) (hN : N.length = ps.length + m)
    (hb : ∀ (f : Addr) (cdv : Value) (A : Around) (outer : List Env) (s : Shared) (H : Hp) (E : XK), Room k (A.deeper (envOfC qual (defScope st) s.heap.objs.size f cdv)) → QSs (cxQ P w K mg base N qual st f cdv A outer s H E) (WF E) (defBody st) t) :
    HasM P w K mg base (k + 1) cl name ps (runF ps.length m t) := by
  obtain ⟨C, f, fd, m1, me, F, b⟩ := R
  exact ⟨C, f, fd, m1, me, b, okQ F S hN (hb f)⟩
end

/-! ### calls -/
def eCall (g : List D → Mem → Res D) (a : AF) : EF := fun S M => (a S M).bind fun ds M1 => g ds M1
/-- what a context lets out -/
abbrev Tk (X : Cx) (W : WX) : Prop := Takes X W
section
variable {X : Cx} {W : WX} {k : Nat} {x m : Str} {ps : List Str} {g : List D → Mem → Res D} {a : AF} {p pos apos : Pos} {e o : Expr} {es : List Expr} {fo : EF}
theorem up_call {σ : St} {H : Hp} {Q : VK} (h : Up (cn X) W (DV (cn X)) (eCall g a) σ H Q) : Up (cn X) W (DVs (cn X)) a σ H (fun vs H1 => spF (cn X) g vs H1 Q (WE W σ)) := by
  refine Up.imp (Up.bind h) fun vs H1 ⟨G, S, ds, M, r, s, q, p⟩ => ?_
  exact ⟨G, ds, M, r, q, p.wish fun _ _ _ z => z⟩
theorem qcall (F : Has X.prog X.w X.K X.mg X.base k x ps g) (hr : Room k X.A) (tk : Takes X W) (hg : Gl X x) (ha : QA X W (e :: es) a) (hdb : (x == ("__debug__" : Str)) = false := by decide)
    (he : starEach (e :: es) X.env = (false, eval e X.env) :: starEach es X.env := by rfl) (hpl : (backTo pos (starEach es X.env)).any (·.1) = false := by rfl) : QE X W (.Call (.Name x p) (e :: es) [] pos) (eCall g a) := by
  obtain ⟨f, fd, m1, kp, b, ok⟩ := F
  exact PE.imp (pe_callS (E := WE W) ok hr hg m1 kp b (passAt tk) ha hdb he hpl) fun _ _ _ h => up_call h
theorem qcall0 (F : Has X.prog X.w X.K X.mg X.base k x ps g) (hr : Room k X.A) (tk : Takes X W) (hg : Gl X x) (hdb : (x == ("__debug__" : Str)) = false := by decide) : QE X W (.Call (.Name x p) [] [] pos) (eCall g aNil) := by
  obtain ⟨f, fd, m1, kp, b, ok⟩ := F
  refine ⟨fun pins s σ H Q I h => ?_⟩
  obtain ⟨G, S, M, r, sl, p⟩ := h
  refine wpAny_Call_Name_kw (ld_glob I hg m1 ?_ hdb)
  exact PySem.W.callWith_K0 I.kIn kp (run_fnS (us := []) (vs := []) (E := WE W) ok hr b (passAt tk σ) I .nil ⟨G, [], M, r, rfl, p.wish fun _ _ _ z => z⟩)
/-- o.m(..): o an instance of the class cl -/
def isObj (cl : Str) (d : D) (M : Mem) : Option (List (Str × D)) := match d with
  | .obj c fs => if c = cl then some fs else none
  | .ptr k => match M[k]? with
    | some (.obj c fs) => if c = cl then some fs else none
    | _ => none
  | _ => none
def eMeth (cl m : Str) (g : List D → Mem → Res D) (o : EF) (a : AF) : EF := fun S M => (o S M).bind fun d M1 => match isObj cl d M1 with
  | some fs => if fs.lookup m = none then (a S M1).bind fun ds M2 => g (d :: ds) M2 else .bad
  | none => .bad
theorem DVf.lookup {c : Cn} {G : Gd} {f : Str} : ∀ {fs : List (Str × D)} {ws : List (Str × V)}, DVf c G fs ws → match fs.lookup f with | some d => ∃ v, ws.lookup f = some v ∧ DV c G d v | none => ws.lookup f = none
  | [], _, h => by
    cases (show _ = [] from h)
    rfl
  | (n, d) :: r, _, h => by
    obtain ⟨⟨n', v⟩, t, rfl, ⟨e, q⟩, h⟩ := h
    have e' : n' = n := e
    subst e'
    have ih := DVf.lookup (f := f) h
    simp only [List.lookup_cons]
    cases z : f == n' with
    | true => exact ⟨v, rfl, q⟩
    | false => exact ih
theorem isObj_at {c : Cn} {G : Gd} {H : Hp} {M : Mem} {cl : Str} {d : D} {v : V} {fs : List (Str × D)} {C : Addr} (r : Rep c G H M) (hC : c.mg cl = some (.ref C)) (h : isObj cl d M = some fs) (q : DV c G d v) :
    ∃ a dx ws, v = .ref a ∧ H a = some (.ins C dx ws) ∧ DVf c G fs ws := by
  unfold isObj at h
  split at h
  · rename_i c' fs'
    split at h
    · rename_i ec
      cases h
      subst ec
      obtain ⟨a, C', dx, ws, rfl, q1, q2, q3⟩ := q
      rw [hC] at q2
      cases q2
      exact ⟨a, dx, ws, rfl, r.fz.ins q1, q3⟩
    · cases h
  · rename_i k'
    split at h
    · rename_i c' fs' ek
      split at h
      · rename_i ec
        cases h
        subst ec
        obtain ⟨a, e1, rfl⟩ := q
        obtain ⟨C', dx, ws, q1, q2, q3⟩ := r.mem k' _ a ek e1
        rw [hC] at q2
        cases q2
        exact ⟨a, dx, ws, rfl, q1, q3⟩
      · cases h
    · cases h
  · cases h
theorem qmeth {pl : Sem Bool} {cl : Str} {C : Addr} (F : HasM X.prog X.w X.K X.mg X.base k cl m ps g) (hC : X.mg cl = some (.ref C)) (c : Cls X.K C) (hr : Room k X.A) (tk : Takes X W) (ho : QE X W o fo) (ha : QA X W (e :: es) a)
    (hst : starEach (e :: es) X.env = (false, eval e X.env) :: starEach es X.env := by rfl) (hpl : (backTo pos (starEach es X.env)).any (·.1) = false := by rfl)
    (ht : eval (.Call (.Attribute o m apos) (e :: es) [] pos) X.env = (do
      let ov ← eval o X.env
      standAt apos.atName
      let (f, first) ← holding [ov] (getMethod ov m pl)
      callWith pos f first (backTo pos (starEach (e :: es) X.env)) (backToKw pos (keywordEach [] X.env))) := by rfl) : QE X W (.Call (.Attribute o m apos) (e :: es) [] pos) (eMeth cl m g fo a) := by
  obtain ⟨C', f, fd, m1, hm, b, ok⟩ := F
  have eC : C' = C := by
    rw [hC] at m1
    cases m1
    rfl
  subst eC
  refine ⟨fun pins s σ H Q I h => ?_⟩
  refine PySem.W.methodCall_KW (pl := pl) (thn (PE.run ho pins s σ H _ I (Up.bind h)) fun u s1 ⟨x, H1, I1, rx, G, S, d, M, r, sl, q, p⟩ => ?_) ht
  split at p
  · rename_i fs hfs
    split at p
    · rename_i hl
      obtain ⟨a0, dx, ws, rfl, e1, e2⟩ := isObj_at r hC hfs q
      obtain rfl : u = Value.ref a0 := rx
      have lk := e2.lookup (f := m)
      rw [hl] at lk
      refine getmeth_ok I1 e1 c hm lk ?_
      refine PySem.W.callWith_K (first := [.ref a0]) (h₀ := X.base) I1.ok.mod.kin hm.kp (thn (PA.run ha pos pins s1 σ H1 _ I1 ⟨G, S, M, r, sl, Post.bind (rel := DVs (cn X)) p⟩) fun us s2 ⟨vs, H2, I2, r2, G2, ds, M2, g2, rp2, q2, p2⟩ => ⟨I2.kIn, ?_⟩) hst hpl
      exact run_fnS (us := .ref a0 :: us) (vs := .ref a0 :: vs) (E := WE W) ok hr b (passAt tk σ) I2 (.cons rfl r2) ⟨G2, d :: ds, M2, rp2, DVs.cons (q.mono g2) q2, p2.wish fun _ _ _ z => z⟩
    · exact p.elim
  · exact p.elim
theorem qmeth0 {pl : Sem Bool} {cl : Str} {C : Addr} (F : HasM X.prog X.w X.K X.mg X.base k cl m ps g) (hC : X.mg cl = some (.ref C)) (c : Cls X.K C) (hr : Room k X.A) (tk : Takes X W) (ho : QE X W o fo)
    (ht : eval (.Call (.Attribute o m apos) [] [] pos) X.env = (do
      let ov ← eval o X.env
      standAt apos.atName
      let (f, first) ← holding [ov] (getMethod ov m pl)
      callWith pos f first (backTo pos (starEach [] X.env)) (backToKw pos (keywordEach [] X.env))) := by rfl) : QE X W (.Call (.Attribute o m apos) [] [] pos) (eMeth cl m g fo aNil) := by
  obtain ⟨C', f, fd, m1, hm, b, ok⟩ := F
  have eC : C' = C := by
    rw [hC] at m1
    cases m1
    rfl
  subst eC
  refine ⟨fun pins s σ H Q I h => ?_⟩
  refine PySem.W.methodCall_KW (pl := pl) (thn (PE.run ho pins s σ H _ I (Up.bind h)) fun u s1 ⟨x, H1, I1, rx, G, S, d, M, r, sl, q, p⟩ => ?_) ht
  split at p
  · rename_i fs hfs
    split at p
    · rename_i hl
      obtain ⟨a0, dx, ws, rfl, e1, e2⟩ := isObj_at r hC hfs q
      obtain rfl : u = Value.ref a0 := rx
      have lk := e2.lookup (f := m)
      rw [hl] at lk
      refine getmeth_ok I1 e1 c hm lk ?_
      exact PySem.W.callWith_K0 (first := [.ref a0]) I1.kIn hm.kp (run_fnS (us := [.ref a0]) (vs := [.ref a0]) (E := WE W) ok hr b (passAt tk σ) I1 (.cons rfl .nil) ⟨G, [d], M, r, DVs.one q, Post.wish p fun _ _ _ z => z⟩)
    · exact p.elim
  · exact p.elim
/-- o.f -/
def eFld (cl f : Str) (o : EF) : EF := fun S M => (o S M).bind fun d M1 => match isObj cl d M1 with
  | some fs => match fs.lookup f with
    | some y => .ok y M1
    | none => .bad
  | none => .bad
theorem qfld {cl f : Str} {C : Addr} (hC : X.mg cl = some (.ref C)) (c : Cls X.K C) (na : NoAttr X.K C f) (ho : QE X W o fo) (hb : attributeBase o f X.env (eval o X.env) = eval o X.env := by rfl) : QE X W (.Attribute o f pos) (eFld cl f fo) := PE.imp (pe_fld ho hb) fun σ H Q h => by
  refine Up.imp (Up.bind h) fun v H1 ⟨G, S, d, M, r, s, q, p⟩ => ?_
  split at p
  · rename_i fs hfs
    split at p
    · rename_i y hy
      obtain ⟨a0, dx, ws, rfl, e1, e2⟩ := isObj_at r hC hfs q
      have lk := e2.lookup (f := f)
      rw [hy] at lk
      obtain ⟨v, lk, qv⟩ := lk
      exact ⟨a0, C, dx, ws, v, rfl, e1, c, na, lk, p G v H1 (Gr.refl _) r qv⟩
    · exact p.elim
  · exact p.elim
/-- o.f = e -/
def putD (f : Str) (d : D) : List (Str × D) → List (Str × D)
  | [] => [(f, d)]
  | (g, y) :: r => if g = f then (g, d) :: r else (g, y) :: putD f d r
theorem DVf.put {c : Cn} {G : Gd} {f : Str} {d : D} {v : V} (q : DV c G d v) : ∀ {fs : List (Str × D)} {ws : List (Str × V)}, DVf c G fs ws → DVf c G (putD f d fs) (putF f v ws)
  | [], _, h => by
    cases (show _ = [] from h)
    exact ⟨(f, v), [], rfl, ⟨rfl, q⟩, rfl⟩
  | (g, y) :: r, _, h => by
    obtain ⟨⟨g', u⟩, t, rfl, ⟨e, qu⟩, h⟩ := h
    have e' : g' = g := e
    subst e'
    unfold putD putF
    by_cases z : g' = f
    · rw [if_pos z]
      first
        | (rw [if_pos z]; exact ⟨_, t, rfl, ⟨rfl, q⟩, h⟩)
        | (simp only [z, if_true]; exact ⟨_, t, rfl, ⟨rfl, q⟩, h⟩)
    · rw [if_neg z]
      first
        | (rw [if_neg z]; exact ⟨_, _, rfl, ⟨rfl, qu⟩, h.put q⟩)
        | (simp only [z, if_false]; exact ⟨_, _, rfl, ⟨rfl, qu⟩, h.put q⟩)
theorem DVf.length {c : Cn} {G : Gd} : ∀ {fs : List (Str × D)} {ws : List (Str × V)}, DVf c G fs ws → ws.length = fs.length
  | [], _, h => by
    cases (show _ = [] from h)
    rfl
  | _ :: _, _, h => by
    obtain ⟨v, t, e, q, r⟩ := h
    rw [e, List.length_cons, List.length_cons, DVf.length r]
def kFld (cl f : Str) (o v : EF) : TF := fun S M => (v S M).thn S fun y M1 => (o S M1).thn S fun d M2 => match d with
  | .ptr k => match M2[k]? with
    | some (.obj c fs) => if c = cl ∧ fs.length < 1000 then .nx S (M2.set k (.obj c (putD f y fs))) else .bad
    | _ => .bad
  | _ => .bad
theorem qsfld {cl f : Str} {C : Addr} {v : Expr} {fv : EF} {pos' : Pos} (hC : X.mg cl = some (.ref C)) (c : Cls X.K C) (na : NoAttr X.K C f) (ho : QE X W o fo) (hv : QE X W v fv) (hs : swapsWith v (some (.Attribute o f pos')) pos.line X.env = pure false := by rfl) :
    QS X W (.Assign [.Attribute o f pos'] v pos) (kFld cl f fo fv) := PS.imp (ps_fld ho hv hs) fun D σ H h => by
  refine Up.imp (UpS.thn h) fun y H1 ⟨G, S, dy, M, r, s, q, p⟩ => ?_
  refine ⟨G, S, M, r, s, (PostS.thnE (rel := DV (cn X)) s p).imp fun x H2 ⟨G2, d, M2, g2, r2, q2, p2⟩ => ?_⟩
  split at p2
  · rename_i k'
    split at p2
    · rename_i c' fs' ek
      split at p2
      · rename_i ec
        obtain ⟨ec, hl⟩ := ec
        subst ec
        obtain ⟨a, e1, rfl⟩ := q2
        obtain ⟨C', dx, ws, q3, q4, q5⟩ := r2.mem k' _ a ek e1
        have q4' : X.mg c' = some (.ref C') := q4
        rw [hC] at q4'
        cases q4'
        refine ⟨a, C, dx, ws, rfl, q3, c, na, by rw [q5.length]; exact hl, ?_⟩
        exact p2 G2 σ _ (Gr.refl _) (r2.write ek e1 rfl ⟨C, dx, _, upd_same, q4, q5.put (q.mono g2)⟩) (s.mono g2)
      · exact p2.elim
    · exact p2.elim
  · exact p2.elim
/-- C(..) -/
def eMake (cl : Str) (g : List D → Mem → Res D) (a : AF) : EF := fun S M => (a S M).bind fun ds M1 => match g (.ptr M1.length :: ds) (M1 ++ [.obj cl []]) with
  | .ok .non M2 => .ok (.ptr M1.length) M2
  | .rz x M2 => settle M1.length (.rz x M2)
  | _ => .bad
/-- a class that can be made: its __init__ keeps g -/
def HasC (P : Program) (w : World) (K : PySem.W.Frag) (mg : Str → Option Value) (base : Heap) (k : Nat) (cl : Str) (ps : List Str) (g : List D → Mem → Res D) : Prop :=
  ∃ C f fd, mg cl = some (.ref C) ∧ Mk K C f ∧ Binds K fd ps [] ∧ FnOk P w K mg base (L2.CX P w) k f fd ps (spF ⟨K, mg⟩ g)
theorem up_make {c : Cn} {cl : Str} {C : Addr} {σ : St} {H : Hp} {Q : VK} (hC : c.mg cl = some (.ref C)) (h : Up c W (DV c) (eMake cl g a) σ H Q) :
    Up c W (DVs c) a σ H (fun vs H1 => ∀ x dx, H1 x = none → H1 dx = none → dx ≠ x → spF c g (.ref x :: vs) (upd (upd H1 dx (.own x)) x (.ins C dx [])) (fun v H2 => v = .non ∧ Q (.ref x) H2) (WE W σ)) := by
  refine Up.imp (Up.bind h) fun vs H1 ⟨G, S, ds, M, r, s, q, p⟩ x dx nx ndx ne => ?_
  have g1 : Gr G { G with F := upd G.F dx (.own x) } := Gr.newF (r.fz.free ndx)
  have r1 := r.newF (o := .own x) ndx
  have nx1 : upd H1 dx (.own x) x = none := by rw [upd_ne (Ne.symm ne)]; exact nx
  have g2 := Gr.newP (G := { G with F := upd G.F dx (.own x) }) x
  have r2 := r1.newP (o := .ins C dx []) (mo := .obj cl []) nx1 ⟨C, dx, [], upd_same, hC, rfl⟩
  have hp : (G.θ ++ [x])[M.length]? = some x := by
    rw [← r.len, List.getElem?_append_right (Nat.le_refl _), Nat.sub_self]
    rfl
  refine ⟨_, .ptr M.length :: ds, M ++ [.obj cl []], r2, DVs.cons ⟨x, hp, rfl⟩ (q.mono (g1.trans g2)), ?_⟩
  cases e : g (.ptr M.length :: ds) (M ++ [.obj cl []]) with
  | ok d M2 =>
    simp only [e] at p
    cases d with
    | non => exact fun G3 v H3 g3 r3 q3 => ⟨q3, p G3 (.ref x) H3 ((g1.trans g2).trans g3) r3 ⟨x, g3.at hp, rfl⟩⟩
    | _ => exact p.elim
  | rz y M2 =>
    simp only [e] at p
    have p2 := Post.settle (r := .rz y M2) (by rw [r.len]; exact p)
    exact fun G3 cls dd H3 g3 r3 q3 => p2 G3 cls dd H3 ((g1.trans g2).trans g3) r3 q3
  | bad =>
    simp only [e] at p
    exact p.elim
theorem run_makeS {C f : Addr} {fd : FuncData} {sp : Sp} {E : XK} {pins : List (Addr × Obj)} {σ : St} {H : Hp} {s : Shared} {Q : VK} {us : List Value} {vs : List V} (M : Mk X.K C f) (F : FnOk X.prog X.w X.K X.mg X.base (L2.CX X.prog X.w) k f fd ps sp) (hr : Room (k + 1) X.A) (hb : Binds X.K fd ps [])
    (hx : PassesAt (L2.CX X.prog X.w) X σ E) (I : Inv X pins σ H s) (r : Vals vs us)
    (h : ∀ x dx, H x = none → H dx = none → dx ≠ x → sp (.ref x :: vs) (upd (upd H dx (.own x)) x (.ins C dx [])) (fun v H2 => v = .non ∧ Q (.ref x) H2) E) :
    wpAny (model X.prog X.w) X.A (call (.ref C) us) (EP X pins σ Q) X.xe s := by
  have hq := h (s.heap.objs.size + 1) s.heap.objs.size (I.hok.fresh (Nat.le_succ _)) (I.hok.fresh (Nat.le_refl _)) (Nat.ne_of_lt (Nat.lt_succ_self _))
  have J := Inv.made (C := C) I
  have rv : Vals (V.ref (s.heap.objs.size + 1) :: vs) (Value.ref (s.heap.objs.size + 1) :: us) := .cons rfl r
  have hl : (Value.ref (s.heap.objs.size + 1) :: us).length = ps.length := rv.length.symm.trans (F.len _ _ _ _ hq)
  have bb := hb _ (Value.ref (s.heap.objs.size + 1) :: us) J.kIn (by rw [List.append_nil]; exact hl)
  rw [List.append_nil] at bb
  refine wpAny_call (make_map (f := f) I.kIn M.makes M.init (beq_iff_eq.mp M.fn) (codeAny_mono (F.run _ X.stack _ _ _ _ _ _ E (hr.make C us []) (J.env0.make C us []) bb rv hq) fun r s' z => ?_))
  cases r with
  | error e => exact hx pins _ _ e s' J z
  | ok fl =>
    cases fl with
    | ret u =>
      obtain ⟨v, H', I3, rv, ev, q3⟩ := J.after z
      subst ev
      exact ⟨rv, ⟨V.ref (s.heap.objs.size + 1), H', I3, rfl, q3⟩⟩
    | next => exact False.elim z
    | brk => exact False.elim z
    | cont => exact False.elim z
theorem qmake (F : HasC X.prog X.w X.K X.mg X.base k x ps g) (hr : Room (k + 1) X.A) (tk : Takes X W) (hg : Gl X x) (ha : QA X W (e :: es) a) (hdb : (x == ("__debug__" : Str)) = false := by decide)
    (he : starEach (e :: es) X.env = (false, eval e X.env) :: starEach es X.env := by rfl) (hpl : (backTo pos (starEach es X.env)).any (·.1) = false := by rfl) : QE X W (.Call (.Name x p) (e :: es) [] pos) (eMake x g a) := by
  obtain ⟨C, f, fd, m1, M, b, ok⟩ := F
  refine ⟨fun pins s σ H Q I h => ?_⟩
  refine wpAny_Call_Name_kw (ld_glob I hg m1 ?_ hdb)
  refine PySem.W.callWith_K (h₀ := X.base) I.ok.mod.kin M.kp (thn (PA.run ha pos pins s σ H _ I (up_make m1 h)) fun us s1 ⟨vs, H1, I1, r, q⟩ => ⟨I1.kIn, ?_⟩) he hpl
  exact run_makeS M ok hr b (passAt tk σ) I1 r q
end

/-! ### what changed before will not change any more -/
/-- the thing at a place of the store, as data -/
def frz (d : D) (M : Mem) : Option (D × Mem) := match d with
  | .ptr k => match M[k]? with
    | some (.lst ds) => some (.lst ds, M.set k .gone)
    | some (.dK kvs) => some (.dK kvs, M.set k .gone)
    | some (.dT kvs) => some (.dT kvs, M.set k .gone)
    | some (.obj c fs) => some (.obj c fs, M.set k .gone)
    | _ => none
  | d => some (d, M)
def eFrz (e : EF) : EF := fun S M => (e S M).bind fun d M1 => match frz d M1 with
  | some (d', M2) => .ok d' M2
  | none => .bad
theorem frz_ok {c : Cn} {G : Gd} {H : Hp} {M M' : Mem} {d d' : D} {v : V} (r : Rep c G H M) (q : DV c G d v) (h : frz d M = some (d', M')) : ∃ G', Gr G G' ∧ Rep c G' H M' ∧ DV c G' d' v := by
  unfold frz at h
  split at h
  · rename_i k
    obtain ⟨a, e1, rfl⟩ := q
    split at h
    · rename_i ds ek
      cases h
      obtain ⟨vs, hu, q⟩ := r.mem k _ a ek e1
      obtain ⟨g, r'⟩ := r.freeze ek e1 rfl hu
      exact ⟨_, g, r', a, vs, rfl, .inl (.inl upd_same), q.mono g⟩
    · rename_i ds ek
      cases h
      obtain ⟨vs, hu, q⟩ := r.mem k _ a ek e1
      obtain ⟨g, r'⟩ := r.freeze ek e1 rfl hu
      exact ⟨_, g, r', a, vs, rfl, upd_same, q.mono g⟩
    · rename_i ds ek
      cases h
      obtain ⟨vs, hu, q⟩ := r.mem k _ a ek e1
      obtain ⟨g, r'⟩ := r.freeze ek e1 rfl hu
      exact ⟨_, g, r', a, vs, rfl, upd_same, q.mono g⟩
    · rename_i n fs ek
      cases h
      obtain ⟨C, dx, vs, hu, m, q⟩ := r.mem k _ a ek e1
      obtain ⟨g, r'⟩ := r.freeze ek e1 rfl hu
      exact ⟨_, g, r', a, C, dx, vs, rfl, upd_same, m, q.mono g⟩
    · cases h
  · cases h
    exact ⟨G, Gr.refl G, r, q⟩
theorem qfrz {X : Cx} {W : WX} {e : Expr} {f : EF} (h : QE X W e f) : QE X W e (eFrz f) := PE.imp h fun σ H Q h => by
  refine Up.imp (Up.bind h) fun v H1 ⟨G, S, d, M, r, s, q, p⟩ => ?_
  split at p
  · rename_i d' M2 hf
    obtain ⟨G', g, r', q'⟩ := frz_ok r q hf
    exact p G' v H1 g r' q'
  · exact p.elim
end QL
end
section
set_option Elab.async false
set_option linter.all false
set_option maxRecDepth 100000
set_option maxHeartbeats 4000000
set_option autoImplicit false
/-! QOps: operators, subscripts, slices, the calls of built-ins, on data. -/
namespace QL
open PySem PySem.Spec L2

/-! ### reading a place of the store -/
def asL (M : Mem) : D → Option (List D)
  | .lst ds => some ds
  | .ptr k => match M[k]? with
    | some (.lst ds) => some ds
    | _ => none
  | _ => none
def asK (M : Mem) : D → Option (List (Key × D))
  | .dK ds => some ds
  | .ptr k => match M[k]? with
    | some (.dK ds) => some ds
    | some (.lkK ds) => some ds
    | _ => none
  | _ => none
def asTt (M : Mem) : D → Option (List (List Key × D))
  | .dT ds => some ds
  | .ptr k => match M[k]? with
    | some (.dT ds) => some ds
    | some (.lkT ds) => some ds
    | _ => none
  | _ => none
section
variable {c : Cn} {G : Gd} {H : Hp} {M : Mem} {d : D} {v : V}
theorem asL_at {ds : List D} (r : Rep c G H M) (q : DV c G d v) (h : asL M d = some ds) : ∃ a vs, v = .ref a ∧ SqL c.K H a vs ∧ DVs c G ds vs := by
  unfold asL at h
  split at h
  · cases h
    obtain ⟨a, vs, e, s, t⟩ := q
    exact ⟨a, vs, e, r.fz.sqL s, t⟩
  · rename_i k
    split at h
    · rename_i ds' ek
      cases h
      obtain ⟨a, e1, e⟩ := q
      obtain ⟨vs, hu, t⟩ := r.mem k _ a ek e1
      exact ⟨a, vs, e, .inl (.inl hu), t⟩
    · cases h
  · cases h
theorem asK_at {ds : List (Key × D)} (r : Rep c G H M) (q : DV c G d v) (h : asK M d = some ds) : ∃ a vs, v = .ref a ∧ Rd H a (.dK vs) ∧ DVk c G ds vs := by
  unfold asK at h
  split at h
  · cases h
    obtain ⟨a, vs, e, s, t⟩ := q
    exact ⟨a, vs, e, r.fz.rd s, t⟩
  · rename_i k
    split at h
    · rename_i ds' ek
      cases h
      obtain ⟨a, e1, e⟩ := q
      obtain ⟨vs, hu, t⟩ := r.mem k _ a ek e1
      exact ⟨a, vs, e, .inl hu, t⟩
    · rename_i ds' ek
      cases h
      obtain ⟨a, e1, e⟩ := q
      obtain ⟨vs, o, hu, t⟩ := r.mem k _ a ek e1
      exact ⟨a, vs, e, .inr ⟨o, hu⟩, t⟩
    · cases h
  · cases h
theorem asTt_at {ds : List (List Key × D)} (r : Rep c G H M) (q : DV c G d v) (h : asTt M d = some ds) : ∃ a vs, v = .ref a ∧ Rd H a (.dT vs) ∧ DVt c G ds vs := by
  unfold asTt at h
  split at h
  · cases h
    obtain ⟨a, vs, e, s, t⟩ := q
    exact ⟨a, vs, e, r.fz.rd s, t⟩
  · rename_i k
    split at h
    · rename_i ds' ek
      cases h
      obtain ⟨a, e1, e⟩ := q
      obtain ⟨vs, hu, t⟩ := r.mem k _ a ek e1
      exact ⟨a, vs, e, .inl hu, t⟩
    · rename_i ds' ek
      cases h
      obtain ⟨a, e1, e⟩ := q
      obtain ⟨vs, o, hu, t⟩ := r.mem k _ a ek e1
      exact ⟨a, vs, e, .inr ⟨o, hu⟩, t⟩
    · cases h
  · cases h
/-- a list of ints, of texts, of truth values -/
theorem DVs.ints : ∀ {ns : List Int} {vs : List V}, DVs c G (ns.map D.int) vs → vs = ns.map V.int
  | [], _, h => h
  | n :: ns, _, h => by
    obtain ⟨v, t, e, q, r⟩ := h
    rw [e, show v = .int n from q, DVs.ints r]
    rfl
theorem DVs.strs : ∀ {ns : List Str} {vs : List V}, DVs c G (ns.map D.str) vs → vs = ns.map V.str
  | [], _, h => h
  | n :: ns, _, h => by
    obtain ⟨v, t, e, q, r⟩ := h
    rw [e, show v = .str n from q, DVs.strs r]
    rfl
theorem DVs.bls : ∀ {ns : List Bool} {vs : List V}, DVs c G (ns.map D.bl) vs → vs = ns.map V.bl
  | [], _, h => h
  | n :: ns, _, h => by
    obtain ⟨v, t, e, q, r⟩ := h
    rw [e, show v = .bl n from q, DVs.bls r]
    rfl
theorem DVs.take {ds : List D} {vs : List V} (h : DVs c G ds vs) (n : Nat) : DVs c G (ds.take n) (vs.take n) := by
  induction ds generalizing vs n with
  | nil =>
    cases (show vs = [] from h)
    simp
    rfl
  | cons d r ih =>
    obtain ⟨v, t, rfl, q, r'⟩ := h
    cases n with
    | zero => exact rfl
    | succ n => exact ⟨v, t.take n, rfl, q, ih r' n⟩
theorem DVs.drop {ds : List D} {vs : List V} (h : DVs c G ds vs) (n : Nat) : DVs c G (ds.drop n) (vs.drop n) := by
  induction ds generalizing vs n with
  | nil =>
    cases (show vs = [] from h)
    simp
    rfl
  | cons d r ih =>
    obtain ⟨v, t, rfl, q, r'⟩ := h
    cases n with
    | zero => exact ⟨v, t, rfl, q, r'⟩
    | succ n => exact ih r' n
end
/-- a list of ints as such -/
def intsOf : List D → Option (List Int)
  | [] => some []
  | .int i :: r => (intsOf r).map (i :: ·)
  | _ => none
def strsOf : List D → Option (List Str)
  | [] => some []
  | .str i :: r => (strsOf r).map (i :: ·)
  | _ => none
def blsOf : List D → Option (List Bool)
  | [] => some []
  | .bl i :: r => (blsOf r).map (i :: ·)
  | _ => none
theorem intsOf_map : ∀ ns : List Int, intsOf (ns.map D.int) = some ns
  | [] => rfl
  | n :: r => by simp [intsOf, intsOf_map r]
theorem strsOf_map : ∀ ns : List Str, strsOf (ns.map D.str) = some ns
  | [] => rfl
  | n :: r => by simp [strsOf, strsOf_map r]
theorem blsOf_map : ∀ ns : List Bool, blsOf (ns.map D.bl) = some ns
  | [] => rfl
  | n :: r => by simp [blsOf, blsOf_map r]
theorem intsOf_eq : ∀ {ds : List D} {ns : List Int}, intsOf ds = some ns → ds = ns.map D.int
  | [], _, h => by cases h; rfl
  | d :: r, ns, h => by
    cases d with
    | int i =>
      simp only [intsOf] at h
      cases e : intsOf r with
      | none => rw [e] at h; cases h
      | some l => rw [e] at h; cases h; rw [intsOf_eq e]; rfl
    | _ => cases h
theorem strsOf_eq : ∀ {ds : List D} {ns : List Str}, strsOf ds = some ns → ds = ns.map D.str
  | [], _, h => by cases h; rfl
  | d :: r, ns, h => by
    cases d with
    | str i =>
      simp only [strsOf] at h
      cases e : strsOf r with
      | none => rw [e] at h; cases h
      | some l => rw [e] at h; cases h; rw [strsOf_eq e]; rfl
    | _ => cases h
theorem blsOf_eq : ∀ {ds : List D} {ns : List Bool}, blsOf ds = some ns → ds = ns.map D.bl
  | [], _, h => by cases h; rfl
  | d :: r, ns, h => by
    cases d with
    | bl i =>
      simp only [blsOf] at h
      cases e : blsOf r with
      | none => rw [e] at h; cases h
      | some l => rw [e] at h; cases h; rw [blsOf_eq e]; rfl
    | _ => cases h

/-! ### arithmetic -/
def fAdd (x y : D) (M : Mem) : Res D := match x, y with
  | .int i, .int j => .ok (.int (i + j)) M
  | .str a, .str b => if a.length + b.length ≤ sizeLine then .ok (.str (a ++ b)) M else .bad
  | x, y => match asL M x, asL M y with
    | some xs, some ys => if xs.length + ys.length ≤ sizeLine then .ok (.lst (xs ++ ys)) M else .bad
    | _, _ => .bad
def fSub (x y : D) (M : Mem) : Res D := match x, y with
  | .int i, .int j => .ok (.int (i - j)) M
  | _, _ => .bad
open Classical in
noncomputable def fMul (x y : D) (M : Mem) : Res D := match x, y with
  | .int i, .int j => if CMulW i j then .ok (.int (i * j)) M else .bad
  | _, _ => .bad
open Classical in
noncomputable def fDiv (x y : D) (M : Mem) : Res D := match x, y with
  | .int i, .int j => if CDivW i j then .ok (.int (i / j)) M else .bad
  | _, _ => .bad
def fMod (x y : D) (M : Mem) : Res D := match x, y with
  | .int i, .int j => if 0 < j then .ok (.int (i % j)) M else .bad
  | _, _ => .bad
def fPow (x y : D) (M : Mem) : Res D := match x, y with
  | .int i, .int j => if 0 ≤ j ∧ j ≤ 1000000 ∧ i.natAbs < 2 ^ 64 then .ok (.int (i ^ j.toNat)) M else .bad
  | _, _ => .bad
/-- list + list -/
def rCatL (K : PySem.W.Frag) : R2 := fun x y H Q => ∃ l b xs zs, x = .ref l ∧ y = .ref b ∧ SqL K H l xs ∧ SqL K H b zs ∧ xs.length + zs.length ≤ sizeLine ∧ ∀ p, H p = none → Q (.ref p) (upd H p (.lst (xs ++ zs)))
section
variable {X : Cx}
theorem op_catL : OpR X (binaryOp .Add) (rCatL X.K) := by
  intro pins s σ H x y v u Q I rx ry h
  obtain ⟨l, b, xs, zs, rfl, rfl, hH, hB, hz, q⟩ := h
  cases rx
  cases ry
  obtain ⟨its, r, p1, z1⟩ := I.list hH
  obtain ⟨its2, r2, p2, z2⟩ := I.list hB
  obtain ⟨o1, n1, e1, c1, d1, k1⟩ := p1
  obtain ⟨o2, n2, e2, c2, d2, k2⟩ := p2
  have l1 := r.length
  have l2 := r2.length
  obtain ⟨oc1, od1, ok1, os1⟩ := o1
  obtain ⟨oc2, od2, ok2, os2⟩ := o2
  simp only at c1 d1 k1 c2 d2 k2
  subst c1 d1 k1 c2 d2 k2
  have ea : its.toArray ++ its2.toArray = (its ++ its2).toArray := by simp
  refine concat_meets ⟨_, e1, rfl⟩ ⟨_, e2, rfl⟩ noFill_list_add seq_list_add PySem.F.slot_list_add PySem.F.entry_list_add (PySem.F.args_list_add_2 _ _)
    (PyProof.Rows.list_addW l b its.toArray its2.toArray n1 n2 none none os1 os2 (by simp; omega)) ⟨e1, e2, ?_⟩
  rw [ea]
  exact ⟨.ref _, _, I.lnew (t' := s.toks) (r.append r2) (by rw [List.length_append]; omega), rfl, q _ I.fresh⟩
end
section
variable {X : Cx} {c : Cn}
def rAddA (K : PySem.W.Frag) : R2 := fun x y H Q => (rI0 (fun i j => .int (i + j)) x y H Q ∨ (∃ i j, x = .str i ∧ y = .str j ∧ i.length + j.length ≤ sizeLine ∧ Q (.str (i ++ j)) H)) ∨ rCatL K x y H Q
theorem op_addA : OpR X (binaryOp .Add) (rAddA X.K) := (op_add.or op_add_str).or op_catL
theorem r2_add : R2s c fAdd (rAddA c.K) := by
  intro W σ G H M x y dx dy Q r qx qy p
  unfold fAdd at p
  split at p
  · cases (show x = _ from qx)
    cases (show y = _ from qy)
    exact .inl (.inl ⟨_, _, rfl, rfl, p G _ H (Gr.refl _) r rfl⟩)
  · cases (show x = _ from qx)
    cases (show y = _ from qy)
    split at p
    · rename_i hz
      exact .inl (.inr ⟨_, _, rfl, rfl, hz, p G _ H (Gr.refl _) r rfl⟩)
    · exact p.elim
  · split at p
    · rename_i xs ys h1 h2
      split at p
      · rename_i hz
        obtain ⟨a, vs, e1, s1, t1⟩ := asL_at r qx h1
        obtain ⟨b, ws, e2, s2, t2⟩ := asL_at r qy h2
        refine .inr ⟨a, b, vs, ws, e1, e2, s1, s2, by rw [t1.length, t2.length]; exact hz, fun p' hp => ?_⟩
        have g := Gr.newF (G := G) (o := .lst (vs ++ ws)) (r.fz.free hp)
        exact p _ _ _ g (r.newF hp) ⟨p', _, rfl, .inl (.inl upd_same), (t1.append t2).mono g⟩
      · exact p.elim
    · exact p.elim
theorem r2_II {f : D → D → Mem → Res D} {C : Int → Int → Prop} {g : Int → Int → Int} (h : ∀ x y M, f x y M ≠ .bad → ∃ i j, x = .int i ∧ y = .int j ∧ C i j ∧ f x y M = .ok (.int (g i j)) M) : R2s c f (rI C fun i j => .int (g i j)) := by
  intro W σ G H M x y dx dy Q r qx qy p
  have nb : f dx dy M ≠ .bad := fun e => by rw [e] at p; exact p
  obtain ⟨i, j, rfl, rfl, hc, e⟩ := h dx dy M nb
  rw [e] at p
  exact ⟨i, j, qx, qy, hc, p G _ H (Gr.refl _) r rfl⟩
theorem r2_sub : R2s c fSub (rI0 fun i j => .int (i - j)) := by
  intro W σ G H M x y dx dy Q r qx qy p
  unfold fSub at p
  split at p
  · exact ⟨_, _, qx, qy, p G _ H (Gr.refl _) r rfl⟩
  · exact p.elim
theorem r2_mul : R2s c fMul (rI CMulW fun i j => .int (i * j)) := r2_II fun x y M h => by
  unfold fMul at h ⊢
  split at h
  · split at h
    · rename_i hc
      exact ⟨_, _, rfl, rfl, hc, by simp [hc]⟩
    · exact absurd rfl h
  · exact absurd rfl h
theorem r2_div : R2s c fDiv (rI CDivW fun i j => .int (i / j)) := r2_II fun x y M h => by
  unfold fDiv at h ⊢
  split at h
  · split at h
    · rename_i hc
      exact ⟨_, _, rfl, rfl, hc, by simp [hc]⟩
    · exact absurd rfl h
  · exact absurd rfl h
theorem r2_mod : R2s c fMod (rI (fun _ j => 0 < j) fun i j => .int (i % j)) := r2_II fun x y M h => by
  unfold fMod at h ⊢
  split at h
  · split at h
    · rename_i hc
      exact ⟨_, _, rfl, rfl, hc, by simp [hc]⟩
    · exact absurd rfl h
  · exact absurd rfl h
theorem r2_pow : R2s c fPow (rI CPow fun i j => .int (i ^ j.toNat)) := r2_II fun x y M h => by
  unfold fPow at h ⊢
  split at h
  · split at h
    · rename_i hc
      exact ⟨_, _, rfl, rfl, hc, by simp [hc]⟩
    · exact absurd rfl h
  · exact absurd rfl h
variable {W : WX} {pos : Pos} {a b : Expr} {fa fb : EF}
theorem qadd (ha : QE X W a fa) (hb : QE X W b fb) : QE X W (.BinOp a .Add b pos) (e2 fAdd fa fb) := q_op op_addA r2_add ha hb
theorem qsub (ha : QE X W a fa) (hb : QE X W b fb) : QE X W (.BinOp a .Sub b pos) (e2 fSub fa fb) := q_op op_sub r2_sub ha hb
theorem qmul (ha : QE X W a fa) (hb : QE X W b fb) : QE X W (.BinOp a .Mult b pos) (e2 fMul fa fb) := q_op op_mulW r2_mul ha hb
theorem qdiv (ha : QE X W a fa) (hb : QE X W b fb) : QE X W (.BinOp a .FloorDiv b pos) (e2 fDiv fa fb) := q_op op_fdivW r2_div ha hb
theorem qmod (ha : QE X W a fa) (hb : QE X W b fb) : QE X W (.BinOp a .Mod b pos) (e2 fMod fa fb) := q_op op_mod r2_mod ha hb
theorem qpow (ha : QE X W a fa) (hb : QE X W b fb) : QE X W (.BinOp a .Pow b pos) (e2 fPow fa fb) := q_op op_pow r2_pow ha hb
def eNeg (a : EF) : EF := fun S M => (a S M).bind fun x M1 => match x with
  | .int i => .ok (.int (-i)) M1
  | _ => .bad
theorem qneg (ha : QE X W a fa) : QE X W (.UnaryOp .USub a pos) (eNeg fa) := PE.imp (pe_un un_neg ha) fun σ H Q h => by
  refine Up.imp (Up.bind h) fun v H1 ⟨G, S, d, M, r1, s, q, p⟩ => ?_
  split at p
  · exact ⟨_, q, p G _ H1 (Gr.refl _) r1 rfl⟩
  · exact p.elim
end

/-! ### data without a store: what == and < say -/
mutual
def toPy : D → PyData
  | .non => .none
  | .bl b => .bool b
  | .int i => .int i
  | .str x => .str x
  | .tup ds => .tuple (toPys ds)
  | .lst ds => .list (toPys ds)
  | _ => .none
def toPys : List D → List PyData
  | [] => []
  | d :: r => toPy d :: toPys r
end
mutual
/-- plain data of depth below n -/
def okD : Nat → D → Bool
  | _, .non => true
  | _, .bl _ => true
  | _, .int _ => true
  | _, .str x => PyData.strOk x
  | n, .tup ds => match n with
    | 0 => false
    | n + 1 => okDs n ds
  | n, .lst ds => match n with
    | 0 => false
    | n + 1 => okDs n ds
  | _, _ => false
def okDs : Nat → List D → Bool
  | _, [] => true
  | n, d :: r => okD n d && okDs n r
end
mutual
theorem okD_lay : ∀ {n : Nat} {d : D}, okD n d = true → (toPy d).canLay0 = true ∧ (toPy d).depth ≤ n
  | _, .non, _ => by simp [toPy, PyData.canLay0, PyData.depth]
  | _, .bl _, _ => by simp [toPy, PyData.canLay0, PyData.depth]
  | _, .int _, _ => by simp [toPy, PyData.canLay0, PyData.depth]
  | _, .str x, h => by
    simp only [okD] at h
    simp [toPy, PyData.canLay0, PyData.depth, h]
  | 0, .tup ds, h => by simp [okD] at h
  | n + 1, .tup ds, h => by
    simp only [okD] at h
    obtain ⟨h1, h2⟩ := okDs_lay h
    simp only [toPy, PyData.canLay0, PyData.depth]
    exact ⟨h1, by omega⟩
  | 0, .lst ds, h => by simp [okD] at h
  | n + 1, .lst ds, h => by
    simp only [okD] at h
    obtain ⟨h1, h2⟩ := okDs_lay h
    simp only [toPy, PyData.canLay0, PyData.depth]
    exact ⟨h1, by omega⟩
  | _, .ptr _, h => by simp [okD] at h
  | _, .raw _, h => by simp [okD] at h
  | _, .dK _, h => by simp [okD] at h
  | _, .dT _, h => by simp [okD] at h
  | _, .obj _ _, h => by simp [okD] at h
theorem okDs_lay : ∀ {n : Nat} {ds : List D}, okDs n ds = true → PyData.canLayAll0 (toPys ds) = true ∧ PyData.depthAll (toPys ds) ≤ n
  | _, [], _ => by simp [toPys, PyData.canLayAll0, PyData.depthAll]
  | n, d :: r, h => by
    simp only [okDs, Bool.and_eq_true] at h
    obtain ⟨a1, a2⟩ := okD_lay h.1
    obtain ⟨b1, b2⟩ := okDs_lay h.2
    simp only [toPys, PyData.canLayAll0, PyData.depthAll, Bool.and_eq_true]
    exact ⟨⟨a1, b1⟩, by omega⟩
end
theorem okD_shaped {d : D} (h : okD 64 d = true) : SeqAt.shaped (toPy d) = true := by
  obtain ⟨h1, h2⟩ := okD_lay h
  unfold SeqAt.shaped
  rw [h1, Bool.true_and]
  exact decide_eq_true h2
section
variable {c : Cn} {G : Gd} {H : Hp}
mutual
theorem DV.dp (z : Fz G.F H) : ∀ {n : Nat} {d : D} {v : V}, okD n d = true → DV c G d v → Dp c.K H v (toPy d)
  | _, .non, _, _, q => by rw [show _ = V.non from q, toPy]; exact .non
  | _, .bl b, _, _, q => by rw [show _ = V.bl b from q, toPy]; exact .bl b
  | _, .int b, _, _, q => by rw [show _ = V.int b from q, toPy]; exact .int b
  | _, .str b, _, _, q => by rw [show _ = V.str b from q, toPy]; exact .str b
  | 0, .tup ds, _, h, q => by simp [okD] at h
  | n + 1, .tup ds, _, h, q => by
    simp only [okD] at h
    obtain ⟨a, vs, rfl, s, t⟩ := q
    rw [toPy]
    exact .tup (.inl (.inl (z.tup s))) (DVs.dp z h t)
  | 0, .lst ds, _, h, q => by simp [okD] at h
  | n + 1, .lst ds, _, h, q => by
    simp only [okD] at h
    obtain ⟨a, vs, rfl, s, t⟩ := q
    rw [toPy]
    exact .lst (z.sqL s) (DVs.dp z h t)
  | _, .ptr _, _, h, _ => by simp [okD] at h
  | _, .raw _, _, h, _ => by simp [okD] at h
  | _, .dK _, _, h, _ => by simp [okD] at h
  | _, .dT _, _, h, _ => by simp [okD] at h
  | _, .obj _ _, _, h, _ => by simp [okD] at h
theorem DVs.dp (z : Fz G.F H) : ∀ {n : Nat} {ds : List D} {vs : List V}, okDs n ds = true → DVs c G ds vs → DpAll c.K H vs (toPys ds)
  | _, [], _, _, q => by rw [show _ = ([] : List V) from q, toPys]; exact .nil
  | n, d :: r, _, h, q => by
    simp only [okDs, Bool.and_eq_true] at h
    obtain ⟨v, t, rfl, q1, q2⟩ := q
    rw [toPys]
    exact .cons (DV.dp z h.1 q1) (DVs.dp z h.2 q2)
end
end
/-- what a place of the store holds, as data -/
def der (M : Mem) (d : D) : D := match asL M d with
  | some ds => .lst ds
  | none => d
theorem der_dp {c : Cn} {G : Gd} {H : Hp} {M : Mem} {d : D} {v : V} (r : Rep c G H M) (q : DV c G d v) (h : okD 64 (der M d) = true) : Dp c.K H v (toPy (der M d)) := by
  unfold der at h ⊢
  cases e : asL M d with
  | none =>
    rw [e] at h
    exact DV.dp r.fz h q
  | some ds =>
    rw [e] at h
    simp only at h ⊢
    obtain ⟨a, vs, rfl, s, t⟩ := asL_at r q e
    rw [toPy]
    have h' : okDs 63 ds = true := by simpa [okD] using h
    exact .lst s (DVs.dp r.fz h' t)
/-- x == y -/
def fEq (x y : D) (M : Mem) : Res D := match x, y with
  | .int i, .int j => .ok (.bl (decide (i = j))) M
  | .str i, .str j => .ok (.bl (decide (i = j))) M
  | x, y => if okD 64 (der M x) = true ∧ okD 64 (der M y) = true then .ok (.bl (PyData.eqv (toPy (der M x)) (toPy (der M y)))) M else .bad
def fNe (x y : D) (M : Mem) : Res D := match x, y with
  | .int i, .int j => .ok (.bl (!decide (i = j))) M
  | .str i, .str j => .ok (.bl (!decide (i = j))) M
  | x, y => if okD 64 (der M x) = true ∧ okD 64 (der M y) = true then .ok (.bl (!PyData.eqv (toPy (der M x)) (toPy (der M y)))) M else .bad
section
variable {c : Cn}
theorem r2_eq : R2s c fEq (fun x y H Q => rEq x y H Q ∨ rEqD c.K x y H Q) := by
  intro W σ G H M x y dx dy Q r qx qy p
  unfold fEq at p
  split at p
  · cases (show x = _ from qx)
    cases (show y = _ from qy)
    refine .inl ⟨rfl, ?_⟩
    have e : ∀ i j : Int, decide (V.int i = V.int j) = decide (i = j) := fun i j => by simp
    rw [e]
    exact p G _ H (Gr.refl _) r rfl
  · cases (show x = _ from qx)
    cases (show y = _ from qy)
    refine .inl ⟨rfl, ?_⟩
    have e : ∀ i j : Str, decide (V.str i = V.str j) = decide (i = j) := fun i j => by simp
    rw [e]
    exact p G _ H (Gr.refl _) r rfl
  · split at p
    · rename_i h
      exact .inr ⟨_, _, der_dp r qx h.1, der_dp r qy h.2, okD_shaped h.1, okD_shaped h.2, p G _ H (Gr.refl _) r rfl⟩
    · exact p.elim
theorem r2_ne : R2s c fNe (fun x y H Q => rNe x y H Q ∨ rNeD c.K x y H Q) := by
  intro W σ G H M x y dx dy Q r qx qy p
  unfold fNe at p
  split at p
  · cases (show x = _ from qx)
    cases (show y = _ from qy)
    refine .inl ⟨rfl, ?_⟩
    have e : ∀ i j : Int, decide (V.int i = V.int j) = decide (i = j) := fun i j => by simp
    rw [e]
    exact p G _ H (Gr.refl _) r rfl
  · cases (show x = _ from qx)
    cases (show y = _ from qy)
    refine .inl ⟨rfl, ?_⟩
    have e : ∀ i j : Str, decide (V.str i = V.str j) = decide (i = j) := fun i j => by simp
    rw [e]
    exact p G _ H (Gr.refl _) r rfl
  · split at p
    · rename_i h
      exact .inr ⟨_, _, der_dp r qx h.1, der_dp r qy h.2, okD_shaped h.1, okD_shaped h.2, p G _ H (Gr.refl _) r rfl⟩
    · exact p.elim
/-- comparisons of two ints -/
def fCmp (o : Int → Int → Bool) (x y : D) (M : Mem) : Res D := match x, y with
  | .int i, .int j => .ok (.bl (o i j)) M
  | _, _ => .bad
theorem r2_cmp {o : Int → Int → Bool} : R2s c (fCmp o) (rI0 fun i j => .bl (o i j)) := by
  intro W σ G H M x y dx dy Q r qx qy p
  unfold fCmp at p
  split at p
  · exact ⟨_, _, qx, qy, p G _ H (Gr.refl _) r rfl⟩
  · exact p.elim
def fLt := fCmp fun i j => decide (i < j)
def fLe := fCmp fun i j => decide (i ≤ j)
def fGt := fCmp fun i j => decide (j < i)
def fGe := fCmp fun i j => decide (j ≤ i)
/-- is None, is not None -/
def fIsN (x y : D) (M : Mem) : Res D := match y with
  | .non => match x with
    | .non => .ok (.bl true) M
    | _ => .ok (.bl false) M
  | _ => .bad
def fNotN (x y : D) (M : Mem) : Res D := match y with
  | .non => match x with
    | .non => .ok (.bl false) M
    | _ => .ok (.bl true) M
  | _ => .bad
theorem DV.notNon {G : Gd} {d : D} {v : V} (h : d ≠ .non) (hr : ∀ u, d ≠ .raw u) (q : DV c G d v) : v ≠ .non := by
  intro e
  subst e
  cases d with
  | non => exact h rfl
  | raw u => exact hr u rfl
  | bl _ => cases (show V.non = _ from q)
  | int _ => cases (show V.non = _ from q)
  | str _ => cases (show V.non = _ from q)
  | ptr _ => obtain ⟨_, _, e⟩ := q; cases e
  | tup _ => obtain ⟨_, _, e, _⟩ := q; cases e
  | lst _ => obtain ⟨_, _, e, _⟩ := q; cases e
  | dK _ => obtain ⟨_, _, e, _⟩ := q; cases e
  | dT _ => obtain ⟨_, _, e, _⟩ := q; cases e
  | obj _ _ => obtain ⟨_, _, _, _, e, _⟩ := q; cases e
end
section
variable {X : Cx} {W : WX} {pos : Pos} {a b : Expr} {fa fb : EF}
theorem op_eqA (hu : X.A.units + 64 < cLine) : OpR X (compareOp .Eq) (fun x y H Q => rEq x y H Q ∨ rEqD X.K x y H Q) := op_eq.or (op_eqD hu)
theorem op_neA (hu : X.A.units + 64 < cLine) : OpR X (compareOp .NotEq) (fun x y H Q => rNe x y H Q ∨ rNeD X.K x y H Q) := op_ne.or (op_neD hu)
theorem qeq (hu : X.A.units + 64 < cLine) (ha : QE X W a fa) (hb : QE X W b fb) : QE X W (.Compare a [.Eq] [b] pos) (e2 fEq fa fb) := q_cmp (op_eqA hu) r2_eq (nomark _) ha hb
theorem qne (hu : X.A.units + 64 < cLine) (ha : QE X W a fa) (hb : QE X W b fb) : QE X W (.Compare a [.NotEq] [b] pos) (e2 fNe fa fb) := q_cmp (op_neA hu) r2_ne (nomark _) ha hb
theorem qlt (ha : QE X W a fa) (hb : QE X W b fb) : QE X W (.Compare a [.Lt] [b] pos) (e2 fLt fa fb) := q_cmp op_lt r2_cmp (nomark _) ha hb
theorem qle (ha : QE X W a fa) (hb : QE X W b fb) : QE X W (.Compare a [.LtE] [b] pos) (e2 fLe fa fb) := q_cmp op_le r2_cmp (nomark _) ha hb
theorem qgt (ha : QE X W a fa) (hb : QE X W b fb) : QE X W (.Compare a [.Gt] [b] pos) (e2 fGt fa fb) := q_cmp op_gt r2_cmp (nomark _) ha hb
theorem qge (ha : QE X W a fa) (hb : QE X W b fb) : QE X W (.Compare a [.GtE] [b] pos) (e2 fGe fa fb) := q_cmp op_ge r2_cmp (nomark _) ha hb
theorem tEq (hu : X.A.units + 64 < cLine) (ha : QE X W a fa) (hb : QE X W b fb) : QT X W (.Compare a [.Eq] [b] pos) (bV (e2 fEq fa fb)) := qt_cmp (op_eqA hu) r2_eq (nomark _) ha hb
theorem tNe (hu : X.A.units + 64 < cLine) (ha : QE X W a fa) (hb : QE X W b fb) : QT X W (.Compare a [.NotEq] [b] pos) (bV (e2 fNe fa fb)) := qt_cmp (op_neA hu) r2_ne (nomark _) ha hb
theorem tLt' (ha : QE X W a fa) (hb : QE X W b fb) : QT X W (.Compare a [.Lt] [b] pos) (bV (e2 fLt fa fb)) := qt_cmp op_lt r2_cmp (nomark _) ha hb
theorem tLe' (ha : QE X W a fa) (hb : QE X W b fb) : QT X W (.Compare a [.LtE] [b] pos) (bV (e2 fLe fa fb)) := qt_cmp op_le r2_cmp (nomark _) ha hb
theorem tGt' (ha : QE X W a fa) (hb : QE X W b fb) : QT X W (.Compare a [.Gt] [b] pos) (bV (e2 fGt fa fb)) := qt_cmp op_gt r2_cmp (nomark _) ha hb
theorem tGe' (ha : QE X W a fa) (hb : QE X W b fb) : QT X W (.Compare a [.GtE] [b] pos) (bV (e2 fGe fa fb)) := qt_cmp op_ge r2_cmp (nomark _) ha hb
/-- a < b < c, by two operators -/
def e3 (f g : D → D → Mem → Res D) (a b c : EF) : EF := fun S M => (a S M).bind fun x M1 => (b S M1).bind fun y M2 => (f x y M2).bind fun z M3 => match z with
  | .bl true => (c S M3).bind fun u M4 => g y u M4
  | .bl false => .ok (.bl false) M3
  | _ => .bad
end
end QL
end
section
set_option Elab.async false
set_option linter.all false
set_option maxRecDepth 100000
set_option maxHeartbeats 4000000
set_option autoImplicit false
/-! QLoop: what is walked, for, comprehensions. -/
namespace QL
open PySem PySem.Spec L2
open Classical

/-- the iterator J walks ds, as long as gd holds of the store -/
def Wk (c : Cn) (G : Gd) (J : It) (ds : List D) (gd : Mem → Prop) : Prop := ∀ G' H M, Gr0 G G' → Rep c G' H M → gd M →
  (∀ i, i < ds.length → J.go i H ∧ ∀ x H', J.yld i H x H' → ∃ G2 d, ds[i]? = some d ∧ Gr G' G2 ∧ Rep c G2 H' M ∧ DV c G2 d x) ∧ (∀ i, ds.length ≤ i → J.stop i H)
theorem Wk.mono {c : Cn} {G G1 : Gd} {J : It} {ds : List D} {gd : Mem → Prop} (h : Wk c G J ds gd) (g : Gr0 G G1) : Wk c G1 J ds gd := fun G' H M g' r k => h G' H M (g.trans g') r k
/-- what is walked: the items; the place of the store that they stand at, if they may change -/
structure Its where
  ds : List D
  at_ : Option Nat
def Its.gd (I : Its) (M : Mem) : Prop := match I.at_ with
  | none => True
  | some k => M[k]? = some (.lst I.ds)
abbrev IF := Sl → Mem → Res Its
def PostI (c : Cn) (W : WX) (σ : St) (G : Gd) (r : Res Its) (R : It → Hp → Prop) : Prop := match r with
  | .ok I M => ∀ G' J H, Gr G G' → Rep c G' H M → Wk c G' J I.ds I.gd → R J H
  | .rz x M => ∀ G' cls dd H, Gr G G' → Rep c G' H M → ExV c G' x cls dd → W cls dd σ H
  | .bad => False
def UpI (c : Cn) (W : WX) (f : IF) : TI := fun σ H R => ∃ G S M, Rep c G H M ∧ SlR c G S σ ∧ PostI c W σ G (f S M) R
def QI (X : Cx) (W : WX) (tg iter : Expr) (f : IF) : Prop := PI X tg iter (UpI (cn X) W f)
theorem PI.imp {X : Cx} {tg e : Expr} {t t' : TI} (h : PI X tg e t) (k : ∀ σ H Q, t' σ H Q → t σ H Q) : PI X tg e t' := ⟨fun pins s σ H Q I z => h.run pins s σ H Q I (k σ H Q z)⟩
theorem PostI.bind {α β : Type} {c : Cn} {W : WX} {σ : St} {G : Gd} {rel : Gd → α → β → Prop} {r : Res α} {k : α → Mem → Res Its} {R : It → Hp → Prop} (h : PostI c W σ G (r.bind k) R) :
    Post c W σ G rel r (fun v H => ∃ G' d M, Gr G G' ∧ Rep c G' H M ∧ rel G' d v ∧ PostI c W σ G' (k d M) R) := by
  cases r with
  | ok d M =>
    refine fun G2 v H g2 r q => ⟨G2, d, M, g2, r, q, ?_⟩
    have h' : PostI c W σ G (k d M) R := h
    revert h'
    cases k d M with
    | ok d M => exact fun h G3 J H g3 r w => h G3 J H (g2.trans g3) r w
    | rz x M => exact fun h G3 cls dd H g3 r w => h G3 cls dd H (g2.trans g3) r w
    | bad => exact fun h => h
  | rz x M => exact h
  | bad => exact h
theorem UpI.bind {α β : Type} {c : Cn} {W : WX} {σ : St} {H : Hp} {rel : Gd → α → β → Prop} {e : Sl → Mem → Res α} {k : Sl → α → Mem → Res Its} {R : It → Hp → Prop} (h : UpI c W (fun S M => (e S M).bind (k S)) σ H R) :
    Up c W rel e σ H (fun v H' => ∃ G S d M, Rep c G H' M ∧ SlR c G S σ ∧ rel G d v ∧ PostI c W σ G (k S d M) R) := by
  obtain ⟨G, S, M, r, s, p⟩ := h
  exact ⟨G, S, M, r, s, (PostI.bind p).imp fun v H' ⟨G', d, M', g, r', q, p'⟩ => ⟨G', S, d, M', r', s.mono g, q, p'⟩⟩

/-! ### what can be walked -/
/-- a list, a tuple -/
def iSeq (e : EF) : IF := fun S M => (e S M).bind fun d M1 => match d with
  | .lst ds => .ok ⟨ds, none⟩ M1
  | .ptr k => match M1[k]? with
    | some (.lst ds) => .ok ⟨ds, some k⟩ M1
    | _ => .bad
  | _ => .bad
def iTupF (e : EF) : IF := fun S M => (e S M).bind fun d M1 => match d with
  | .tup ds => .ok ⟨ds, none⟩ M1
  | _ => .bad
/-- range(n), range(a, b) -/
def rangeD (a : Int) (n : Nat) : List D := (List.range n).map fun i => .int (a + (i : Nat))
def iRange1 (a : AF) : IF := fun S M => (a S M).bind fun ds M1 => match ds with
  | [.int j] => if -(2 ^ 62) ≤ j ∧ j < 2 ^ 62 then .ok ⟨rangeD 0 j.toNat, none⟩ M1 else .bad
  | _ => .bad
def iRange2 (a : AF) : IF := fun S M => (a S M).bind fun ds M1 => match ds with
  | [.int i, .int j] => if -(2 ^ 62) ≤ i ∧ i < 2 ^ 62 ∧ -(2 ^ 62) ≤ j ∧ j < 2 ^ 62 then .ok ⟨rangeD i (j - i).toNat, none⟩ M1 else .bad
  | _ => .bad
/-- a text, sign by sign -/
def signsD (x : Str) : List D := x.cps.toList.map fun c => .str ⟨#[c]⟩
def iStrF (e : EF) : IF := fun S M => (e S M).bind fun d M1 => match d with
  | .str x => .ok ⟨signsD x, none⟩ M1
  | _ => .bad
/-- enumerate(list), zip(list, list) -/
def enumD (i : Nat) : List D → List D
  | [] => []
  | d :: r => .tup [.int (i : Nat), d] :: enumD (i + 1) r
def atOf (M : Mem) (d : D) : Option Its := match d with
  | .lst ds => some ⟨ds, none⟩
  | .ptr k => match M[k]? with
    | some (.lst ds) => some ⟨ds, some k⟩
    | _ => none
  | _ => none
def iEnumF (a : AF) : IF := fun S M => (a S M).bind fun ds M1 => match ds with
  | [.lst xs] => .ok ⟨enumD 0 xs, none⟩ M1
  | _ => .bad
def zipD : List D → List D → List D
  | a :: r, b :: t => .tup [a, b] :: zipD r t
  | _, _ => []
def iZipF (a : AF) : IF := fun S M => (a S M).bind fun ds M1 => match ds with
  | [.lst xs, .lst ys] => .ok ⟨zipD xs ys, none⟩ M1
  | _ => .bad
section
variable {X : Cx} {W : WX} {tg l : Expr} {f : EF}
theorem wk_list {c : Cn} {G : Gd} {a : Addr} {ds : List D} {gd : Mem → Prop} (hs : ∀ G' H M, Gr0 G G' → Rep c G' H M → gd M → ∃ xs, SqL c.K H a xs ∧ DVs c G' ds xs) : Wk c G (Itl c.K a) ds gd := fun G' H M g r k => by
  obtain ⟨xs, s, t⟩ := hs G' H M g r k
  refine ⟨fun i hi => ?_, fun i hi => ⟨xs, s, by rw [t.length]; exact hi⟩⟩
  obtain ⟨v, ev, qv⟩ := t.get (List.getElem?_eq_getElem hi)
  refine ⟨⟨xs, v, s, ev⟩, fun x H' y => ?_⟩
  obtain ⟨rfl, y⟩ := y
  have e := y xs s
  rw [ev] at e
  cases e
  exact ⟨G', ds[i], List.getElem?_eq_getElem hi, Gr.refl _, r, qv⟩
theorem wk_tup {c : Cn} {G : Gd} {a : Addr} {ds : List D} {gd : Mem → Prop} (hs : ∀ G' H M, Gr0 G G' → Rep c G' H M → gd M → ∃ xs, SqT c.K H a xs ∧ DVs c G' ds xs) : Wk c G (Itt c.K a) ds gd := fun G' H M g r k => by
  obtain ⟨xs, s, t⟩ := hs G' H M g r k
  refine ⟨fun i hi => ?_, fun i hi => ⟨xs, s, by rw [t.length]; exact hi⟩⟩
  obtain ⟨v, ev, qv⟩ := t.get (List.getElem?_eq_getElem hi)
  refine ⟨⟨xs, v, s, ev⟩, fun x H' y => ?_⟩
  obtain ⟨rfl, y⟩ := y
  have e := y xs s
  rw [ev] at e
  cases e
  exact ⟨G', ds[i], List.getElem?_eq_getElem hi, Gr.refl _, r, qv⟩
theorem qi_list (h : QE X W l f) : QI X W tg l (iSeq f) := PI.imp (pi_list h) fun σ H R h => by
  refine Up.imp (UpI.bind h) fun v H1 ⟨G, S, d, M, r, s, q, p⟩ => ?_
  split at p
  · rename_i ds
    obtain ⟨a, vs, rfl, sq, t⟩ := q
    exact ⟨a, rfl, ⟨vs, r.fz.sqL sq⟩, p G _ H1 (Gr.refl _) r (wk_list fun G' H M g r' _ => ⟨vs, r'.fz.sqL (g.sqL sq), t.mono0 g⟩)⟩
  · rename_i k
    split at p
    · rename_i ds ek
      obtain ⟨a, e1, rfl⟩ := q
      obtain ⟨vs, hu, t⟩ := r.mem k _ a ek e1
      refine ⟨a, rfl, ⟨vs, .inl (.inl hu)⟩, ?_⟩
      refine p G _ H1 (Gr.refl _) r (wk_list fun G' H' M' g r' k' => ?_)
      obtain ⟨vs', hu', t'⟩ := r'.mem k _ a (show M'[k]? = some (.lst ds) from k') (g.at e1)
      exact ⟨vs', .inl (.inl hu'), t'⟩
    · exact p.elim
  · exact p.elim
theorem qi_tup (h : QE X W l f) : QI X W tg l (iTupF f) := PI.imp (pi_tup h) fun σ H R h => by
  refine Up.imp (UpI.bind h) fun v H1 ⟨G, S, d, M, r, s, q, p⟩ => ?_
  split at p
  · rename_i ds
    obtain ⟨a, vs, rfl, sq, t⟩ := q
    exact ⟨a, rfl, ⟨vs, .inl (.inl (r.fz.tup sq))⟩, p G _ H1 (Gr.refl _) r (wk_tup fun G' H M g r' _ => ⟨vs, .inl (.inl (r'.fz.tup (g.F _ _ sq))), t.mono0 g⟩)⟩
  · exact p.elim
theorem rangeD_at {a : Int} {n i : Nat} (h : i < n) : (rangeD a n)[i]? = some (.int (a + (i : Nat))) := by
  unfold rangeD
  rw [List.getElem?_map, List.getElem?_range h]
  rfl
theorem rangeD_len (a : Int) (n : Nat) : (rangeD a n).length = n := by
  unfold rangeD
  rw [List.length_map, List.length_range]
theorem wk_range {c : Cn} {G : Gd} {a : Int} {n : Nat} {gd : Mem → Prop} : Wk c G (Itr a n) (rangeD a n) gd := fun G' H M g r k => by
  refine ⟨fun i hi => ?_, fun i hi => by rw [rangeD_len] at hi; exact hi⟩
  rw [rangeD_len] at hi
  refine ⟨hi, fun x H' y => ?_⟩
  obtain ⟨rfl, rfl⟩ := y
  exact ⟨G', _, rangeD_at hi, Gr.refl _, r, rfl⟩
variable {a b : Expr} {ta : AF} {pp pos : Pos}
theorem qi_range1 (hg : Gl X "range") (hm : X.mg "range" = none) (ha : QA X W [a] ta) (hs : starEach [a] X.env = [(false, eval a X.env)] := by rfl) : QI X W tg (.Call (.Name "range" pp) [a] [] pos) (iRange1 ta) := PI.imp (pi_range1 hg hm ha hs) fun σ H R h => by
  refine Up.imp (UpI.bind h) fun v H1 ⟨G, S, d, M, r, s, q, p⟩ => ?_
  split at p
  · rename_i j
    split at p
    · rename_i hb
      have e := DVs.ints (ns := [j]) q
      exact ⟨j, e, hb.1, hb.2, p G _ H1 (Gr.refl _) r wk_range⟩
    · exact p.elim
  · exact p.elim
theorem qi_range2 (hg : Gl X "range") (hm : X.mg "range" = none) (ha : QA X W [a, b] ta) (hs : starEach [a, b] X.env = [(false, eval a X.env), (false, eval b X.env)] := by rfl) (hs2 : starEach [b] X.env = [(false, eval b X.env)] := by rfl) :
    QI X W tg (.Call (.Name "range" pp) [a, b] [] pos) (iRange2 ta) := PI.imp (pi_range2 hg hm ha hs hs2) fun σ H R h => by
  refine Up.imp (UpI.bind h) fun v H1 ⟨G, S, d, M, r, s, q, p⟩ => ?_
  split at p
  · rename_i i j
    split at p
    · rename_i hb
      have e := DVs.ints (ns := [i, j]) q
      exact ⟨i, j, e, hb, p G _ H1 (Gr.refl _) r wk_range⟩
    · exact p.elim
  · exact p.elim
theorem qi_str (h : QE X W l f) : QI X W tg l (iStrF f) := PI.imp (pi_str h) fun σ H R h => by
  refine Up.imp (UpI.bind h) fun v H1 ⟨G, S, d, M, r, s, q, p⟩ => ?_
  split at p
  · rename_i x
    refine ⟨x, q, p G _ H1 (Gr.refl _) r fun G' H' M' g r' _ => ?_⟩
    have hl : (signsD x).length = x.cps.size := by simp [signsD]
    refine ⟨fun i hi => ?_, fun i hi => by rw [hl] at hi; exact hi⟩
    rw [hl] at hi
    refine ⟨hi, fun y H2 z => ?_⟩
    obtain ⟨rfl, c, e, rfl⟩ := z
    refine ⟨G', .str ⟨#[c]⟩, ?_, Gr.refl _, r', rfl⟩
    unfold signsD
    rw [List.getElem?_map, Array.getElem?_toList, e]
    rfl
  · exact p.elim
theorem enumD_at : ∀ {xs : List D} {i j : Nat} {d : D}, xs[j]? = some d → (enumD i xs)[j]? = some (.tup [.int ((i + j : Nat) : Int), d])
  | [], _, _, _, h => by simp at h
  | x :: r, i, 0, d, h => by
    cases Option.some.inj h
    rfl
  | x :: r, i, j + 1, d, h => by
    have ih := enumD_at (xs := r) (i := i + 1) (j := j) (d := d) h
    show (enumD (i + 1) r)[j]? = _
    rw [ih, show i + 1 + j = i + (j + 1) by omega]
theorem enumD_len : ∀ (xs : List D) (i : Nat), (enumD i xs).length = xs.length
  | [], _ => rfl
  | x :: r, i => by
    show (enumD (i + 1) r).length + 1 = r.length + 1
    rw [enumD_len r]
theorem zipD_at : ∀ {xs ys : List D} {j : Nat} {d e : D}, xs[j]? = some d → ys[j]? = some e → (zipD xs ys)[j]? = some (.tup [d, e])
  | [], _, _, _, _, h, _ => by simp at h
  | _ :: _, [], _, _, _, _, h => by simp at h
  | x :: r, y :: t, 0, d, e, h, h2 => by
    cases Option.some.inj h
    cases Option.some.inj h2
    rfl
  | x :: r, y :: t, j + 1, d, e, h, h2 => zipD_at (xs := r) (ys := t) (j := j) h h2
theorem zipD_len : ∀ (xs ys : List D), (zipD xs ys).length = min xs.length ys.length
  | [], ys => by simp [zipD]
  | x :: r, [] => by simp [zipD]
  | x :: r, y :: t => by
    show (zipD r t).length + 1 = _
    rw [zipD_len r t]
    simp
/-- a pair that is made on the way -/
theorem pair_new {c : Cn} {G : Gd} {H : Hp} {M : Mem} {T : Addr} {x y : V} {d e : D} (r : Rep c G H M) (hT : H T = none) (q1 : DV c G d x) (q2 : DV c G e y) : ∃ G2, Gr G G2 ∧ Rep c G2 (upd H T (.tup [x, y])) M ∧ DV c G2 (.tup [d, e]) (.ref T) := by
  have g := Gr.newF (G := G) (o := .tup [x, y]) (r.fz.free hT)
  exact ⟨_, g, r.newF hT, T, [x, y], rfl, upd_same, DVs.cons (q1.mono g) (DVs.one (q2.mono g))⟩
theorem qi_enum {elts : List Expr} {kk : Nat} {tpos : Pos} (hg : Gl X "enumerate") (hm : X.mg "enumerate" = none) (ha : QA X W [a] ta) (hs : starEach [a] X.env = [(false, eval a X.env)] := by rfl) :
    QI X W (.Tuple elts kk tpos) (.Call (.Name "enumerate" pp) [a] [] pos) (iEnumF ta) := PI.imp (pi_enum hg hm ha hs) fun σ H R h => by
  refine Up.imp (UpI.bind h) fun v H1 ⟨G, S, d, M, r, s, q, p⟩ => ?_
  split at p
  · rename_i xs
    obtain ⟨v1, t1, rfl, q1, rfl⟩ := q
    obtain ⟨b, vs, rfl, sq, t⟩ := q1
    refine ⟨b, vs, rfl, r.fz.sqL sq, p G _ H1 (Gr.refl _) r fun G' H' M' g r' _ => ?_⟩
    have sq' : SqL (cn X).K H' b vs := r'.fz.sqL (g.sqL sq)
    have t' := t.mono0 g
    refine ⟨fun i hi => ?_, fun i hi => ⟨vs, sq', by rw [t'.length]; rw [enumD_len] at hi; exact hi⟩⟩
    rw [enumD_len] at hi
    obtain ⟨w, ew, qw⟩ := t'.get (List.getElem?_eq_getElem hi)
    refine ⟨⟨vs, w, sq', ew⟩, fun y H2 z => ?_⟩
    obtain ⟨T, x1, rfl, nT, rfl, f1⟩ := z
    have e1 := f1 vs sq'
    rw [ew] at e1
    cases e1
    obtain ⟨G2, g2, r2, q2⟩ := pair_new (d := .int (i : Nat)) (x := .int (i : Nat)) r' nT rfl qw
    refine ⟨G2, _, ?_, g2, r2, q2⟩
    rw [enumD_at (List.getElem?_eq_getElem hi), Nat.zero_add]
  · exact p.elim
theorem qi_zip {elts : List Expr} {kk : Nat} {tpos : Pos} (hg : Gl X "zip") (hm : X.mg "zip" = none) (ha : QA X W [a, b] ta) (hs : starEach (a :: [b]) X.env = (false, eval a X.env) :: starEach [b] X.env := by rfl) (hpl : (backTo pos (starEach [b] X.env)).any (·.1) = false := by rfl) :
    QI X W (.Tuple elts kk tpos) (.Call (.Name "zip" pp) [a, b] [] pos) (iZipF ta) := PI.imp (pi_zip hg hm ha hs hpl) fun σ H R h => by
  refine Up.imp (UpI.bind h) fun v H1 ⟨G, S, d, M, r, s, q, p⟩ => ?_
  split at p
  · rename_i xs ys
    obtain ⟨v1, t1, rfl, q1, v2, t2, rfl, q2, rfl⟩ := q
    obtain ⟨b1, vs, rfl, sq, t⟩ := q1
    obtain ⟨b2, ws, rfl, sq2, u⟩ := q2
    refine ⟨b1, b2, vs, ws, rfl, r.fz.sqL sq, r.fz.sqL sq2, p G _ H1 (Gr.refl _) r fun G' H' M' g r' _ => ?_⟩
    have s1 : SqL (cn X).K H' b1 vs := r'.fz.sqL (g.sqL sq)
    have s2 : SqL (cn X).K H' b2 ws := r'.fz.sqL (g.sqL sq2)
    have t' := t.mono0 g
    have u' := u.mono0 g
    refine ⟨fun i hi => ?_, fun i hi => ⟨vs, ws, s1, s2, ?_⟩⟩
    · rw [zipD_len] at hi
      have h1 : i < xs.length := by omega
      have h2 : i < ys.length := by omega
      obtain ⟨w1, ew1, qw1⟩ := t'.get (List.getElem?_eq_getElem h1)
      obtain ⟨w2, ew2, qw2⟩ := u'.get (List.getElem?_eq_getElem h2)
      refine ⟨⟨vs, ws, w1, w2, s1, s2, ew1, ew2⟩, fun y H2 z => ?_⟩
      obtain ⟨T, x1, x2, rfl, nT, rfl, f1, f2⟩ := z
      have e1 := f1 vs s1
      have e2 := f2 ws s2
      rw [ew1] at e1
      rw [ew2] at e2
      cases e1
      cases e2
      obtain ⟨G2, g2, r2, q2⟩ := pair_new r' nT qw1 qw2
      exact ⟨G2, _, zipD_at (List.getElem?_eq_getElem h1) (List.getElem?_eq_getElem h2), g2, r2, q2⟩
    · rw [zipD_len] at hi
      rw [t'.length, u'.length]
      omega
  · exact p.elim
end

/-! ### for -/
noncomputable def forL (gd : Mem → Prop) (g : GF) (t : TF) (vs : List Nat) : List D → Sl → Mem → SR
  | [], S, M => if gd M then .nx S M else .bad
  | d :: r, S, M => if gd M then (g d S M).thn S fun S1 M1 => match t S1 M1 with
      | .nx S2 M2 => forL gd g t vs r (kl vs S2) M2
      | .ct S2 M2 => forL gd g t vs r (kl vs S2) M2
      | .bk S2 M2 => .nx S2 M2
      | r => r
    else .bad
noncomputable def kFor (f : IF) (g : GF) (t : TF) (vs : List Nat) : TF := fun S M => (f S M).thn S fun I M1 => forL I.gd g t vs I.ds S M1
section
variable {X : Cx} {W : WX} {pos : Pos} {tg iter : Expr} {body : List Stmt} {f : IF} {g : GF} {t : TF} {vs : List Nat}
theorem qfor (hp : PassesOwn (model X.prog X.w) X.A X.env X.xe) (hc : X.calm = true) (hi : QI X W tg iter f) (hg : QG X W tg g) (hb : QSs X W body t) (hs : ∀ x, foldedSetIterable iter X.env x = pure x := by intro _; rfl) :
    QS X W (.For tg iter body [] pos) (kFor f g t vs) := PS.imp (ps_for hp hc hi hg hb hs) fun D σ H h => by
  obtain ⟨G, S, M, r, s, p⟩ := h
  refine ⟨G, S, M, r, s, ?_⟩
  unfold kFor at p
  cases ef : f S M with
  | bad => rw [ef] at p; exact p
  | rz x M1 => rw [ef] at p; exact fun G2 cls dd H2 g2 r2 q2 => p G2 cls dd σ H2 g2 r2 (s.mono g2) q2
  | ok I M1 =>
    rw [ef] at p
    intro G1 J H1 g1 r1 w1
    have p1 : PostS (cn X) W G1 D (forL I.gd g t vs I.ds S M1) := PostS.mono g1 p
    refine ⟨fun i m σ H => m = I.ds.length - i ∧ i ≤ I.ds.length ∧ ∃ G S M, Gr G1 G ∧ Rep (cn X) G H M ∧ SlR (cn X) G S σ ∧ PostS (cn X) W G D (forL I.gd g t vs (I.ds.drop i) S M),
      ⟨I.ds.length, by simp, Nat.zero_le _, G1, S, M1, Gr.refl _, r1, s.mono g1, p1⟩, ?_⟩
    rintro i m σ H ⟨rfl, hi, G2, S2, M2, g2, r2, s2, p2⟩
    by_cases hlt : i < I.ds.length
    · have ed : I.ds.drop i = I.ds[i] :: I.ds.drop (i + 1) := List.drop_eq_getElem_cons hlt
      rw [ed] at p2
      unfold forL at p2
      by_cases hk : I.gd M2
      · rw [if_pos hk] at p2
        obtain ⟨go, yl⟩ := (w1 G2 H M2 g2.toGr0 r2 hk).1 i hlt
        refine .inr ⟨go, fun σ H => ∃ G S M, Gr G1 G ∧ Rep (cn X) G H M ∧ SlR (cn X) G S σ ∧ PostS (cn X) W G D (forL I.gd g t vs (I.ds.drop (i + 1)) S M), fun σ' H' z => ⟨_, by omega, rfl, hlt, z⟩, fun x H' y => ?_⟩
        obtain ⟨G3, d, ed3, g3, r3, q3⟩ := yl x H' y
        rw [List.getElem?_eq_getElem hlt] at ed3
        cases ed3
        refine ⟨G3, S2, M2, _, r3, s2.mono g3, q3, (PostS.thnE (s2.mono g3) (PostS.mono g3 p2)).imp fun σ4 H4 ⟨G4, S4, M4, g4, r4, s4, p4⟩ => ?_⟩
        refine ⟨G4, S4, M4, r4, s4, ?_⟩
        have gg := (g2.trans g3).trans g4
        cases et : t S4 M4 with
        | nx S5 M5 => rw [et] at p4; exact fun G5 σ5 H5 g5 r5 s5 => ⟨G5, _, M5, gg.trans g5, r5, s5.kl, PostS.mono g5 p4⟩
        | ct S5 M5 => rw [et] at p4; exact fun G5 σ5 H5 g5 r5 s5 => ⟨G5, _, M5, gg.trans g5, r5, s5.kl, PostS.mono g5 p4⟩
        | bk S5 M5 => rw [et] at p4; exact p4
        | rt _ _ => rw [et] at p4; exact p4
        | rz _ _ _ => rw [et] at p4; exact p4
        | bad => rw [et] at p4; exact p4
      · rw [if_neg hk] at p2
        exact p2.elim
    · have ei : i = I.ds.length := by omega
      subst ei
      rw [List.drop_length] at p2
      unfold forL at p2
      by_cases hk : I.gd M2
      · rw [if_pos hk] at p2
        exact .inl ⟨(w1 G2 H M2 g2.toGr0 r2 hk).2 _ (Nat.le_refl _), p2 G2 σ H (Gr.refl _) r2 s2⟩
      · rw [if_neg hk] at p2
        exact p2.elim
end

/-! ### list comprehensions -/
/-- the items that the turns give -/
noncomputable def lcL (gd : Mem → Prop) (g : GF) (b : BF) (e : EF) (S0 : Sl) : List D → List D → Mem → Res (List D)
  | [], acc, M => if gd M then .ok acc M else .bad
  | d :: r, acc, M => if gd M then match g d S0 M with
      | .ok S1 M1 => match b S1 M1 with
        | .ok true M2 => match e S1 M2 with
          | .ok y M3 => if acc.length < sizeLine then lcL gd g b e S0 r (acc ++ [y]) M3 else .bad
          | _ => .bad
        | .ok false M2 => lcL gd g b e S0 r acc M2
        | _ => .bad
      | _ => .bad
    else .bad
/-- a new list that will not change; vs: the slots of the comprehension's own names -/
noncomputable def eLc (f : IF) (g : GF) (b : BF) (e : EF) (vs : List Nat) : EF := fun S M => (f S M).bind fun I M1 => (lcL I.gd g b e (kl vs S) I.ds [] M1).bind fun ys M2 => .ok (.lst ys) M2
/-- .. that may change -/
noncomputable def eLcP (f : IF) (g : GF) (b : BF) (e : EF) (vs : List Nat) : EF := fun S M => (f S M).bind fun I M1 => (lcL I.gd g b e (kl vs S) I.ds [] M1).bind fun ys M2 => .ok (.ptr M2.length) (M2 ++ [.lst ys])
def W0 : WX := fun _ _ _ _ => False
def bYes : BF := fun _ M => .ok true M
end QL
end
section
set_option Elab.async false
set_option linter.all false
set_option maxRecDepth 100000
set_option maxHeartbeats 4000000
set_option autoImplicit false
/-! QComp: list comprehensions. -/
namespace QL
open PySem PySem.Spec L2
open Classical

theorem set_wipe (σ : St) (i : Nat) (x y : Option V) : ∀ vs : List Nat, (wipe (σ.set i x) vs).set i y = (wipe σ vs).set i y
  | [] => by show (σ.set i x).set i y = σ.set i y; rw [List.set_set]
  | v :: vs => by
    show ((wipe (σ.set i x) vs).set v none).set i y = ((wipe σ vs).set v none).set i y
    by_cases h : v = i
    · subst h
      rw [List.set_set, List.set_set]
      exact set_wipe σ v x y vs
    · rw [List.set_comm _ _ h, List.set_comm _ _ h, set_wipe σ i x y vs]
theorem wipe_set {σ : St} {i : Nat} {x : Option V} : ∀ {vs : List Nat}, i ∈ vs → wipe (σ.set i x) vs = wipe σ vs
  | v :: vs, h => by
    show (wipe (σ.set i x) vs).set v none = (wipe σ vs).set v none
    by_cases e : i = v
    · subst e
      exact set_wipe σ i x none vs
    · rcases List.mem_cons.mp h with z | z
      · exact absurd z e
      · rw [wipe_set z]
def UpGv (c : Cn) (W : WX) (vs : List Nat) (g : GF) : TG := fun v σ H Q => ∃ G S M d, Rep c G H M ∧ SlR c G S σ ∧ DV c G d v ∧ Post c W σ G (fun G' S' σ' => SlR c G' S' σ' ∧ wipe σ' vs = wipe σ vs) (g d S M) Q
def UpGsv (c : Cn) (W : WX) (vs : List Nat) (g : GsF) : TGs := fun v σ H Q => ∃ G S M d, Rep c G H M ∧ SlR c G S σ ∧ DVs c G d v ∧ Post c W σ G (fun G' S' σ' => SlR c G' S' σ' ∧ wipe σ' vs = wipe σ vs) (g d S M) Q
def QGv (X : Cx) (vs : List Nat) (tg : Expr) (g : GF) : Prop := PG X tg (UpGv (cn X) W0 vs g)
def QGsv (X : Cx) (vs : List Nat) (tg : List Expr) (g : GsF) : Prop := PGs X tg (UpGsv (cn X) W0 vs g)
section
variable {X : Cx} {vs : List Nat} {pos : Pos} {e : Expr} {es : List Expr} {g : GF} {gs : GsF}
theorem qv_name {i : Nat} {x : Str} (hN : X.N.Nodup) (hi : X.N[i]? = some x) (hv : i ∈ vs) (hx : Loc X.env.scope x := by first | exact .inl rfl | exact .inr rfl) (hf : X.fn x = true ∨ X.env.scope.names.lookup x = some .local := by first | exact .inl rfl | exact .inr rfl) : QGv X vs (.Name x pos) (gN i) := PG.imp (pg_name hN hi hx hf) fun v σ H Q h => by
  obtain ⟨G, S, M, d, r, s, q, p⟩ := h
  exact p G _ H (Gr.refl G) r ⟨s.set q, wipe_set hv⟩
theorem qvs_nil : QGsv X vs [] gNilF := PGs.imp pgs_nil fun v σ H Q h => by
  obtain ⟨G, S, M, ds, r, s, q, p⟩ := h
  cases ds with
  | nil => exact ⟨q, p G σ H (Gr.refl G) r ⟨s, rfl⟩⟩
  | cons d t => exact (show False from p).elim
theorem qvs_cons (h1 : QGv X vs e g) (h2 : QGsv X vs es gs) (hs : (assignEach (e :: es) X.env).map (·.2) = assign e X.env :: (assignEach es X.env).map (·.2) := by rfl) : QGsv X vs (e :: es) (gConsF g gs) := PGs.imp (pgs_cons h1 h2 hs) fun us σ H Q h => by
  obtain ⟨G, S, M, ds, r, s, q, p⟩ := h
  cases ds with
  | nil => exact (show False from p).elim
  | cons d t =>
    obtain ⟨v, vt, rfl, qd, qt⟩ := q
    refine ⟨v, vt, rfl, G, S, M, d, r, s, qd, (Post.bind (rel := fun G' S' σ' => SlR (cn X) G' S' σ' ∧ wipe σ' vs = wipe σ vs) p).imp fun σ1 H1 ⟨G1, S1, M1, g1, r1, ⟨s1, w1⟩, p1⟩ => ?_⟩
    refine ⟨G1, S1, M1, t, r1, s1, qt.mono g1, ?_⟩
    cases e : gs t S1 M1 with
    | ok S2 M2 => rw [e] at p1; exact fun G2 σ2 H2 g2 r2 ⟨s2, w2⟩ => p1 G2 σ2 H2 g2 r2 ⟨s2, w2.trans w1⟩
    | rz x M2 => rw [e] at p1; exact fun G2 cls dd H2 g2 r2 q2 => p1 G2 cls dd H2 g2 r2 q2
    | bad => rw [e] at p1; exact p1
theorem qv_tup {k : Nat} {n : Nat} (hc : X.calm = true) (h : QGsv X vs es gs) (hn : (assignEach es X.env).length = n := by rfl) (hst : (assignEach es X.env).findIdx? (·.1) = none := by rfl) : QGv X vs (.Tuple es k pos) (gTupF n gs) := PG.imp (pg_tup hc h hn hst) fun v σ H Q h => by
  obtain ⟨G, S, M, d, r, s, q, p⟩ := h
  unfold gTupF at p
  split at p
  · rename_i ds
    split at p
    · rename_i hl
      obtain ⟨a, us, rfl, hs, qs⟩ := q
      exact ⟨a, us, rfl, .inl (.inl (r.fz.tup hs)), by rw [qs.length]; exact hl, G, S, M, ds, r, s, qs, p⟩
    · exact p.elim
  · exact p.elim
def QTs (X : Cx) (ifs : List Expr) (f : BF) : Prop := PTs X ifs (Up (cn X) W0 (fun _ (a b : Bool) => a = b) f)
theorem PTs.imp {ifs : List Expr} {t t' : TT} (h : PTs X ifs t) (k : ∀ σ H Q, t' σ H Q → t σ H Q) : PTs X ifs t' := ⟨fun pins s σ H Q I z => h.run pins s σ H Q I (k σ H Q z)⟩
theorem qts_nil : QTs X [] bYes := PTs.imp pts_nil fun σ H Q h => by
  obtain ⟨G, S, M, r, s, p⟩ := h
  exact p G true H (Gr.refl G) r rfl
theorem qts_one {c : Expr} {f : BF} (h : QT X W0 c f) : QTs X [c] f := pts_one h
theorem takesB {s : Shared} {H : Hp} {scope : Scope} {ce : Env} {fp : List Addr} : Takes (X.blk s H scope ce fp) W0 := takes0
end
theorem SlR.klw {c : Cn} {G : Gd} {S : Sl} {σ : St} : ∀ {vs : List Nat} {S : Sl}, SlR c G S σ → SlR c G (QL.kl vs S) (wipe σ vs) := fun {vs S} h => by
  have h1 := SlR.kl (vs := vs) h
  have off : ∀ (vs : List Nat) (S : Sl) (i : Nat) d, (QL.kl vs S)[i]? = some (some d) → i ∉ vs := by
    intro vs
    induction vs with
    | nil => intro S i d _; simp
    | cons v vs ih =>
      intro S i d e
      have h2 := ih (S.set v none) i d e
      have h3 : ∀ (vs : List Nat) (S : Sl), (∀ d, S[i]? ≠ some (some d)) → ∀ d, (QL.kl vs S)[i]? ≠ some (some d) := by
        intro vs
        induction vs with
        | nil => exact fun S h => h
        | cons v' vs ih2 =>
          intro S h
          refine ih2 (S.set v' none) fun d e => ?_
          by_cases z : v' = i
          · subst z
            have hl : v' < S.length := by
              have := (List.getElem?_eq_some_iff.mp e).1
              rwa [List.length_set] at this
            rw [List.getElem?_set_self hl] at e
            cases Option.some.inj e
          · rw [List.getElem?_set_ne z] at e
            exact h d e
      intro hm
      rcases List.mem_cons.mp hm with z | z
      · subst z
        refine h3 vs (S.set i none) (fun d e => ?_) d e
        by_cases hl : i < S.length
        · rw [List.getElem?_set_self hl] at e
          cases Option.some.inj e
        · rw [List.getElem?_eq_none (by rw [List.length_set]; omega)] at e
          cases e
      · exact h2 z
  refine ⟨by rw [wipe_length]; exact h1.1, fun i d e => ?_⟩
  obtain ⟨v, e1, q⟩ := h1.2 i d e
  exact ⟨v, by rw [wipe_out (off vs S i d e)]; exact e1, q⟩

section
variable {X : Cx} {W : WX} {tg iter elt : Expr} {ifs : List Expr} {scope : Scope} {own : List (Str × Nat)} {pos : Pos} {f : IF} {g : GF} {b : BF} {e : EF}
/-- the turns of a comprehension -/
theorem lc_turns {c : Cn} {σ : St} {vs : List Nat} {G1 : Gd} {S : Sl} {H1 : Hp} {M1 : Mem} {I : Its} {J : It} {D : Addr} {Qd : Hp → Prop} (r1 : Rep c G1 H1 M1) (s1 : SlR c G1 S σ) (w1 : Wk c G1 J I.ds I.gd) (hD : H1 D = none)
    (ne : lcL I.gd g b e (kl vs S) I.ds [] M1 ≠ .bad) (hq : ∀ ys M2, lcL I.gd g b e (kl vs S) I.ds [] M1 = .ok ys M2 → ∀ G2 H2 us, Gr0 G1 G2 → G2.P = (D, .lst us) :: G1.P → Rep c G2 H2 M2 → DVs c G2 ys us → Qd H2) :
    ∃ Wd : Nat → Nat → Hp → Prop, (∃ m, Wd 0 m (upd H1 D (.lst []))) ∧ ∀ i m H, Wd i m H →
      (J.stop i H ∧ Qd H) ∨ (J.go i H ∧ ∃ Nx : Hp → Prop, (∀ H', Nx H' → ∃ m', m' < m ∧ Wd (i + 1) m' H') ∧ ∀ x H', J.yld i H x H' → UpGv c W0 vs g x (wipe σ vs) H' fun σ2 H2 => wipe σ2 vs = wipe σ vs ∧ Up c W0 (fun _ (a b : Bool) => a = b) b σ2 H2 fun b' H3 =>
        if b' = true then Up c W0 (DV c) e σ2 H3 fun y H4 => ∃ acc, H4 D = some (.lst acc) ∧ acc.length < sizeLine ∧ Nx (upd H4 D (.lst (acc ++ [y]))) else Nx H3) := by
  have nP : ∀ q ∈ G1.P, q.1 ≠ D := fun q hq z => by
    obtain ⟨h1, _⟩ := r1.pin q hq
    rw [z, hD] at h1
    cases h1
  obtain ⟨R0, eR0⟩ : ∃ R0, lcL I.gd g b e (kl vs S) I.ds [] M1 = R0 := ⟨_, rfl⟩
  rw [eR0] at ne hq
  refine ⟨fun i m H => m = I.ds.length - i ∧ i ≤ I.ds.length ∧ ∃ G acc us M, Gr0 G1 G ∧ G.P = (D, .lst us) :: G1.P ∧ Rep c G H M ∧ DVs c G acc us ∧ lcL I.gd g b e (kl vs S) (I.ds.drop i) acc M = R0,
    ⟨I.ds.length, by simp, Nat.zero_le _, { G1 with P := (D, .lst []) :: G1.P }, [], [], M1, ⟨fun _ _ h => h, [], (List.append_nil _).symm⟩, rfl, r1.pinNew hD, rfl, eR0⟩, ?_⟩
  rintro i m H ⟨rfl, hi, G, acc, us, M, g0, eP, r, q, el⟩
  by_cases hlt : i < I.ds.length
  · have ed : I.ds.drop i = I.ds[i] :: I.ds.drop (i + 1) := List.drop_eq_getElem_cons hlt
    rw [ed] at el
    unfold lcL at el
    by_cases hk : I.gd M
    · rw [if_pos hk] at el
      obtain ⟨go, yl⟩ := (w1 G H M g0 r hk).1 i hlt
      refine .inr ⟨go, fun H => ∃ G acc us M, Gr0 G1 G ∧ G.P = (D, .lst us) :: G1.P ∧ Rep c G H M ∧ DVs c G acc us ∧ lcL I.gd g b e (kl vs S) (I.ds.drop (i + 1)) acc M = R0,
        fun H' z => ⟨_, by omega, rfl, hlt, z⟩, fun x H' y => ?_⟩
      obtain ⟨G3, d, ed3, g3, r3, q3⟩ := yl x H' y
      rw [List.getElem?_eq_getElem hlt] at ed3
      cases ed3
      refine ⟨G3, kl vs S, M, _, r3, SlR.klw (S := S) (⟨s1.1, fun i d e => let ⟨v, z, w⟩ := s1.2 i d e; ⟨v, z, w.mono0 (g0.trans g3.toGr0)⟩⟩), q3, ?_⟩
      cases eg : g I.ds[i] (kl vs S) M with
      | rz x M2 => rw [eg] at el; exact absurd el.symm ne
      | bad => rw [eg] at el; exact absurd el.symm ne
      | ok S4 M4 =>
        rw [eg] at el
        intro G4 σ4 H4 g4 r4 ⟨s4, w4⟩
        have ww : wipe σ4 vs = wipe σ vs := by
          rw [w4]
          have id1 : ∀ (vs : List Nat) (σ : St), wipe (wipe σ vs) vs = wipe σ vs := by
            intro vs σ
            have st : ∀ (i : Nat) (τ : St), (wipe τ vs)[i]? = if i ∈ vs then (τ[i]?).map (fun _ => (none : Option V)) else τ[i]? := by
              induction vs with
              | nil => intro i τ; simp [wipe]
              | cons v vs ih =>
                intro i τ
                show ((wipe τ vs).set v none)[i]? = _
                by_cases hv : v = i
                · subst hv
                  rw [if_pos (List.mem_cons_self)]
                  rw [List.getElem?_set]
                  rw [if_pos rfl, wipe_length]
                  by_cases hl : v < τ.length
                  · rw [if_pos hl, List.getElem?_eq_getElem hl]; rfl
                  · rw [if_neg hl, List.getElem?_eq_none (by omega)]; rfl
                · rw [List.getElem?_set_ne hv, ih i τ]
                  by_cases hm : i ∈ vs
                  · rw [if_pos hm, if_pos (List.mem_cons_of_mem _ hm)]
                  · rw [if_neg hm, if_neg (by intro z; rcases List.mem_cons.mp z with z | z; exact hv z.symm; exact hm z)]
            apply List.ext_getElem?
            intro i
            rw [st i (wipe σ vs), st i σ]
            by_cases hm : i ∈ vs
            · rw [if_pos hm, if_pos hm]
              cases σ[i]? <;> rfl
            · rw [if_neg hm, if_neg hm]
          exact id1 vs σ
        refine ⟨ww, G4, S4, M4, r4, s4, ?_⟩
        have gg := (g0.trans g3.toGr0).trans g4.toGr0
        have eP4 : G4.P = (D, .lst us) :: G1.P := by rw [g4.P, g3.P, eP]
        have q4 := q.mono0 (g3.toGr0.trans g4.toGr0)
        cases eb : b S4 M4 with
        | rz x M5 => simp only [eb] at el; exact absurd el.symm ne
        | bad => simp only [eb] at el; exact absurd el.symm ne
        | ok k M5 =>
          simp only [eb] at el
          intro G5 k' H5 g5 r5 hk'
          subst hk'
          have eP5 : G5.P = (D, .lst us) :: G1.P := by rw [g5.P, eP4]
          cases k with
          | false =>
            rw [if_neg Bool.false_ne_true]
            exact ⟨G5, acc, us, M5, gg.trans g5.toGr0, eP5, r5, q4.mono g5, el⟩
          | true =>
            rw [if_pos rfl]
            refine ⟨G5, S4, M5, r5, s4.mono g5, ?_⟩
            cases ee : e S4 M5 with
            | rz x M6 => simp only [ee] at el; exact absurd el.symm ne
            | bad => simp only [ee] at el; exact absurd el.symm ne
            | ok y M6 =>
              simp only [ee] at el
              by_cases hz : acc.length < sizeLine
              · rw [if_pos hz] at el
                intro G6 v H6 g6 r6 q6
                have eP6 : G6.P = (D, .lst us) :: G1.P := by rw [g6.P, eP5]
                have hpin := r6.pin (D, .lst us) (by rw [eP6]; exact List.mem_cons_self)
                have q5 := (q4.mono g5).mono g6
                refine ⟨us, hpin.1, by rw [q5.length]; exact hz, ?_⟩
                have e6 : G6 = { G6 with P := (D, .lst us) :: G1.P } := by
                  obtain ⟨F6, θ6, P6⟩ := G6
                  have eP6' : P6 = (D, .lst us) :: G1.P := eP6
                  rw [eP6']
                rw [e6] at r6
                have r7 := r6.pinSet (o' := .lst (us ++ [v])) nP
                refine ⟨{ G6 with P := (D, .lst (us ++ [v])) :: G1.P }, acc ++ [y], us ++ [v], M6, ⟨(gg.trans (g5.toGr0.trans g6.toGr0)).F, (gg.trans (g5.toGr0.trans g6.toGr0)).θ⟩, rfl, r7, ?_, el⟩
                have g7 : Gr0 G6 { G6 with P := (D, .lst (us ++ [v])) :: G1.P } := ⟨fun _ _ h => h, [], (List.append_nil _).symm⟩
                exact (q5.append (DVs.one q6)).mono0 g7
              · rw [if_neg hz] at el
                exact absurd el.symm ne
    · rw [if_neg hk] at el
      exact absurd el.symm ne
  · have ei : i = I.ds.length := by omega
    subst ei
    rw [List.drop_length] at el
    unfold lcL at el
    by_cases hk : I.gd M
    · rw [if_pos hk] at el
      exact .inl ⟨(w1 G H M g0 r hk).2 _ (Nat.le_refl _), hq _ _ el.symm G H us g0 eP r q⟩
    · rw [if_neg hk] at el
      exact absurd el.symm ne
theorem up_lc {c : Cn} {vs : List Nat} {σ : St} {H : Hp} {Q : VK} (h : Up c W (DV c) (eLc f g b e vs) σ H Q) : tLc (UpI c W f) (UpGv c W0 vs g) (Up c W0 (fun _ (a b : Bool) => a = b) b) (Up c W0 (DV c) e) vs σ H Q := by
  obtain ⟨G, S, M, r, s, p⟩ := h
  refine ⟨G, S, M, r, s, ?_⟩
  unfold eLc at p
  cases ef : f S M with
  | bad => rw [ef] at p; exact p
  | rz x M1 => rw [ef] at p; exact p
  | ok I M1 =>
    rw [ef] at p
    intro G1 J H1 g1 r1 w1 D hD
    have p1 : Post c W σ G1 (DV c) ((lcL I.gd g b e (kl vs S) I.ds [] M1).bind fun ys M2 => .ok (.lst ys) M2) Q := Post.mono g1 p
    have ne : lcL I.gd g b e (kl vs S) I.ds [] M1 ≠ .bad := fun z => by rw [z] at p1; exact p1
    refine lc_turns r1 (s.mono g1) w1 hD ne fun ys M2 ey G2 H2 us g2 eP r2 q2 => ?_
    rw [ey] at p1
    have nP : ∀ q ∈ G1.P, q.1 ≠ D := fun q hq z => by
      obtain ⟨h1, _⟩ := r1.pin q hq
      rw [z, hD] at h1
      cases h1
    have e2 : G2 = { G2 with P := (D, .lst us) :: G1.P } := by
      obtain ⟨F6, θ6, P6⟩ := G2
      have eP6' : P6 = (D, .lst us) :: G1.P := eP
      rw [eP6']
    rw [e2] at r2
    have hf := (r2.pin (D, .lst us) List.mem_cons_self).2.1
    have r3 := r2.pinF nP
    have g3 : Gr0 G2 { G2 with F := upd G2.F D (.lst us), P := G1.P } := ⟨fun a u e => by show upd G2.F D _ a = some u; rw [upd_ne (ne_of_none e hf)]; exact e, [], (List.append_nil _).symm⟩
    exact p1 _ _ H2 ⟨g2.trans g3, rfl⟩ r3 ⟨D, us, rfl, .inl (.inl upd_same), q2.mono0 g3⟩
theorem up_lcP {c : Cn} {vs : List Nat} {σ : St} {H : Hp} {Q : VK} (h : Up c W (DV c) (eLcP f g b e vs) σ H Q) : tLc (UpI c W f) (UpGv c W0 vs g) (Up c W0 (fun _ (a b : Bool) => a = b) b) (Up c W0 (DV c) e) vs σ H Q := by
  obtain ⟨G, S, M, r, s, p⟩ := h
  refine ⟨G, S, M, r, s, ?_⟩
  unfold eLcP at p
  cases ef : f S M with
  | bad => rw [ef] at p; exact p
  | rz x M1 => rw [ef] at p; exact p
  | ok I M1 =>
    rw [ef] at p
    intro G1 J H1 g1 r1 w1 D hD
    have p1 : Post c W σ G1 (DV c) ((lcL I.gd g b e (kl vs S) I.ds [] M1).bind fun ys M2 => .ok (.ptr M2.length) (M2 ++ [.lst ys])) Q := Post.mono g1 p
    have ne : lcL I.gd g b e (kl vs S) I.ds [] M1 ≠ .bad := fun z => by rw [z] at p1; exact p1
    refine lc_turns r1 (s.mono g1) w1 hD ne fun ys M2 ey G2 H2 us g2 eP r2 q2 => ?_
    rw [ey] at p1
    have nP : ∀ q ∈ G1.P, q.1 ≠ D := fun q hq z => by
      obtain ⟨h1, _⟩ := r1.pin q hq
      rw [z, hD] at h1
      cases h1
    have e2 : G2 = { G2 with P := (D, .lst us) :: G1.P } := by
      obtain ⟨F6, θ6, P6⟩ := G2
      have eP6' : P6 = (D, .lst us) :: G1.P := eP
      rw [eP6']
    rw [e2] at r2
    have hd := (r2.pin (D, .lst us) List.mem_cons_self).1
    have g3 : Gr0 G2 { G2 with θ := G2.θ ++ [D], P := G1.P } := ⟨fun a u e => e, [D], rfl⟩
    have r3 := r2.pinP (mo := .lst ys) nP ⟨us, hd, q2.mono0 g3⟩
    have hl : G2.θ.length = M2.length := r2.len
    refine p1 _ _ H2 ⟨g2.trans g3, rfl⟩ r3 ⟨D, ?_, rfl⟩
    show (G2.θ ++ [D])[M2.length]? = some D
    rw [← hl, List.getElem?_append_right (Nat.le_refl _), Nat.sub_self]
    rfl
theorem qlc (hc : X.calm = true) (hN : X.N.Nodup) (hi : QI X W tg iter f) (ok : BlkOk X.N X.env.scope scope own)
    (hg : ∀ (s : Shared) (H : Hp) (C : Addr) (cl : List (Str × Addr)) (fp : List Addr), QGv (X.blk s H scope (compEnvC scope cl C X.env) fp) (own.map (·.2)) tg g) (ht : ∀ (s : Shared) (H : Hp) (C : Addr) (cl : List (Str × Addr)) (fp : List Addr), QTs (X.blk s H scope (compEnvC scope cl C X.env) fp) ifs b)
    (he : ∀ (s : Shared) (H : Hp) (C : Addr) (cl : List (Str × Addr)) (fp : List Addr), QE (X.blk s H scope (compEnvC scope cl C X.env) fp) W0 elt e) (hs : ∀ x, foldedSetIterable iter X.env x = pure x := by intro _; rfl) :
    QE X W (.ListComp elt [⟨tg, iter, ifs, 0⟩] scope pos) (eLc f g b e (own.map (·.2))) := PE.imp (pe_lc (g := UpGv (cn X) W0 (own.map fun p : Str × Nat => p.2) g) (tt := Up (cn X) W0 (fun _ (a b : Bool) => a = b) b) (te := Up (cn X) W0 (DV (cn X)) e) hc hN hi ok hg ht he hs) fun _ _ _ h => up_lc h
theorem qlcP (hc : X.calm = true) (hN : X.N.Nodup) (hi : QI X W tg iter f) (ok : BlkOk X.N X.env.scope scope own)
    (hg : ∀ (s : Shared) (H : Hp) (C : Addr) (cl : List (Str × Addr)) (fp : List Addr), QGv (X.blk s H scope (compEnvC scope cl C X.env) fp) (own.map (·.2)) tg g) (ht : ∀ (s : Shared) (H : Hp) (C : Addr) (cl : List (Str × Addr)) (fp : List Addr), QTs (X.blk s H scope (compEnvC scope cl C X.env) fp) ifs b)
    (he : ∀ (s : Shared) (H : Hp) (C : Addr) (cl : List (Str × Addr)) (fp : List Addr), QE (X.blk s H scope (compEnvC scope cl C X.env) fp) W0 elt e) (hs : ∀ x, foldedSetIterable iter X.env x = pure x := by intro _; rfl) :
    QE X W (.ListComp elt [⟨tg, iter, ifs, 0⟩] scope pos) (eLcP f g b e (own.map (·.2))) := PE.imp (pe_lc (g := UpGv (cn X) W0 (own.map fun p : Str × Nat => p.2) g) (tt := Up (cn X) W0 (fun _ (a b : Bool) => a = b) b) (te := Up (cn X) W0 (DV (cn X)) e) hc hN hi ok hg ht he hs) fun _ _ _ h => up_lcP h
/-- name = [..] -/
theorem qsetLc {i : Nat} {y : Str} {py spos : Pos} {h : EF} (hh : h = eLc f g b e (own.map (·.2)) ∨ h = eLcP f g b e (own.map (·.2))) (hc : X.calm = true) (hN : X.N.Nodup) (hy : X.N[i]? = some y) (hyl : X.env.scope.names.lookup y = some .local)
    (hsw : swapsWith (.ListComp elt [⟨tg, iter, ifs, 0⟩] scope pos) (some (.Name y py)) spos.line X.env = pure true) (hi : QI X W tg iter f) (ok : BlkOk X.N X.env.scope scope own)
    (hg : ∀ (s : Shared) (H : Hp) (C : Addr) (cl : List (Str × Addr)) (fp : List Addr), QGv (X.blk s H scope (compEnvC scope cl C X.env) fp) (own.map (·.2)) tg g) (ht : ∀ (s : Shared) (H : Hp) (C : Addr) (cl : List (Str × Addr)) (fp : List Addr), QTs (X.blk s H scope (compEnvC scope cl C X.env) fp) ifs b)
    (he : ∀ (s : Shared) (H : Hp) (C : Addr) (cl : List (Str × Addr)) (fp : List Addr), QE (X.blk s H scope (compEnvC scope cl C X.env) fp) W0 elt e) (hs : ∀ x, foldedSetIterable iter X.env x = pure x := by intro _; rfl) :
    QS X W (.Assign [.Name y py] (.ListComp elt [⟨tg, iter, ifs, 0⟩] scope pos) spos) (kAsg h (gN i)) := PS.imp (ps_setLc (g := UpGv (cn X) W0 (own.map fun p : Str × Nat => p.2) g) (tt := Up (cn X) W0 (fun _ (a b : Bool) => a = b) b) (te := Up (cn X) W0 (DV (cn X)) e) hc hN hy hyl hsw hi ok hg ht he hs) fun D σ H hp => by
  have z : Up (cn X) W (DV (cn X)) h σ H (fun x H1 => gName i x σ H1 D.nx) := by
    refine Up.imp (UpS.thn hp) fun v H1 ⟨G, S, d, M, r, s, q, p⟩ => ?_
    exact p G _ H1 (Gr.refl G) r (s.set q)
  rcases hh with rfl | rfl
  · exact up_lc z
  · exact up_lcP z
end
end QL
end
section
set_option Elab.async false
set_option linter.all false
set_option maxRecDepth 100000
set_option maxHeartbeats 4000000
set_option autoImplicit false
/-! QDict: dicts, their keys ints, texts or tuples of these. -/
namespace QL
open PySem PySem.Spec L2
open Classical

def keyOf : D → Option Key
  | .int i => some (.inl i)
  | .str x => some (.inr x)
  | _ => none
def keysOf : List D → Option (List Key)
  | [] => some []
  | d :: r => match keyOf d, keysOf r with
    | some k, some t => some (k :: t)
    | _, _ => none
section
variable {κ : Type} [DecidableEq κ]
def valD (kvs : List (κ × D)) (k : κ) : Option D := (kvs.find? fun kv => decide (kv.1 = k)).map (·.2)
def putKD (kvs : List (κ × D)) (k : κ) (d : D) : List (κ × D) :=
  if kvs.any (fun kv => decide (kv.1 = k)) = true then kvs.map (fun kv => if kv.1 = k then (kv.1, d) else kv) else kvs ++ [(k, d)]
/-- pairs that stand for pairs -/
def KR (c : Cn) (G : Gd) (p : κ × D) (q : κ × V) : Prop := q.1 = p.1 ∧ DV c G p.2 q.2
variable {c : Cn} {G : Gd}
/-- what is there, in data and in values -/
def ORel (c : Cn) (G : Gd) : Option D → Option V → Prop
  | some d, some w => DV c G d w
  | none, none => True
  | _, _ => False
theorem kr_val {kvs : List (κ × D)} {ws : List (κ × V)} (h : Paired (KR c G) kvs ws) (k : κ) : ORel c G (valD kvs k) (valV ws k) := by
  induction h with
  | nil => trivial
  | @cons p q ps qs r t ih =>
    obtain ⟨e, r⟩ := r
    by_cases z : p.1 = k
    · have e1 : valD (p :: ps) k = some p.2 := by simp [valD, List.find?_cons, z]
      rw [e1, valV_pos (e.trans z)]
      exact r
    · have e1 : valD (p :: ps) k = valD ps k := by simp [valD, List.find?_cons, z]
      rw [e1, valV_neg (fun y => z (e.symm.trans y))]
      exact ih
theorem kr_any {kvs : List (κ × D)} {ws : List (κ × V)} (h : Paired (KR c G) kvs ws) (k : κ) : (ws.any fun kv => decide (kv.1 = k)) = kvs.any fun kv => decide (kv.1 = k) := by
  induction h with
  | nil => rfl
  | @cons p q ps qs r t ih =>
    rw [List.any_cons, List.any_cons, ih, r.1]
theorem paired_map2 {α β α' β' : Type} {R : α → β → Prop} {R' : α' → β' → Prop} {f : α → α'} {g : β → β'} {xs : List α} {ys : List β} (h : Paired R xs ys) (k : ∀ a b, R a b → R' (f a) (g b)) : Paired R' (xs.map f) (ys.map g) := by
  induction h with
  | nil => exact .nil
  | cons r _ ih => exact .cons (k _ _ r) ih
theorem paired_app {α β : Type} {R : α → β → Prop} {xs xs' : List α} {ys ys' : List β} (h : Paired R xs ys) (h' : Paired R xs' ys') : Paired R (xs ++ xs') (ys ++ ys') := by
  induction h with
  | nil => exact h'
  | cons r _ ih => exact .cons r ih
theorem kr_put {kvs : List (κ × D)} {ws : List (κ × V)} (h : Paired (KR c G) kvs ws) (k : κ) {d : D} {v : V} (q : DV c G d v) : Paired (KR c G) (putKD kvs k d) (putK ws k v) := by
  unfold putKD putK
  rw [kr_any h k]
  split
  · refine paired_map2 h fun a b ⟨e, r⟩ => ?_
    by_cases z : a.1 = k
    · rw [if_pos z, if_pos (e.trans z)]
      exact ⟨e, q⟩
    · rw [if_neg z, if_neg (fun y => z (e.symm.trans y))]
      exact ⟨e, r⟩
  · exact paired_app h (.cons ⟨rfl, q⟩ .nil)
theorem kr_len {kvs : List (κ × D)} {ws : List (κ × V)} (h : Paired (KR c G) kvs ws) : ws.length = kvs.length := by
  induction h with
  | nil => rfl
  | cons r _ ih => rw [List.length_cons, List.length_cons, ih]
end
section
variable {c : Cn} {G G' : Gd} {H : Hp} {M : Mem}
theorem DVk.pr : ∀ {ds : List (Key × D)} {vs : List (Key × V)}, DVk c G ds vs → Paired (KR c G) ds vs
  | [], _, h => by rw [show _ = ([] : List (Key × V)) from h]; exact .nil
  | (k, d) :: r, _, h => by
    obtain ⟨v, t, rfl, q, h⟩ := h
    exact .cons q (DVk.pr h)
theorem DVk.of : ∀ {ds : List (Key × D)} {vs : List (Key × V)}, Paired (KR c G) ds vs → DVk c G ds vs
  | [], _, h => by cases h; exact rfl
  | (k, d) :: r, _, h => by
    cases h with
    | cons q t => exact ⟨_, _, rfl, q, DVk.of t⟩
theorem DVt.pr : ∀ {ds : List (List Key × D)} {vs : List (List Key × V)}, DVt c G ds vs → Paired (KR c G) ds vs
  | [], _, h => by rw [show _ = ([] : List (List Key × V)) from h]; exact .nil
  | (k, d) :: r, _, h => by
    obtain ⟨v, t, rfl, q, h⟩ := h
    exact .cons q (DVt.pr h)
theorem DVt.of : ∀ {ds : List (List Key × D)} {vs : List (List Key × V)}, Paired (KR c G) ds vs → DVt c G ds vs
  | [], _, h => by cases h; exact rfl
  | (k, d) :: r, _, h => by
    cases h with
    | cons q t => exact ⟨_, _, rfl, q, DVt.of t⟩
theorem keyOf_at {d : D} {v : V} {k : Key} (q : DV c G d v) (h : keyOf d = some k) : v = kV k := by
  unfold keyOf at h
  split at h
  · cases h; exact q
  · cases h; exact q
  · cases h
theorem keysOf_at : ∀ {ds : List D} {vs : List V} {k : List Key}, DVs c G ds vs → keysOf ds = some k → vs = k.map kV
  | [], _, _, q, h => by cases h; exact q
  | d :: r, _, k, q, h => by
    obtain ⟨v, t, rfl, q1, q2⟩ := q
    unfold keysOf at h
    split at h
    · rename_i k1 k2 e1 e2
      cases h
      rw [keyOf_at q1 e1, keysOf_at q2 e2]
      rfl
    · cases h
/-- what x holds at y, if x is a dict -/
def look (M : Mem) (x y : D) : Option (Option D) := match asK M x with
  | some kvs => match keyOf y with
    | some k => some (valD kvs k)
    | none => none
  | none => match asTt M x with
    | some kvs => match y with
      | .tup ds => match keysOf ds with
        | some k => some (valD kvs k)
        | none => none
      | _ => none
    | none => none
def isDict (M : Mem) (x : D) : Bool := (asK M x).isSome || (asTt M x).isSome
theorem look_at {x y : D} {v u : V} {o : Option D} (r : Rep c G H M) (qx : DV c G x v) (qy : DV c G y u) (h : look M x y = some o) :
    ∃ a ov, v = .ref a ∧ DGet H a u ov ∧ ORel c G o ov := by
  unfold look at h
  cases ek : asK M x with
  | some kvs =>
    rw [ek] at h
    simp only at h
    cases e1 : keyOf y with
    | none => rw [e1] at h; cases h
    | some k =>
      rw [e1] at h
      cases h
      obtain ⟨a, ws, rfl, rd, t⟩ := asK_at r qx ek
      have kv := kr_val t.pr k
      exact ⟨a, valV ws k, rfl, .inl ⟨ws, k, rd, keyOf_at qy e1, rfl⟩, kv⟩
  | none =>
    rw [ek] at h
    simp only at h
    cases et : asTt M x with
    | none => rw [et] at h; cases h
    | some kvs =>
      rw [et] at h
      simp only at h
      cases y with
      | tup ds =>
        simp only at h
        cases e1 : keysOf ds with
        | none => rw [e1] at h; cases h
        | some k =>
          rw [e1] at h
          cases h
          obtain ⟨a, ws, rfl, rd, t⟩ := asTt_at r qx et
          obtain ⟨b, us, rfl, fb, q2⟩ := qy
          have kv := kr_val t.pr k
          exact ⟨a, valV ws k, rfl, .inr ⟨ws, k, b, rd, rfl, by rw [← keysOf_at q2 e1]; exact r.fz.tup fb, rfl⟩, kv⟩
      | _ => cases h
end
theorem ORel.some_of {c : Cn} {G : Gd} {d : D} {ov : Option V} (h : ORel c G (some d) ov) : ∃ w, ov = some w ∧ DV c G d w := by
  cases ov with
  | some w => exact ⟨w, rfl, h⟩
  | none => exact h.elim
theorem ORel.none_of {c : Cn} {G : Gd} {ov : Option V} (h : ORel c G none ov) : ov = none := by
  cases ov with
  | some w => exact h.elim
  | none => rfl
/-- d[k] -/
def fDIx (x y : D) (M : Mem) : Res D := match look M x y with
  | some (some d) => .ok d M
  | _ => .bad
def fIn (x y : D) (M : Mem) : Res D := match look M y x with
  | some o => .ok (.bl o.isSome) M
  | _ => .bad
def fNotIn (x y : D) (M : Mem) : Res D := match look M y x with
  | some o => .ok (.bl (!o.isSome)) M
  | _ => .bad
section
variable {X : Cx} {W : WX} {pos : Pos} {o i : Expr} {fo fi : EF}
theorem PE.or {e : Expr} {t t' : TE} (h : PE X e t) (h' : PE X e t') : PE X e (fun σ H Q => t σ H Q ∨ t' σ H Q) := ⟨fun pins s σ H Q I z => z.elim (h.run pins s σ H Q I) (h'.run pins s σ H Q I)⟩
theorem PT.or {e : Expr} {t t' : TT} (h : PT X e t) (h' : PT X e t') : PT X e (fun σ H Q => t σ H Q ∨ t' σ H Q) := ⟨fun pins s σ H Q I z => z.elim (h.run pins s σ H Q I) (h'.run pins s σ H Q I)⟩
theorem qdix (hu : X.A.units + 1 < cLine) (ho : QE X W o fo) (hi : QE X W i fi) (hs : NoSl i := by exact fun _ _ => rfl) : QE X W (.Subscript o i pos) (e2 fDIx fo fi) := PE.imp (pe_dget hu ho hi hs) fun σ H Q h => by
  refine Up.imp (Up.bind h) fun v H1 ⟨G, S, d, M, r1, s, q, p⟩ => ?_
  refine ⟨G, S, M, r1, s, (Post.bind (rel := DV (cn X)) p).imp fun u H2 ⟨G2, d2, M2, g2, r2, q2, p2⟩ => ?_⟩
  unfold fDIx at p2
  split at p2
  · rename_i d3 el
    obtain ⟨a, ov, rfl, dg, ho⟩ := look_at r2 (q.mono g2) q2 el
    obtain ⟨w, rfl, qw⟩ := ho.some_of
    exact ⟨a, w, rfl, dg, p2 G2 w H2 (Gr.refl _) r2 qw⟩
  · exact p2.elim
theorem up_din {f : D → D → Mem → Res D} {c : Cn} {σ : St} {H : Hp} {Q : VK} {g : Bool → Bool} (hf : ∀ x y M, f x y M = match look M y x with | some o => .ok (.bl (g o.isSome)) M | none => .bad) (h : Up c W (DV c) (e2 f fi fo) σ H Q) :
    Up c W (DV c) fi σ H fun y H1 => Up c W (DV c) fo σ H1 fun x H2 => ∃ a o, x = .ref a ∧ DGet H2 a y o ∧ Q (.bl (g o.isSome)) H2 := by
  refine Up.imp (Up.bind h) fun v H1 ⟨G, S, d, M, r1, s, q, p⟩ => ?_
  refine ⟨G, S, M, r1, s, (Post.bind (rel := DV c) p).imp fun u H2 ⟨G2, d2, M2, g2, r2, q2, p2⟩ => ?_⟩
  rw [hf] at p2
  split at p2
  · rename_i o3 el
    obtain ⟨a, ov, rfl, dg, ho⟩ := look_at r2 q2 (q.mono g2) el
    refine ⟨a, ov, rfl, dg, p2 G2 _ H2 (Gr.refl _) r2 ?_⟩
    cases o3 with
    | some d3 => obtain ⟨w, rfl, _⟩ := ho.some_of; exact rfl
    | none => cases ho.none_of; exact rfl
  · exact p2.elim
theorem qdin (hu : X.A.units + 1 < cLine) (hi : QE X W i fi) (ho : QE X W o fo) (hm : behindInMarks .In o = false := by rfl) : QE X W (.Compare i [.In] [o] pos) (e2 fIn fi fo) := PE.imp (pe_cmp (pc_din hu hi ho) hm) fun σ H Q h => up_din (f := fIn) (g := id) (fun x y M => by (first | unfold fIn | unfold fNotIn); cases look M y x <;> rfl) h
theorem qdnotin (hu : X.A.units + 1 < cLine) (hi : QE X W i fi) (ho : QE X W o fo) (hm : behindInMarks .NotIn o = false := by rfl) : QE X W (.Compare i [.NotIn] [o] pos) (e2 fNotIn fi fo) := PE.imp (pe_cmp (pc_dnotin hu hi ho) hm) fun σ H Q h => up_din (f := fNotIn) (g := fun b => !b) (fun x y M => by (first | unfold fIn | unfold fNotIn); cases look M y x <;> rfl) h
theorem tdin (hu : X.A.units + 1 < cLine) (hi : QE X W i fi) (ho : QE X W o fo) (hm : behindInMarks .In o = false := by rfl) : QT X W (.Compare i [.In] [o] pos) (bV (e2 fIn fi fo)) := PT.imp (pt_cmp (pc_din hu hi ho) hm) fun σ H Q h => by
  have h2 := Up.bind (rel := DV (cn X)) h
  refine up_din (Q := fun x H1 => ∃ c, x = .bl c ∧ Q c H1) (f := fIn) (g := id) (fun x y M => by (first | unfold fIn | unfold fNotIn); cases look M y x <;> rfl) (Up.imp h2 fun v H1 ⟨G, S, d, M, r1, s, q, p⟩ => ?_)
  split at p
  · cases (show v = _ from q)
    exact ⟨_, rfl, p G _ H1 (Gr.refl _) r1 rfl⟩
  · exact p.elim
theorem tdnotin (hu : X.A.units + 1 < cLine) (hi : QE X W i fi) (ho : QE X W o fo) (hm : behindInMarks .NotIn o = false := by rfl) : QT X W (.Compare i [.NotIn] [o] pos) (bV (e2 fNotIn fi fo)) := PT.imp (pt_cmp (pc_dnotin hu hi ho) hm) fun σ H Q h => by
  have h2 := Up.bind (rel := DV (cn X)) h
  refine up_din (Q := fun x H1 => ∃ c, x = .bl c ∧ Q c H1) (f := fNotIn) (g := fun b => !b) (fun x y M => by (first | unfold fIn | unfold fNotIn); cases look M y x <;> rfl) (Up.imp h2 fun v H1 ⟨G, S, d, M, r1, s, q, p⟩ => ?_)
  split at p
  · cases (show v = _ from q)
    exact ⟨_, rfl, p G _ H1 (Gr.refl _) r1 rfl⟩
  · exact p.elim
/-- d.get(k, x) -/
def eGet2 (o i x : EF) : EF := fun S M => (o S M).bind fun d M1 => if isDict M1 d = true then (i S M1).bind fun y M2 => (x S M2).bind fun z M3 => match look M3 d y with
    | some (some w) => .ok w M3
    | some none => .ok z M3
    | none => .bad
  else .bad
theorem isDict_at {c : Cn} {G : Gd} {H : Hp} {M : Mem} {d : D} {v : V} (r : Rep c G H M) (q : DV c G d v) (h : isDict M d = true) : ∃ a, v = .ref a ∧ IsD H a := by
  unfold isDict at h
  cases ek : asK M d with
  | some kvs =>
    obtain ⟨a, ws, rfl, rd, _⟩ := asK_at r q ek
    exact ⟨a, rfl, .inl ⟨ws, rd⟩⟩
  | none =>
    cases et : asTt M d with
    | some kvs =>
      obtain ⟨a, ws, rfl, rd, _⟩ := asTt_at r q et
      exact ⟨a, rfl, .inr ⟨ws, rd⟩⟩
    | none => rw [ek, et] at h; cases h
theorem qget2 {x : Expr} {fx : EF} {apos : Pos} (hu : X.A.units + 1 < cLine) (ho : QE X W o fo) (hi : QE X W i fi) (hx : QE X W x fx) (m : M2 X o "get" apos i x pos := by exact ⟨rfl, rfl, rfl, rfl⟩) : QE X W (.Call (.Attribute o "get" apos) [i, x] [] pos) (eGet2 fo fi fx) := PE.imp (pe_dget2 hu ho hi hx m) fun σ H Q h => by
  refine Up.imp (Up.bind h) fun v H1 ⟨G, S, d, M, r1, s, q, p⟩ => ?_
  split at p
  · rename_i hd
    obtain ⟨a, rfl, di⟩ := isDict_at r1 q hd
    refine ⟨a, rfl, di, G, S, M, r1, s, (Post.bind (rel := DV (cn X)) p).imp fun u H2 ⟨G2, d2, M2, g2, r2, q2, p2⟩ => ?_⟩
    refine ⟨G2, S, M2, r2, s.mono g2, (Post.bind (rel := DV (cn X)) p2).imp fun z H3 ⟨G3, d3, M3, g3, r3, q3, p3⟩ => ?_⟩
    split at p3
    · rename_i w el
      obtain ⟨a', ov, e, dg, ho⟩ := look_at r3 ((q.mono g2).mono g3) (q2.mono g3) el
      obtain ⟨w', rfl, qw⟩ := ho.some_of
      cases e
      exact ⟨some w', dg, p3 G3 _ H3 (Gr.refl _) r3 qw⟩
    · rename_i el
      obtain ⟨a', ov, e, dg, ho⟩ := look_at r3 ((q.mono g2).mono g3) (q2.mono g3) el
      cases ho.none_of
      cases e
      exact ⟨none, dg, p3 G3 _ H3 (Gr.refl _) r3 q3⟩
    · exact p3.elim
  · exact p.elim
/-- {} -/
def eDnewK : EF := fun _ M => .ok (.dK []) M
def eDnewT : EF := fun _ M => .ok (.dT []) M
def eDnewKP : EF := fun _ M => .ok (.ptr M.length) (M ++ [.dK []])
def eDnewTP : EF := fun _ M => .ok (.ptr M.length) (M ++ [.dT []])
theorem qdnewK : QE X W (.Dict [] [] pos) eDnewK := PE.imp pe_dnewK fun σ H Q h => by
  obtain ⟨G, S, M, r, s, p⟩ := h
  intro a ha
  exact p _ _ _ (Gr.newF (r.fz.free ha)) (r.newF ha) ⟨a, [], rfl, upd_same, rfl⟩
theorem qdnewT : QE X W (.Dict [] [] pos) eDnewT := PE.imp pe_dnewT fun σ H Q h => by
  obtain ⟨G, S, M, r, s, p⟩ := h
  intro a ha
  exact p _ _ _ (Gr.newF (r.fz.free ha)) (r.newF ha) ⟨a, [], rfl, upd_same, rfl⟩
theorem ptr_new {G : Gd} {c : Cn} {H : Hp} {M : Mem} {a : Addr} (r : Rep c G H M) : DV c { G with θ := G.θ ++ [a] } (.ptr M.length) (.ref a) := by
  refine ⟨a, ?_, rfl⟩
  show (G.θ ++ [a])[M.length]? = some a
  rw [← r.len, List.getElem?_append_right (Nat.le_refl _), Nat.sub_self]
  rfl
theorem qdnewKP : QE X W (.Dict [] [] pos) eDnewKP := PE.imp pe_dnewK fun σ H Q h => by
  obtain ⟨G, S, M, r, s, p⟩ := h
  intro a ha
  exact p _ _ _ (Gr.newP a) (r.newP ha (mo := .dK []) ⟨[], upd_same, rfl⟩) (ptr_new r)
theorem qdnewTP : QE X W (.Dict [] [] pos) eDnewTP := PE.imp pe_dnewT fun σ H Q h => by
  obtain ⟨G, S, M, r, s, p⟩ := h
  intro a ha
  exact p _ _ _ (Gr.newP a) (r.newP ha (mo := .dT []) ⟨[], upd_same, rfl⟩) (ptr_new r)
/-- d[k] = v -/
def dput (k : Nat) (y v : D) (M : Mem) : Option Mem := match M[k]? with
  | some (.dK kvs) => match keyOf y with
    | some key => if kvs.length < sizeLine then some (M.set k (.dK (putKD kvs key v))) else none
    | none => none
  | some (.dT kvs) => match y with
    | .tup ds => match keysOf ds with
      | some key => if kvs.length < sizeLine then some (M.set k (.dT (putKD kvs key v))) else none
      | none => none
    | _ => none
  | _ => none
theorem dput_at {c : Cn} {G : Gd} {H : Hp} {M M' : Mem} {k : Nat} {y v : D} {x u w : V} (r : Rep c G H M) (qx : DV c G (.ptr k) x) (qy : DV c G y u) (qv : DV c G v w) (h : dput k y v M = some M') :
    ∃ a H', x = .ref a ∧ DPut H a u w H' ∧ Rep c G H' M' := by
  obtain ⟨a, e1, rfl⟩ := qx
  unfold dput at h
  split at h
  · rename_i kvs em
    split at h
    · rename_i key ek
      split at h
      · rename_i hl
        cases h
        obtain ⟨ws, hu, t⟩ := r.mem k _ a em e1
        have t2 := kr_put t.pr key qv
        refine ⟨a, _, rfl, .inl ⟨ws, key, hu, keyOf_at qy ek, by rw [kr_len t.pr]; exact hl, rfl⟩, r.write em e1 rfl ⟨_, upd_same, DVk.of t2⟩⟩
      · cases h
    · cases h
  · rename_i kvs em
    split at h
    · rename_i ds
      split at h
      · rename_i key ek
        split at h
        · rename_i hl
          cases h
          obtain ⟨ws, hu, t⟩ := r.mem k _ a em e1
          obtain ⟨b, us, rfl, fb, q2⟩ := qy
          have t2 := kr_put t.pr key qv
          refine ⟨a, _, rfl, .inr ⟨ws, key, b, hu, rfl, by rw [← keysOf_at q2 ek]; exact r.fz.tup fb, by rw [kr_len t.pr]; exact hl, rfl⟩, r.write em e1 rfl ⟨_, upd_same, DVt.of t2⟩⟩
        · cases h
      · cases h
    · cases h
  · cases h
def kDPut (o i v : EF) : TF := fun S M => (v S M).thn S fun dv M1 => (o S M1).thn S fun d M2 => (i S M2).thn S fun y M3 => match d with
  | .ptr k => match dput k y dv M3 with
    | some M4 => .nx S M4
    | none => .bad
  | _ => .bad
theorem qdput {v : Expr} {fv : EF} {pos' : Pos} (hu : X.A.units + 1 < cLine) (ho : QE X W o fo) (hi : QE X W i fi) (hv : QE X W v fv) (hs : swapsWith v (some (.Subscript o i pos')) pos.line X.env = pure false := by rfl) :
    QS X W (.Assign [.Subscript o i pos'] v pos) (kDPut fo fi fv) := PS.imp (ps_dput hu ho hi hv hs) fun D σ H h => by
  refine Up.imp (UpS.thn h) fun y H1 ⟨G, S, dy, M, r, s, q, p⟩ => ?_
  refine ⟨G, S, M, r, s, (PostS.thnE (rel := DV (cn X)) s p).imp fun x H2 ⟨G2, d, M2, g2, r2, q2, p2⟩ => ?_⟩
  refine ⟨G2, S, M2, r2, s.mono g2, (PostS.thnE (rel := DV (cn X)) (s.mono g2) p2).imp fun z H3 ⟨G3, d3, M3, g3, r3, q3, p3⟩ => ?_⟩
  split at p3
  · rename_i k
    split at p3
    · rename_i M4 ed
      obtain ⟨a, H', rfl, dp, r4⟩ := dput_at r3 (q2.mono g3) q3 ((q.mono g2).mono g3) ed
      exact ⟨a, H', rfl, dp, p3 G3 σ H' (Gr.refl _) r4 ((s.mono g2).mono g3)⟩
    · exact p3.elim
  · exact p3.elim
/-- d[k] += e, -= e, on ints -/
def kDAug (o i v : EF) (op : Int → Int → Int) : TF := fun S M => (o S M).thn S fun d M1 => (i S M1).thn S fun y M2 => match d with
  | .ptr k => match look M2 d y with
    | some (some (.int a)) => (v S M2).thn S fun w M3 => match w with
      | .int b => match dput k y (.int (op a b)) M3 with
        | some M4 => .nx S M4
        | none => .bad
      | _ => .bad
    | _ => .bad
  | _ => .bad
def rIp (op : Int → Int → Int) : V → V → Hp → VK → Prop := fun x y H Q => ∃ i j, x = .int i ∧ y = .int j ∧ Q (.int (op i j)) H
theorem qdaug {v : Expr} {fv : EF} {op : Operator} {f : Int → Int → Int} {tpos : Pos} (hu : X.A.units + 1 < cLine) (ho : QE X W o fo) (hi : QE X W i fi) (hv : QE X W v fv) (hop : InOp X op (rIp f))
    (ha : ∀ ov iv new, augStore i ov iv new = (do holding [new, ov, iv] (setItem ov iv new); release [new, ov, iv] []; pure .next) := by intros; rfl) : QS X W (.AugAssign (.Subscript o i tpos) op v pos) (kDAug fo fi fv f) := PS.imp (ps_daug hu ho hi hv hop ha) fun D σ H h => by
  refine Up.imp (UpS.thn h) fun x H1 ⟨G, S, d, M, r, s, q, p⟩ => ?_
  refine ⟨G, S, M, r, s, (PostS.thnE (rel := DV (cn X)) s p).imp fun y H2 ⟨G2, d2, M2, g2, r2, q2, p2⟩ => ?_⟩
  split at p2
  · rename_i k
    split at p2
    · rename_i n el
      obtain ⟨a, ov, rfl, dg, ho⟩ := look_at r2 (q.mono g2) q2 el
      obtain ⟨w, rfl, qw⟩ := ho.some_of
      cases (show w = _ from qw)
      refine ⟨a, _, rfl, dg, G2, S, M2, r2, s.mono g2, (PostS.thnE (rel := DV (cn X)) (s.mono g2) p2).imp fun z H3 ⟨G3, d3, M3, g3, r3, q3, p3⟩ => ?_⟩
      split at p3
      · rename_i m
        split at p3
        · rename_i M4 ed
          cases (show z = _ from q3)
          obtain ⟨a', H', e, dp, r4⟩ := dput_at (v := .int (f n m)) (w := .int (f n m)) r3 ((q.mono g2).mono g3) (q2.mono g3) rfl ed
          cases e
          exact ⟨n, m, rfl, rfl, H', dp, p3 G3 σ H' (Gr.refl _) r4 ((s.mono g2).mono g3)⟩
        · exact p3.elim
      · exact p3.elim
    · exact p2.elim
  · exact p2.elim
theorem qdadd {v : Expr} {fv : EF} {tpos : Pos} (hu : X.A.units + 1 < cLine) (ho : QE X W o fo) (hi : QE X W i fi) (hv : QE X W v fv) (ha : ∀ ov iv new, augStore i ov iv new = (do holding [new, ov, iv] (setItem ov iv new); release [new, ov, iv] []; pure .next) := by intros; rfl) :
    QS X W (.AugAssign (.Subscript o i tpos) .Add v pos) (kDAug fo fi fv fun a b => a + b) := qdaug hu ho hi hv in_add ha
theorem qdsub {v : Expr} {fv : EF} {tpos : Pos} (hu : X.A.units + 1 < cLine) (ho : QE X W o fo) (hi : QE X W i fi) (hv : QE X W v fv) (ha : ∀ ov iv new, augStore i ov iv new = (do holding [new, ov, iv] (setItem ov iv new); release [new, ov, iv] []; pure .next) := by intros; rfl) :
    QS X W (.AugAssign (.Subscript o i tpos) .Sub v pos) (kDAug fo fi fv fun a b => a - b) := qdaug hu ho hi hv in_sub ha
end
end QL
end
section
set_option Elab.async false
set_option linter.all false
set_option maxRecDepth 100000
set_option maxHeartbeats 4000000
set_option autoImplicit false
/-! QMore: subscripts, slices, in, isinstance, built-ins, methods. -/
namespace QL
open PySem PySem.Spec L2
open Classical

/-! ### a[i] -/
def fIx (x y : D) (M : Mem) : Res D := match x with
  | .tup ds => match y with
    | .int i => match atI ds i with
      | some d => .ok d M
      | none => .bad
    | _ => .bad
  | .str z => match y with
    | .int i => if z.length ≤ sizeLine then match atI z.cps.toList i with
        | some c => .ok (.str ⟨#[c]⟩) M
        | none => .bad
      else .bad
    | _ => .bad
  | x => match asL M x with
    | some ds => match y with
      | .int i => match atI ds i with
        | some d => .ok d M
        | none => .bad
      | _ => .bad
    | none => .bad
section
variable {c : Cn} {G : Gd}
theorem DVs.atI {ds : List D} {vs : List V} {i : Int} {d : D} (q : DVs c G ds vs) (h : L2.atI ds i = some d) : ∃ v, L2.atI vs i = some v ∧ DV c G d v := by
  unfold L2.atI at h ⊢
  rw [q.length]
  cases e : ixN ds.length i with
  | none => rw [e] at h; cases h
  | some j =>
    rw [e] at h
    obtain ⟨v, e1, q1⟩ := q.get (show ds[j]? = some d from h)
    exact ⟨v, e1, q1⟩
theorem r2_ix : R2s c fIx (rIx c.K) := by
  intro W σ G H M x y dx dy Q r qx qy p
  unfold fIx at p
  split at p
  · rename_i ds
    split at p
    · rename_i i
      split at p
      · rename_i d hd
        obtain ⟨a, vs, rfl, s, t⟩ := qx
        obtain ⟨v, ev, qv⟩ := t.atI hd
        exact .inr (.inl ⟨a, vs, i, v, rfl, qy, .inl (.inl (r.fz.tup s)), ev, p G _ H (Gr.refl _) r qv⟩)
      · exact p.elim
    · exact p.elim
  · rename_i z
    split at p
    · rename_i i
      split at p
      · rename_i hz
        split at p
        · rename_i ch hc
          exact .inr (.inr ⟨z, i, ch, qx, qy, hz, hc, p G _ H (Gr.refl _) r rfl⟩)
        · exact p.elim
      · exact p.elim
    · exact p.elim
  · split at p
    · rename_i ds hds
      split at p
      · rename_i i
        split at p
        · rename_i d hd
          obtain ⟨a, vs, rfl, s, t⟩ := asL_at r qx hds
          obtain ⟨v, ev, qv⟩ := t.atI hd
          exact .inl ⟨a, vs, i, v, rfl, qy, s, ev, p G _ H (Gr.refl _) r qv⟩
        · exact p.elim
      · exact p.elim
    · exact p.elim
end
section
variable {X : Cx} {W : WX} {pos p2 : Pos} {o i a b : Expr} {lo hi : Option Expr} {fo fi fa fb : EF}
theorem qix (ha : QE X W a fa) (hb : QE X W b fb) (hs : PlainIx b := by exact fun _ _ => rfl) : QE X W (.Subscript a b pos) (e2 fIx fa fb) := q_ix ix_seq r2_ix ha hb hs

/-! ### slices -/
abbrev OF := Sl → Mem → Res (Option Int)
def relO : Gd → Option Int → Option Int → Prop := fun _ a b => a = b
def QO (X : Cx) (W : WX) (e : Option Expr) (f : OF) : Prop := PO X e (Up (cn X) W relO f)
theorem PO.imp {e : Option Expr} {t t' : TO} (h : PO X e t) (k : ∀ σ H Q, t' σ H Q → t σ H Q) : PO X e t' := ⟨fun pins s σ H Q I z => h.run pins s σ H Q I (k σ H Q z)⟩
def oNone : OF := fun _ M => .ok none M
def oSome (e : EF) : OF := fun S M => (e S M).bind fun d M1 => match d with
  | .int i => .ok (some i) M1
  | _ => .bad
theorem qo_none : QO X W none oNone := PO.imp po_none fun σ H Q h => by
  obtain ⟨G, S, M, r, s, p⟩ := h
  exact p G none H (Gr.refl G) r rfl
theorem qo_some (h : QE X W a fa) : QO X W (some a) (oSome fa) := PO.imp (po_some h) fun σ H Q h => by
  refine Up.imp (Up.bind h) fun v H1 ⟨G, S, d, M, r1, s, q, p⟩ => ?_
  split at p
  · exact ⟨_, q, p G _ H1 (Gr.refl _) r1 rfl⟩
  · exact p.elim
def cutD (xs : List D) (lo hi : Option Int) : List D := (xs.drop (HT.sIx xs.length 0 lo)).take (HT.sIx xs.length xs.length hi - HT.sIx xs.length 0 lo)
theorem DVs.cut {c : Cn} {G : Gd} {ds : List D} {vs : List V} (q : DVs c G ds vs) (lo hi : Option Int) : DVs c G (cutD ds lo hi) (cutV vs lo hi) := by
  unfold cutD cutV
  rw [q.length]
  exact (q.drop _).take _
def fSl (x : D) (lo hi : Option Int) (M : Mem) : Res D := match x with
  | .str z => if z.length ≤ sizeLine then .ok (.str (cutS z lo hi)) M else .bad
  | .tup ds => if HT.sIx ds.length 0 lo = 0 ∧ HT.sIx ds.length ds.length hi = ds.length then .bad else .ok (.tup (cutD ds lo hi)) M
  | x => match asL M x with
    | some ds => .ok (.lst (cutD ds lo hi)) M
    | none => .bad
def eSl (e : EF) (l h : OF) : EF := fun S M => (e S M).bind fun d M1 => (l S M1).bind fun lo M2 => (h S M2).bind fun hi M3 => fSl d lo hi M3
theorem qsl {fl fh : OF} (he : QE X W a fa) (hl : QO X W lo fl) (hu : QO X W hi fh) : QE X W (.Subscript a (.Slice lo hi none p2) pos) (eSl fa fl fh) :=
  PE.imp (pe_slice (sl_list.or (sl_str.or sl_tup)) he hl hu) fun σ H Q h => by
  refine Up.imp (Up.bind h) fun v H1 ⟨G, S, d, M, r1, s, q, p⟩ => ?_
  refine ⟨G, S, M, r1, s, (Post.bind (rel := relO) p).imp fun l H2 ⟨G2, l2, M2, g2, r2, e2, p2⟩ => ?_⟩
  refine ⟨G2, S, M2, r2, s.mono g2, (Post.bind (rel := relO) p2).imp fun u H3 ⟨G3, u3, M3, g3, r3, e3, p3⟩ => ?_⟩
  cases e2
  cases e3
  have q3 := (q.mono g2).mono g3
  unfold fSl at p3
  split at p3
  · split at p3
    · rename_i hz
      exact .inr (.inl ⟨_, q3, hz, p3 G3 _ H3 (Gr.refl _) r3 rfl⟩)
    · exact p3.elim
  · split at p3
    · exact p3.elim
    · rename_i hw
      obtain ⟨a, vs, rfl, s, t⟩ := q3
      refine .inr (.inr ⟨a, vs, rfl, .inl (.inl (r3.fz.tup s)), by rw [t.length]; exact hw, fun p' hp => ?_⟩)
      have g := Gr.newF (G := G3) (o := .tup (cutV vs l u)) (r3.fz.free hp)
      exact p3 _ _ _ g (r3.newF hp) ⟨p', _, rfl, upd_same, (t.cut l u).mono g⟩
  · split at p3
    · rename_i ds hds
      obtain ⟨a, vs, rfl, s, t⟩ := asL_at r3 q3 hds
      refine .inl ⟨a, vs, rfl, s, fun p' hp => ?_⟩
      have g := Gr.newF (G := G3) (o := .lst (cutV vs l u)) (r3.fz.free hp)
      exact p3 _ _ _ g (r3.newF hp) ⟨p', _, rfl, .inl (.inl upd_same), (t.cut l u).mono g⟩
    · exact p3.elim

/-! ### in, not in: a sign in a text, an item in a list or a tuple -/
def flatD : D → Bool
  | .non => true
  | .bl _ => true
  | .int _ => true
  | .str _ => true
  | _ => false
def toV : D → V
  | .non => .non
  | .bl b => .bl b
  | .int i => .int i
  | .str x => .str x
  | _ => .non
theorem flat_at {c : Cn} {G : Gd} {d : D} {v : V} (h : flatD d = true) (q : DV c G d v) : v = toV d ∧ flatV v = true := by
  cases d with
  | non => cases (show v = _ from q); exact ⟨rfl, rfl⟩
  | bl b => cases (show v = _ from q); exact ⟨rfl, rfl⟩
  | int b => cases (show v = _ from q); exact ⟨rfl, rfl⟩
  | str b => cases (show v = _ from q); exact ⟨rfl, rfl⟩
  | _ => cases h
theorem flats_at {c : Cn} {G : Gd} : ∀ {ds : List D} {vs : List V}, ds.all flatD = true → DVs c G ds vs → vs = ds.map toV ∧ vs.all flatV = true
  | [], _, _, q => by rw [show _ = ([] : List V) from q]; exact ⟨rfl, rfl⟩
  | d :: r, _, h, q => by
    obtain ⟨v, t, rfl, q1, q2⟩ := q
    rw [List.all_cons, Bool.and_eq_true] at h
    obtain ⟨e1, f1⟩ := flat_at h.1 q1
    obtain ⟨e2, f2⟩ := flats_at h.2 q2
    exact ⟨by rw [e1, e2]; rfl, by rw [List.all_cons, f1, f2]; rfl⟩
/-- Python's == of flat things -/
def eqFlat (a b : D) : Bool := eqV (toV a) (toV b)
def memD (x : D) (ds : List D) : Bool := ds.any fun y => eqFlat y x
theorem memD_V (x : D) (ds : List D) : inV (toV x) (ds.map toV) = memD x ds := by
  unfold inV memD eqFlat
  rw [List.any_map]
  rfl
def seqOf (M : Mem) : D → Option (List D)
  | .tup ds => some ds
  | d => asL M d
theorem seqOf_at {c : Cn} {G : Gd} {H : Hp} {M : Mem} {d : D} {v : V} {ds : List D} (r : Rep c G H M) (q : DV c G d v) (h : seqOf M d = some ds) : ∃ a vs, v = .ref a ∧ (SqL c.K H a vs ∨ SqT c.K H a vs) ∧ DVs c G ds vs := by
  unfold seqOf at h
  split at h
  · cases h
    obtain ⟨a, vs, rfl, s, t⟩ := q
    exact ⟨a, vs, rfl, .inr (.inl (.inl (r.fz.tup s))), t⟩
  · obtain ⟨a, vs, rfl, s, t⟩ := asL_at r q h
    exact ⟨a, vs, rfl, .inl s, t⟩
def fInG (neg : Bool) (x y : D) (M : Mem) : Res D := match y with
  | .str z => match x with
    | .str w => .ok (.bl (neg ^^ !(Builtin.Str.occurrences z w 0 z.length 1).isEmpty)) M
    | _ => .bad
  | y => match seqOf M y with
    | some ds => if flatD x = true ∧ ds.all flatD = true then .ok (.bl (neg ^^ memD x ds)) M else .bad
    | none => .bad
theorem r2_in {c : Cn} : R2s c (fInG false) (fun x y H Q => rIn c.K false x y H Q ∨ (∃ i j, x = .str i ∧ y = .str j ∧ Q (.bl (!(Builtin.Str.occurrences j i 0 j.length 1).isEmpty)) H)) := by
  intro W σ G H M x y dx dy Q r qx qy p
  unfold fInG at p
  split at p
  · split at p
    · exact .inr ⟨_, _, qx, qy, by simpa using p G _ H (Gr.refl _) r rfl⟩
    · exact p.elim
  · split at p
    · rename_i ds hds
      split at p
      · rename_i hf
        obtain ⟨a, vs, rfl, s, t⟩ := seqOf_at r qy hds
        obtain ⟨e1, f1⟩ := flat_at hf.1 qx
        obtain ⟨e2, f2⟩ := flats_at hf.2 t
        refine .inl ⟨a, vs, rfl, s, f1, f2, ?_⟩
        rw [if_neg Bool.false_ne_true, e1, e2, memD_V]
        exact p G _ H (Gr.refl _) r (by simp; rfl)
      · exact p.elim
    · exact p.elim
theorem r2_notin {c : Cn} : R2s c (fInG true) (fun x y H Q => rIn c.K true x y H Q ∨ (∃ i j, x = .str i ∧ y = .str j ∧ Q (.bl (!(!(Builtin.Str.occurrences j i 0 j.length 1).isEmpty))) H)) := by
  intro W σ G H M x y dx dy Q r qx qy p
  unfold fInG at p
  split at p
  · split at p
    · exact .inr ⟨_, _, qx, qy, by simpa using p G _ H (Gr.refl _) r rfl⟩
    · exact p.elim
  · split at p
    · rename_i ds hds
      split at p
      · rename_i hf
        obtain ⟨a, vs, rfl, s, t⟩ := seqOf_at r qy hds
        obtain ⟨e1, f1⟩ := flat_at hf.1 qx
        obtain ⟨e2, f2⟩ := flats_at hf.2 t
        refine .inl ⟨a, vs, rfl, s, f1, f2, ?_⟩
        rw [if_pos rfl, e1, e2, memD_V]
        exact p G _ H (Gr.refl _) r (by simp; rfl)
      · exact p.elim
    · exact p.elim
theorem qin (hm : behindInMarks .In b = false) (ha : QE X W a fa) (hb : QE X W b fb) : QE X W (.Compare a [.In] [b] pos) (e2 (fInG false) fa fb) := q_cmp (op_in_seq.or op_in_str) r2_in hm ha hb
theorem qnotin (hm : behindInMarks .NotIn b = false) (ha : QE X W a fa) (hb : QE X W b fb) : QE X W (.Compare a [.NotIn] [b] pos) (e2 (fInG true) fa fb) := q_cmp (op_notIn_seq.or op_notin_str) r2_notin hm ha hb
theorem tin (hm : behindInMarks .In b = false) (ha : QE X W a fa) (hb : QE X W b fb) : QT X W (.Compare a [.In] [b] pos) (bV (e2 (fInG false) fa fb)) := qt_cmp (op_in_seq.or op_in_str) r2_in hm ha hb
theorem tnotin (hm : behindInMarks .NotIn b = false) (ha : QE X W a fa) (hb : QE X W b fb) : QT X W (.Compare a [.NotIn] [b] pos) (bV (e2 (fInG true) fa fb)) := qt_cmp (op_notIn_seq.or op_notin_str) r2_notin hm ha hb

/-! ### a op b op c -/
theorem up_chain {c : Cn} {f g : D → D → Mem → Res D} {r r' : R2} {fx fy fz : EF} {σ : St} {H : Hp} {Q : VK} (hr : R2s c f r) (hr' : R2s c g r') (h : Up c W (DV c) (e3 f g fx fy fz) σ H Q) : tChain r r' (Up c W (DV c) fx) (Up c W (DV c) fy) (Up c W (DV c) fz) σ H Q := by
  refine Up.imp (Up.bind h) fun v H1 ⟨G, S, d, M, r1, s, q, p⟩ => ?_
  refine ⟨G, S, M, r1, s, (Post.bind (rel := DV c) p).imp fun u H2 ⟨G2, d2, M2, g2, r2, q2, p2⟩ => ?_⟩
  refine hr W σ G2 H2 M2 v u d d2 _ r2 (q.mono g2) q2 ((Post.bind (rel := DV c) p2).imp fun z H3 ⟨G3, d3, M3, g3, r3, q3, p3⟩ => ?_)
  split at p3
  · cases (show z = _ from q3)
    refine ⟨true, rfl, ?_⟩
    rw [if_pos rfl]
    refine ⟨G3, S, M3, r3, (s.mono g2).mono g3, (Post.bind (rel := DV c) p3).imp fun w H4 ⟨G4, d4, M4, g4, r4, q4, p4⟩ => ?_⟩
    exact hr' W σ G4 H4 M4 u w d2 d4 Q r4 ((q2.mono g3).mono g4) q4 p4
  · cases (show z = _ from q3)
    refine ⟨false, rfl, ?_⟩
    rw [if_neg Bool.false_ne_true]
    exact p3 G3 _ H3 (Gr.refl _) r3 rfl
  · exact p3.elim
end
end QL
end
section
set_option Elab.async false
set_option linter.all false
set_option maxRecDepth 100000
set_option maxHeartbeats 4000000
set_option autoImplicit false
/-! QBlt: built-in functions and methods of built-in types. -/
namespace QL
open PySem PySem.Spec L2
open Classical

/-- a function on data does what r asks -/
def RCs (c : Cn) (f : List D → Mem → Res D) (r : List V → Hp → VK → Prop) : Prop := ∀ (W : WX) (σ : St) (G : Gd) (H : Hp) (M : Mem) (vs : List V) (ds : List D) (Q : VK), Rep c G H M → DVs c G ds vs → Post c W σ G (DV c) (f ds M) Q → r vs H Q
section
variable {X : Cx} {W : WX} {x : Str} {p pos apos : Pos} {e o : Expr} {es : List Expr} {a : AF} {f : List D → Mem → Res D} {r : List V → Hp → VK → Prop} {id T : String}
theorem up_cb {c : Cn} {σ : St} {H : Hp} {Q : VK} (hf : RCs c f r) (h : Up c W (DV c) (eCall f a) σ H Q) : tCB r (Up c W (DVs c) a) σ H Q := by
  refine Up.imp (Up.bind h) fun vs H1 ⟨G, S, ds, M, rp, s, q, p⟩ => ?_
  exact hf W σ G H1 M vs ds Q rp q p
theorem q_cb (hc : CallR X (.builtin id) r) (hf : RCs (cn X) f r) (hg : Gl X x) (hm : X.mg x = none) (ha : QA X W (e :: es) a) (hv : bootBuiltins x = some (.builtin id)) (hn : x ≠ "__name__" := by decide) (hdb : (x == ("__debug__" : Str)) = false := by decide)
    (he : starEach (e :: es) X.env = (false, eval e X.env) :: starEach es X.env := by rfl) (hpl : (backTo pos (starEach es X.env)).any (·.1) = false := by rfl) : QE X W (.Call (.Name x p) (e :: es) [] pos) (eCall f a) :=
  PE.imp (pe_callB hc hg hm hv ha hn hdb he hpl) fun _ _ _ h => up_cb hf h
theorem q_ct (hc : CallR X (.type T) r) (hf : RCs (cn X) f r) (hg : Gl X x) (hm : X.mg x = none) (ha : QA X W (e :: es) a) (hv : bootBuiltins x = some (.type T)) (hn : x ≠ "__name__" := by decide) (hdb : (x == ("__debug__" : Str)) = false := by decide)
    (he : starEach (e :: es) X.env = (false, eval e X.env) :: starEach es X.env := by rfl) (hpl : (backTo pos (starEach es X.env)).any (·.1) = false := by rfl) : QE X W (.Call (.Name x p) (e :: es) [] pos) (eCall f a) :=
  PE.imp (pe_callTy hc hg hm hv ha hn hdb he hpl) fun _ _ _ h => up_cb hf h
end
/-! ### len, abs, sum, all, any, min, max of two ints -/
def bLen (ds : List D) (M : Mem) : Res D := match ds with
  | [.str z] => if z.length ≤ sizeLine then .ok (.int z.length) M else .bad
  | [d] => match seqOf M d with
    | some xs => .ok (.int xs.length) M
    | none => .bad
  | _ => .bad
/-- len of a dict -/
def bLenD (ds : List D) (M : Mem) : Res D := match ds with
  | [d] => match asK M d with
    | some kvs => .ok (.int kvs.length) M
    | none => .bad
  | _ => .bad
def bAbs (ds : List D) (M : Mem) : Res D := match ds with
  | [.int i] => .ok (.int (if i < 0 then -i else i)) M
  | _ => .bad
def bSum (ds : List D) (M : Mem) : Res D := match ds with
  | [d] => match asL M d with
    | some xs => match intsOf xs with
      | some ns => .ok (.int ns.sum) M
      | none => .bad
    | none => .bad
  | _ => .bad
def bAll (ds : List D) (M : Mem) : Res D := match ds with
  | [d] => match asL M d with
    | some xs => match blsOf xs with
      | some ns => .ok (.bl (ns.all id)) M
      | none => .bad
    | none => .bad
  | _ => .bad
def bAny (ds : List D) (M : Mem) : Res D := match ds with
  | [d] => match asL M d with
    | some xs => match blsOf xs with
      | some ns => .ok (.bl (ns.any id)) M
      | none => .bad
    | none => .bad
  | _ => .bad
def bMin2 (ds : List D) (M : Mem) : Res D := match ds with
  | [.int i, .int j] => .ok (.int (if j < i then j else i)) M
  | _ => .bad
def bMax2 (ds : List D) (M : Mem) : Res D := match ds with
  | [.int i, .int j] => .ok (.int (if j > i then j else i)) M
  | _ => .bad
def bInt (ds : List D) (M : Mem) : Res D := match ds with
  | [.int i] => .ok (.int i) M
  | [.bl b] => .ok (.int (if b then 1 else 0)) M
  | _ => .bad
/-- list(..) of a list or a tuple: a new one -/
def bList (ds : List D) (M : Mem) : Res D := match ds with
  | [d] => match seqOf M d with
    | some xs => .ok (.lst xs) M
    | none => .bad
  | _ => .bad
def bListP (ds : List D) (M : Mem) : Res D := match ds with
  | [d] => match seqOf M d with
    | some xs => .ok (.ptr M.length) (M ++ [.lst xs])
    | none => .bad
  | _ => .bad
def bTuple (ds : List D) (M : Mem) : Res D := match ds with
  | [.tup xs] => .ok (.tup xs) M
  | [d] => match asL M d with
    | some xs => .ok (.tup xs) M
    | none => .bad
  | _ => .bad
section
variable {c : Cn}
theorem rc_len : RCs c bLen (fun xs H Q => (∃ z, xs = [.str z] ∧ z.length ≤ sizeLine ∧ Q (.int z.length) H) ∨ ∃ p ys, xs = [.ref p] ∧ (SqL c.K H p ys ∨ SqT c.K H p ys) ∧ Q (.int ys.length) H) := by
  intro W σ G H M vs ds Q r q p
  unfold bLen at p
  split at p
  · split at p
    · rename_i hz
      obtain ⟨v, t, rfl, q1, rfl⟩ := q
      cases (show v = _ from q1)
      exact .inl ⟨_, rfl, hz, p G _ H (Gr.refl _) r rfl⟩
    · exact p.elim
  · split at p
    · rename_i xs hx
      obtain ⟨v, t, rfl, q1, rfl⟩ := q
      obtain ⟨a, us, rfl, s, t⟩ := seqOf_at r q1 hx
      exact .inr ⟨a, us, rfl, s, p G _ H (Gr.refl _) r (by rw [t.length]; rfl)⟩
    · exact p.elim
  · exact p.elim
theorem rc_lenD : RCs c bLenD (fun xs H Q => ∃ p kvs, xs = [.ref p] ∧ Rd H p (.dK kvs) ∧ Q (.int kvs.length) H) := by
  intro W σ G H M vs ds Q r q p
  unfold bLenD at p
  split at p
  · split at p
    · rename_i xs hx
      obtain ⟨v, t, rfl, q1, rfl⟩ := q
      obtain ⟨a, us, rfl, s, t⟩ := asK_at r q1 hx
      exact ⟨a, us, rfl, s, p G _ H (Gr.refl _) r (by rw [kr_len t.pr]; rfl)⟩
    · exact p.elim
  · exact p.elim
theorem rc_abs : RCs c bAbs (fun xs H Q => ∃ i, xs = [.int i] ∧ Q (.int (if i < 0 then -i else i)) H) := by
  intro W σ G H M vs ds Q r q p
  unfold bAbs at p
  split at p
  · exact ⟨_, DVs.ints (ns := [_]) q, p G _ H (Gr.refl _) r rfl⟩
  · exact p.elim
theorem rc_sum : RCs c bSum (rSum c.K) := by
  intro W σ G H M vs ds Q r q p
  unfold bSum at p
  split at p
  · split at p
    · rename_i xs hx
      split at p
      · rename_i ns hn
        obtain ⟨v, t, rfl, q1, rfl⟩ := q
        obtain ⟨a, us, rfl, s, t⟩ := asL_at r q1 hx
        rw [intsOf_eq hn] at t
        rw [t.ints] at s
        exact ⟨a, ns, rfl, s, p G _ H (Gr.refl _) r rfl⟩
      · exact p.elim
    · exact p.elim
  · exact p.elim
theorem rc_all : RCs c bAll (rAll c.K) := by
  intro W σ G H M vs ds Q r q p
  unfold bAll at p
  split at p
  · split at p
    · rename_i xs hx
      split at p
      · rename_i ns hn
        obtain ⟨v, t, rfl, q1, rfl⟩ := q
        obtain ⟨a, us, rfl, s, t⟩ := asL_at r q1 hx
        rw [blsOf_eq hn] at t
        rw [t.bls] at s
        exact ⟨a, ns, rfl, s, p G _ H (Gr.refl _) r rfl⟩
      · exact p.elim
    · exact p.elim
  · exact p.elim
theorem rc_any : RCs c bAny (rAny c.K) := by
  intro W σ G H M vs ds Q r q p
  unfold bAny at p
  split at p
  · split at p
    · rename_i xs hx
      split at p
      · rename_i ns hn
        obtain ⟨v, t, rfl, q1, rfl⟩ := q
        obtain ⟨a, us, rfl, s, t⟩ := asL_at r q1 hx
        rw [blsOf_eq hn] at t
        rw [t.bls] at s
        exact ⟨a, ns, rfl, s, p G _ H (Gr.refl _) r rfl⟩
      · exact p.elim
    · exact p.elim
  · exact p.elim
theorem rc_min2 : RCs c bMin2 (fun xs H Q => ∃ i j, xs = [.int i, .int j] ∧ Q (.int (if j < i then j else i)) H) := by
  intro W σ G H M vs ds Q r q p
  unfold bMin2 at p
  split at p
  · exact ⟨_, _, DVs.ints (ns := [_, _]) q, p G _ H (Gr.refl _) r rfl⟩
  · exact p.elim
theorem rc_max2 : RCs c bMax2 (fun xs H Q => ∃ i j, xs = [.int i, .int j] ∧ Q (.int (if j > i then j else i)) H) := by
  intro W σ G H M vs ds Q r q p
  unfold bMax2 at p
  split at p
  · exact ⟨_, _, DVs.ints (ns := [_, _]) q, p G _ H (Gr.refl _) r rfl⟩
  · exact p.elim
theorem rc_int : RCs c bInt (fun xs H Q => (∃ i, xs = [.int i] ∧ Q (.int i) H) ∨ ∃ k, xs = [.bl k] ∧ Q (.int (if k then 1 else 0)) H) := by
  intro W σ G H M vs ds Q r q p
  unfold bInt at p
  split at p
  · exact .inl ⟨_, DVs.ints (ns := [_]) q, p G _ H (Gr.refl _) r rfl⟩
  · exact .inr ⟨_, DVs.bls (ns := [_]) q, p G _ H (Gr.refl _) r rfl⟩
  · exact p.elim
theorem rc_list : RCs c bList (fun xs H Q => ∃ p ys, xs = [.ref p] ∧ (SqL c.K H p ys ∨ SqT c.K H p ys) ∧ ∀ l, H l = none → Q (.ref l) (upd H l (.lst ys))) := by
  intro W σ G H M vs ds Q r q p
  unfold bList at p
  split at p
  · split at p
    · rename_i xs hx
      obtain ⟨v, t, rfl, q1, rfl⟩ := q
      obtain ⟨a, us, rfl, s, t⟩ := seqOf_at r q1 hx
      refine ⟨a, us, rfl, s, fun l hl => ?_⟩
      have g := Gr.newF (G := G) (o := .lst us) (r.fz.free hl)
      exact p _ _ _ g (r.newF hl) ⟨l, us, rfl, .inl (.inl upd_same), t.mono g⟩
    · exact p.elim
  · exact p.elim
theorem rc_listP : RCs c bListP (fun xs H Q => ∃ p ys, xs = [.ref p] ∧ (SqL c.K H p ys ∨ SqT c.K H p ys) ∧ ∀ l, H l = none → Q (.ref l) (upd H l (.lst ys))) := by
  intro W σ G H M vs ds Q r q p
  unfold bListP at p
  split at p
  · split at p
    · rename_i xs hx
      obtain ⟨v, t, rfl, q1, rfl⟩ := q
      obtain ⟨a, us, rfl, s, t⟩ := seqOf_at r q1 hx
      refine ⟨a, us, rfl, s, fun l hl => ?_⟩
      exact p _ _ _ (Gr.newP l) (r.newP hl (mo := .lst xs) ⟨us, upd_same, t.mono (Gr.newP l)⟩) (ptr_new r)
    · exact p.elim
  · exact p.elim
theorem rc_tuple : RCs c bTuple (fun xs H Q => ∃ p ys, xs = [.ref p] ∧ ((SqL c.K H p ys ∧ ∀ l, H l = none → Q (.ref l) (upd H l (.tup ys))) ∨ (SqT c.K H p ys ∧ Q (.ref p) H))) := by
  intro W σ G H M vs ds Q r q p
  unfold bTuple at p
  split at p
  · obtain ⟨v, t, rfl, q1, rfl⟩ := q
    obtain ⟨a, us, rfl, s, t⟩ := q1
    exact ⟨a, us, rfl, .inr ⟨.inl (.inl (r.fz.tup s)), p G _ H (Gr.refl _) r ⟨a, us, rfl, s, t⟩⟩⟩
  · split at p
    · rename_i xs hx
      obtain ⟨v, t, rfl, q1, rfl⟩ := q
      obtain ⟨a, us, rfl, s, t⟩ := asL_at r q1 hx
      refine ⟨a, us, rfl, .inl ⟨s, fun l hl => ?_⟩⟩
      have g := Gr.newF (G := G) (o := .tup us) (r.fz.free hl)
      exact p _ _ _ g (r.newF hl) ⟨l, us, rfl, upd_same, t.mono g⟩
    · exact p.elim
  · exact p.elim
end
section
variable {X : Cx} {W : WX} {p pos apos : Pos} {e o e1 e2' : Expr} {es : List Expr} {a : AF} {fo fe : EF}
theorem call_lenDk : CallR X (.builtin "len") (fun xs H Q => ∃ p kvs, xs = [.ref p] ∧ Rd H p (.dK kvs) ∧ Q (.int (kvs.length : Nat)) H) := by
  intro pins s σ H xs us Q I r h
  obtain ⟨a, kvs, rfl, e, q⟩ := h
  rw [Vals.ref1 r]
  exact d_len I e fun t s' I' => ⟨.int kvs.length, H, I', ⟨t, rfl⟩, q⟩
theorem qlen (hg : Gl X "len") (hm : X.mg "len" = none) (ha : QA X W [e] a) (he : starEach [e] X.env = (false, eval e X.env) :: starEach [] X.env := by rfl) (hpl : (backTo pos (starEach [] X.env)).any (·.1) = false := by rfl) :
    QE X W (.Call (.Name "len" p) [e] [] pos) (eCall bLen a) := q_cb (call_len_str.or call_len_seq) rc_len hg hm ha PySem.boot_len (by decide) (by decide) he hpl
theorem qlenD (hg : Gl X "len") (hm : X.mg "len" = none) (ha : QA X W [e] a) (he : starEach [e] X.env = (false, eval e X.env) :: starEach [] X.env := by rfl) (hpl : (backTo pos (starEach [] X.env)).any (·.1) = false := by rfl) :
    QE X W (.Call (.Name "len" p) [e] [] pos) (eCall bLenD a) := q_cb call_lenDk rc_lenD hg hm ha PySem.boot_len (by decide) (by decide) he hpl
theorem qabs (hg : Gl X "abs") (hm : X.mg "abs" = none) (ha : QA X W [e] a) (he : starEach [e] X.env = (false, eval e X.env) :: starEach [] X.env := by rfl) (hpl : (backTo pos (starEach [] X.env)).any (·.1) = false := by rfl) :
    QE X W (.Call (.Name "abs" p) [e] [] pos) (eCall bAbs a) := q_cb call_abs rc_abs hg hm ha (by decide +kernel) (by decide) (by decide) he hpl
theorem qsum (hc : X.calm = true) (hg : Gl X "sum") (hm : X.mg "sum" = none) (ha : QA X W [e] a) (he : starEach [e] X.env = (false, eval e X.env) :: starEach [] X.env := by rfl) (hpl : (backTo pos (starEach [] X.env)).any (·.1) = false := by rfl) :
    QE X W (.Call (.Name "sum" p) [e] [] pos) (eCall bSum a) := q_cb (cr_sum hc) rc_sum hg hm ha (by decide +kernel) (by decide) (by decide) he hpl
theorem qall (hc : X.calm = true) (hg : Gl X "all") (hm : X.mg "all" = none) (ha : QA X W [e] a) (he : starEach [e] X.env = (false, eval e X.env) :: starEach [] X.env := by rfl) (hpl : (backTo pos (starEach [] X.env)).any (·.1) = false := by rfl) :
    QE X W (.Call (.Name "all" p) [e] [] pos) (eCall bAll a) := q_cb (cr_all hc) rc_all hg hm ha (by decide +kernel) (by decide) (by decide) he hpl
theorem qany (hc : X.calm = true) (hg : Gl X "any") (hm : X.mg "any" = none) (ha : QA X W [e] a) (he : starEach [e] X.env = (false, eval e X.env) :: starEach [] X.env := by rfl) (hpl : (backTo pos (starEach [] X.env)).any (·.1) = false := by rfl) :
    QE X W (.Call (.Name "any" p) [e] [] pos) (eCall bAny a) := q_cb (cr_any hc) rc_any hg hm ha (by decide +kernel) (by decide) (by decide) he hpl
theorem qmin2 (hc : X.calm = true) (hg : Gl X "min") (hm : X.mg "min" = none) (ha : QA X W [e1, e2'] a) (he : starEach [e1, e2'] X.env = (false, eval e1 X.env) :: starEach [e2'] X.env := by rfl) (hpl : (backTo pos (starEach [e2'] X.env)).any (·.1) = false := by rfl) :
    QE X W (.Call (.Name "min" p) [e1, e2'] [] pos) (eCall bMin2 a) := q_cb (call_min2 hc) rc_min2 hg hm ha (by decide +kernel) (by decide) (by decide) he hpl
theorem qmax2 (hc : X.calm = true) (hg : Gl X "max") (hm : X.mg "max" = none) (ha : QA X W [e1, e2'] a) (he : starEach [e1, e2'] X.env = (false, eval e1 X.env) :: starEach [e2'] X.env := by rfl) (hpl : (backTo pos (starEach [e2'] X.env)).any (·.1) = false := by rfl) :
    QE X W (.Call (.Name "max" p) [e1, e2'] [] pos) (eCall bMax2 a) := q_cb (call_max2 hc) rc_max2 hg hm ha (by decide +kernel) (by decide) (by decide) he hpl
theorem qint1 (hg : Gl X "int") (hm : X.mg "int" = none) (ha : QA X W [e] a) (he : starEach [e] X.env = (false, eval e X.env) :: starEach [] X.env := by rfl) (hpl : (backTo pos (starEach [] X.env)).any (·.1) = false := by rfl) :
    QE X W (.Call (.Name "int" p) [e] [] pos) (eCall bInt a) := q_ct call_int1 rc_int hg hm ha (by decide +kernel) (by decide) (by decide) he hpl
theorem qlist (hg : Gl X "list") (hm : X.mg "list" = none) (ha : QA X W [e] a) (he : starEach [e] X.env = (false, eval e X.env) :: starEach [] X.env := by rfl) (hpl : (backTo pos (starEach [] X.env)).any (·.1) = false := by rfl) :
    QE X W (.Call (.Name "list" p) [e] [] pos) (eCall bList a) := q_ct call_list_of rc_list hg hm ha (by decide +kernel) (by decide) (by decide) he hpl
theorem qlistP (hg : Gl X "list") (hm : X.mg "list" = none) (ha : QA X W [e] a) (he : starEach [e] X.env = (false, eval e X.env) :: starEach [] X.env := by rfl) (hpl : (backTo pos (starEach [] X.env)).any (·.1) = false := by rfl) :
    QE X W (.Call (.Name "list" p) [e] [] pos) (eCall bListP a) := q_ct call_list_of rc_listP hg hm ha (by decide +kernel) (by decide) (by decide) he hpl
theorem qtuple (hg : Gl X "tuple") (hm : X.mg "tuple" = none) (ha : QA X W [e] a) (he : starEach [e] X.env = (false, eval e X.env) :: starEach [] X.env := by rfl) (hpl : (backTo pos (starEach [] X.env)).any (·.1) = false := by rfl) :
    QE X W (.Call (.Name "tuple" p) [e] [] pos) (eCall bTuple a) := q_ct call_tuple_of rc_tuple hg hm ha (by decide +kernel) (by decide) (by decide) he hpl
end

/-! ### isinstance of built-in types -/
def tyName (M : Mem) : D → Option String
  | .non => some "NoneType"
  | .bl _ => some "bool"
  | .int _ => some "int"
  | .str _ => some "str"
  | .tup _ => some "tuple"
  | .lst _ => some "list"
  | .dK _ => some "dict"
  | .ptr k => match M[k]? with
    | some (.lst _) => some "list"
    | some (.dK _) => some "dict"
    | some (.dT _) => some "dict"
    | _ => none
  | _ => none
def tyNames : List String := ["NoneType", "bool", "int", "str", "tuple", "list", "dict"]
def isTy (a b : String) : Bool := a == b || (a == "bool" && b == "int")
theorem kit_all : ∀ a ∈ tyNames, ∀ b ∈ ["bool", "int", "str", "tuple", "list", "dict"], kitB a b = some (isTy a b) := by decide +kernel
theorem tyName_in {M : Mem} {d : D} {t : String} (h : tyName M d = some t) : t ∈ tyNames := by
  unfold tyName at h
  split at h <;> first | (cases h; simp [tyNames]) | (split at h <;> first | (cases h; simp [tyNames]) | cases h) | cases h
theorem tyName_at {c : Cn} {G : Gd} {H : Hp} {M : Mem} {d : D} {v : V} {t : String} (r : Rep c G H M) (q : DV c G d v) (h : tyName M d = some t) : TyX c.K H v (.type t) := by
  unfold tyName at h
  split at h
  · cases h; rw [show v = _ from q]; exact .base .non
  · cases h; rw [show v = _ from q]; exact .base (.bl _)
  · cases h; rw [show v = _ from q]; exact .base (.int _)
  · cases h; rw [show v = _ from q]; exact .base (.str _)
  · cases h; obtain ⟨a, vs, rfl, s, _⟩ := q; exact .base (.tup (r.fz.tup s))
  · cases h
    obtain ⟨a, vs, rfl, s, _⟩ := q
    rcases r.fz.sqL s with (z | ⟨o, z⟩) | ⟨o, its, n, hk, hc, _⟩
    · exact .base (.lst z)
    · exact .base (.frz z)
    · exact .kList hk hc
  · cases h
    obtain ⟨a, vs, rfl, s, _⟩ := q
    rcases r.fz _ _ s with z | ⟨_, o, z⟩
    · exact .base (.dK z)
    · exact .fDict z
  · rename_i k
    split at h
    · rename_i ds ek
      cases h
      obtain ⟨a, e1, rfl⟩ := q
      obtain ⟨vs, hu, _⟩ := r.mem k _ a ek e1
      exact .base (.lst hu)
    · rename_i ds ek
      cases h
      obtain ⟨a, e1, rfl⟩ := q
      obtain ⟨vs, hu, _⟩ := r.mem k _ a ek e1
      exact .base (.dK hu)
    · rename_i ds ek
      cases h
      obtain ⟨a, e1, rfl⟩ := q
      obtain ⟨vs, hu, _⟩ := r.mem k _ a ek e1
      exact .base (.dT hu)
    · cases h
  · cases h
end QL
end
section
set_option Elab.async false
set_option linter.all false
set_option maxRecDepth 100000
set_option maxHeartbeats 4000000
set_option autoImplicit false
/-! QLst: lists that change, texts joined and split, copies of dicts, chained compares. -/
namespace QL
open PySem PySem.Spec L2
open Classical

/-! ### xs[i] = v, xs[i] += v -/
def lset (o i v : D) (M : Mem) : Option Mem := match o with
  | .ptr k => match M[k]? with
    | some (.lst ds) => match i with
      | .int j => match ixN ds.length j with
        | some n => some (M.set k (.lst (ds.set n v)))
        | none => none
      | _ => none
    | _ => none
  | _ => none
theorem DVs.set {c : Cn} {G : Gd} {d : D} {v : V} (q : DV c G d v) : ∀ {ds : List D} {vs : List V} (n : Nat), DVs c G ds vs → DVs c G (ds.set n d) (vs.set n v)
  | [], _, n, h => by rw [show _ = ([] : List V) from h]; exact rfl
  | e :: r, _, 0, h => by
    obtain ⟨u, t, rfl, h1, h2⟩ := h
    exact ⟨v, t, rfl, q, h2⟩
  | e :: r, _, n + 1, h => by
    obtain ⟨u, t, rfl, h1, h2⟩ := h
    exact ⟨u, t.set n v, rfl, h1, DVs.set q n h2⟩
theorem lset_at {c : Cn} {G : Gd} {H : Hp} {M M' : Mem} {o i v : D} {x y w : V} {Q : Hp → Prop} (r : Rep c G H M) (qo : DV c G o x) (qi : DV c G i y) (qv : DV c G v w) (h : lset o i v M = some M') (hQ : ∀ H', Rep c G H' M' → Q H') : rSetL x y w H Q := by
  unfold lset at h
  split at h
  · rename_i k
    split at h
    · rename_i ds ek
      split at h
      · rename_i j
        split at h
        · rename_i n hn
          cases h
          obtain ⟨a, e1, rfl⟩ := qo
          cases (show y = _ from qi)
          obtain ⟨vs, hu, q⟩ := r.mem k _ a ek e1
          exact ⟨a, vs, j, n, rfl, rfl, hu, by rw [q.length]; exact hn, hQ _ (r.write ek e1 rfl ⟨_, upd_same, q.set qv n⟩)⟩
        · cases h
      · cases h
    · cases h
  · cases h
def gSubL (o i : EF) : GF := fun d S M => (o S M).bind fun x M1 => (i S M1).bind fun y M2 => match lset x y d M2 with
  | some M3 => .ok S M3
  | none => .bad
section
variable {X : Cx} {W : WX} {pos apos tpos : Pos} {o i e : Expr} {es : List Expr} {fo fi fe : EF} {a : AF}
theorem qg_subL (ho : QE X W o fo) (hi : QE X W i fi)
    (ha : ∀ v, assign (.Subscript o i pos) X.env v = (do
      let ov ← holding [v] (eval o X.env)
      let iv ← holding [v, ov] (eval i X.env)
      standAt pos
      holding [v, ov, iv] (setItem ov iv v)
      release [v, ov, iv] []) := by intro _; rfl) : QG X W (.Subscript o i pos) (gSubL fo fi) := PG.imp (pg_sub ho hi set_list ha) fun v σ H Q h => by
  obtain ⟨G, S, M, d, r, s, q, p⟩ := h
  refine ⟨G, S, M, r, s, (Post.bind (rel := DV (cn X)) p).imp fun x H1 ⟨G1, dx, M1, g1, r1, q1, p1⟩ => ?_⟩
  refine ⟨G1, S, M1, r1, s.mono g1, (Post.bind (rel := DV (cn X)) p1).imp fun y H2 ⟨G2, dy, M2, g2, r2, q2, p2⟩ => ?_⟩
  split at p2
  · rename_i M3 hM
    exact lset_at r2 (q1.mono g2) q2 ((q.mono g1).mono g2) hM fun H' r' => p2 G2 σ H' (Gr.refl _) r' ((s.mono g1).mono g2)
  · exact p2.elim
theorem get_list : PGet X (rIxL X.K) := by
  rintro pins s σ H x y v u Q I rx ry ⟨a, xs, k, w, rfl, rfl, lies, at_k, post⟩
  cases rx
  obtain ⟨tk, rfl⟩ := ry
  obtain ⟨us, vals, pl, small⟩ := I.list lies
  obtain ⟨j, ix, at_j, _, low, high⟩ := atI_get at_k
  obtain ⟨z, here, rel⟩ := vals.get at_j
  have same := vals.length
  have fits := line63
  have done : EP X pins σ Q z s := ⟨w, H, I, rel, post⟩
  rcases Int.lt_or_le k 0 with neg | pos
  · rw [seqIndex_neg neg low] at ix
    have place : (k + (us.toArray.size : Int)).toNat = j := by
      rw [List.size_toArray, ← same]
      exact Option.some.inj ix
    exact wpAny_getItem_list_neg (x := z) pl.isList neg (by rw [List.size_toArray] <;> omega) (by omega) (by rw [place]; simpa using here) done
  · rw [seqIndex_of pos high] at ix
    have place : k.toNat = j := Option.some.inj ix
    exact wpAny_getItem_list (x := z) pl.isList pos (by omega) (by rw [place]; simpa using here) done
/-- o[i] op= v, o a list, ints -/
def kLAug (o i v : EF) (op : Int → Int → Int) : TF := fun S M => (o S M).thn S fun d M1 => (i S M1).thn S fun y M2 => match asL M2 d with
  | some ds => match y with
    | .int j => match L2.atI ds j with
      | some (.int n) => (v S M2).thn S fun z M3 => match z with
        | .int m => match lset d y (.int (op n m)) M3 with
          | some M4 => .nx S M4
          | none => .bad
        | _ => .bad
      | _ => .bad
    | _ => .bad
  | none => .bad
theorem qlaug {op : Operator} {f : Int → Int → Int} (ho : QE X W o fo) (hi : QE X W i fi) (he : QE X W e fe) (hp : PIp X op (ipI f))
    (ha : ∀ ov iv new, augStore i ov iv new = (do holding [new, ov, iv] (setItem ov iv new); release [new, ov, iv] []; pure .next) := by intros; rfl) : QS X W (.AugAssign (.Subscript o i tpos) op e pos) (kLAug fo fi fe f) := PS.imp (ps_augS ho hi get_list he hp set_list ha) fun D σ H h => by
  refine Up.imp (UpS.thn h) fun x H1 ⟨G, S, d, M, r, s, q, p⟩ => ?_
  refine ⟨G, S, M, r, s, (PostS.thnE (rel := DV (cn X)) s p).imp fun y H2 ⟨G2, dy, M2, g2, r2, q2, p2⟩ => ?_⟩
  split at p2
  · rename_i ds hds
    split at p2
    · rename_i j
      split at p2
      · rename_i n hn
        cases (show y = _ from q2)
        obtain ⟨a, vs, rfl, sq, t⟩ := asL_at r2 (q.mono g2) hds
        obtain ⟨v, ev, qv⟩ := t.atI hn
        cases (show v = _ from qv)
        refine ⟨a, vs, j, _, rfl, rfl, sq, ev, G2, S, M2, r2, s.mono g2, (PostS.thnE (rel := DV (cn X)) (s.mono g2) p2).imp fun z H3 ⟨G3, dz, M3, g3, r3, q3, p3⟩ => ?_⟩
        split at p3
        · rename_i m
          split at p3
          · rename_i M4 hM
            cases (show z = _ from q3)
            exact ⟨n, m, rfl, rfl, lset_at (i := .int j) (v := .int (f n m)) r3 ((q.mono g2).mono g3) rfl rfl hM fun H' r' => p3 G3 σ H' (Gr.refl _) r' ((s.mono g2).mono g3)⟩
          · exact p3.elim
        · exact p3.elim
      · exact p2.elim
    · exact p2.elim
  · exact p2.elim
/-! ### append, pop -/
def eApp (o v : EF) : EF := fun S M => (o S M).bind fun d M1 => match asL M1 d with
  | some _ => (v S M1).bind fun y M2 => match d with
    | .ptr k => match M2[k]? with
      | some (.lst ds) => if ds.length < sizeLine then .ok .non (M2.set k (.lst (ds ++ [y]))) else .bad
      | _ => .bad
    | _ => .bad
  | none => .bad
theorem qapp {pos : Pos} (ho : QE X W o fo) (he : QE X W e fe)
    (hbase : attributeBase o "append" X.env (eval o X.env) = eval o X.env := by rfl)
    (hfew : ((backTo pos (starEach [e] X.env)).all (fun x => !x.1) && (backToKw pos (keywordEach [] X.env)).all (fun x => x.1.isSome)
      && decide ([e].length + ([] : List Keyword).length + (if ([] : List Keyword).isEmpty then 0 else 1) < 30)) = true := by rfl)
    (hline : (apos.endLine == pos.line) = true := by rfl) (hs : starEach [e] X.env = (false, eval e X.env) :: starEach [] X.env := by rfl) (hplain : (backTo pos (starEach [] X.env)).any (·.1) = false := by rfl) :
    QE X W (.Call (.Attribute o "append" apos) [e] [] pos) (eApp fo fe) := PE.imp (pe_bm PySem.F.plainAttrs_list PySem.F.slot_list_append PySem.F.type_list_append mt_append ho (pa_cons he pa_nil hs) hbase hfew hline hs hplain) fun σ H Q h => by
  refine Up.imp (Up.bind h) fun x H1 ⟨G, S, d, M, r, s, q, p⟩ => ?_
  split at p
  · rename_i ds0 hds
    obtain ⟨a, vs, rfl, sq, t⟩ := asL_at r q hds
    refine ⟨.inl ⟨rfl, vs, sq⟩, G, S, M, r, s, (Post.bind (rel := DV (cn X)) p).imp fun y H2 ⟨G2, dy, M2, g2, r2, q2, p2⟩ => ?_⟩
    obtain ⟨k, rfl⟩ : ∃ k, d = .ptr k := by cases d <;> first | exact ⟨_, rfl⟩ | exact p2.elim
    simp only at p2
    split at p2
    · rename_i ds ek
      split at p2
      · rename_i hz
        obtain ⟨a2, e1, e2⟩ := q.mono g2
        cases e2
        obtain ⟨us, hu, q3⟩ := r2.mem k _ a ek e1
        exact ⟨a, us, y, rfl, rfl, hu, by rw [q3.length]; exact hz, p2 G2 _ _ (Gr.refl _) (r2.write ek e1 rfl ⟨_, upd_same, q3.append (DVs.one q2)⟩) rfl⟩
      · exact p2.elim
    · exact p2.elim
  · exact p.elim
def ePop (o : EF) : EF := fun S M => (o S M).bind fun d M1 => match d with
  | .ptr k => match M1[k]? with
    | some (.lst ds) => match ds[ds.length - 1]? with
      | some y => .ok y (M1.set k (.lst ds.dropLast))
      | none => .bad
    | _ => .bad
  | _ => .bad
theorem DVs.dropLast {c : Cn} {G : Gd} {ds : List D} {vs : List V} (h : DVs c G ds vs) : DVs c G ds.dropLast vs.dropLast := by
  rw [List.dropLast_eq_take, List.dropLast_eq_take, h.length]
  exact h.take _
theorem qpop {pos : Pos} (ho : QE X W o fo) (hbase : attributeBase o "pop" X.env (eval o X.env) = eval o X.env := by rfl) (hline : (apos.endLine == pos.line) = true := by rfl) :
    QE X W (.Call (.Attribute o "pop" apos) [] [] pos) (ePop fo) := PE.imp (pe_bm0 PySem.F.plainAttrs_list PySem.F.slot_list_pop PySem.F.type_list_pop mt_pop ho hbase hline) fun σ H Q h => by
  refine Up.imp (Up.bind h) fun x H1 ⟨G, S, d, M, r, s, q, p⟩ => ?_
  split at p
  · rename_i k
    split at p
    · rename_i ds ek
      split at p
      · rename_i y hy
        obtain ⟨a, e1, rfl⟩ := q
        obtain ⟨us, hu, q3⟩ := r.mem k _ a ek e1
        obtain ⟨v, ev, qv⟩ := q3.get hy
        exact ⟨.inl ⟨rfl, us, .inl (.inl hu)⟩, a, us, v, rfl, rfl, hu, by rw [q3.length]; exact ev, p G v _ (Gr.refl _) (r.write ek e1 rfl ⟨_, upd_same, q3.dropLast⟩) qv⟩
      · exact p.elim
    · exact p.elim
  · exact p.elim
/-! ### texts -/
def eJoin (o v : EF) : EF := fun S M => (o S M).bind fun d M1 => match d with
  | .str x => (v S M1).bind fun y M2 => match seqOf M2 y with
    | some ds => match strsOf ds with
      | some ys => if (ys.map (·.length)).sum + ys.length * x.length ≤ 16777216 then .ok (.str (Txt.join x ys)) M2 else .bad
      | none => .bad
    | none => .bad
  | _ => .bad
theorem qjoin (ho : QE X W o fo) (he : QE X W e fe) (hs : starEach [e] X.env = [(false, eval e X.env)] := by rfl) (hbase : attributeBase o "join" X.env (eval o X.env) = eval o X.env := by rfl) (hline : (apos.endLine == pos.line) = true := by rfl) :
    QE X W (.Call (.Attribute o "join" apos) [e] [] pos) (eJoin fo fe) := PE.imp (pe_join ho he hs hbase hline) fun σ H Q h => by
  refine Up.imp (Up.bind h) fun x H1 ⟨G, S, d, M, r, s, q, p⟩ => ?_
  split at p
  · rename_i z
    cases (show x = _ from q)
    refine ⟨⟨_, rfl⟩, G, S, M, r, s, (Post.bind (rel := DV (cn X)) p).imp fun y H2 ⟨G2, dy, M2, g2, r2, q2, p2⟩ => ?_⟩
    split at p2
    · rename_i ds hds
      split at p2
      · rename_i ys hys
        split at p2
        · rename_i hz
          obtain ⟨a, vs, rfl, sq, t⟩ := seqOf_at r2 q2 hds
          rw [strsOf_eq hys] at t
          rw [t.strs] at sq
          exact ⟨_, a, ys, rfl, rfl, sq, hz, p2 G2 _ _ (Gr.refl _) r2 rfl⟩
        · exact p2.elim
      · exact p2.elim
    · exact p2.elim
  · exact p.elim
def eSplit (o v : EF) : EF := fun S M => (o S M).bind fun d M1 => match d with
  | .str x => (v S M1).bind fun y M2 => match y with
    | .str b => if (b.length == 0) = false ∧ x.length + 2 ≤ sizeLine then .ok (.lst ((Txt.split x b).map D.str)) M2 else .bad
    | _ => .bad
  | _ => .bad
theorem DVs.ofStrs {c : Cn} {G : Gd} : ∀ ns : List Str, DVs c G (ns.map D.str) (ns.map V.str)
  | [] => rfl
  | n :: r => ⟨_, _, rfl, rfl, DVs.ofStrs r⟩
theorem qsplit (ho : QE X W o fo) (he : QE X W e fe) (hs : starEach [e] X.env = [(false, eval e X.env)] := by rfl) (hbase : attributeBase o "split" X.env (eval o X.env) = eval o X.env := by rfl) (hline : (apos.endLine == pos.line) = true := by rfl) :
    QE X W (.Call (.Attribute o "split" apos) [e] [] pos) (eSplit fo fe) := PE.imp (pe_split ho he hs hbase hline) fun σ H Q h => by
  refine Up.imp (Up.bind h) fun x H1 ⟨G, S, d, M, r, s, q, p⟩ => ?_
  split at p
  · rename_i z
    cases (show x = _ from q)
    refine ⟨⟨_, rfl⟩, G, S, M, r, s, (Post.bind (rel := DV (cn X)) p).imp fun y H2 ⟨G2, dy, M2, g2, r2, q2, p2⟩ => ?_⟩
    split at p2
    · rename_i b
      split at p2
      · rename_i hz
        cases (show y = _ from q2)
        refine ⟨_, b, rfl, rfl, hz.1, hz.2, fun p' hp => ?_⟩
        have g := Gr.newF (G := G2) (o := .lst ((Txt.split z b).map V.str)) (r2.fz.free hp)
        exact p2 _ _ _ g (r2.newF hp) ⟨p', _, rfl, .inl (.inl upd_same), DVs.ofStrs _⟩
      · exact p2.elim
    · exact p2.elim
  · exact p.elim
/-! ### dict(d), d of ints and texts -/
def bDictK (ds : List D) (M : Mem) : Res D := match ds with
  | [d] => match asK M d with
    | some kvs => .ok (.ptr M.length) (M ++ [.dK kvs])
    | none => .bad
  | _ => .bad
theorem rc_dictK {c : Cn} : RCs c bDictK (fun xs H Q => ∃ (a : Addr) (kvs : List (Key × V)), xs = [.ref a] ∧ Rd H a (.dK kvs) ∧ ∀ p, H p = none → Q (.ref p) (upd H p (.dK kvs))) := by
  intro W σ G H M vs ds Q r q p
  unfold bDictK at p
  split at p
  · split at p
    · rename_i kvs hk
      obtain ⟨v, t, rfl, q1, rfl⟩ := q
      obtain ⟨a, us, rfl, s, t⟩ := asK_at r q1 hk
      refine ⟨a, us, rfl, s, fun x hx => ?_⟩
      have g := Gr.newP (G := G) x
      exact p _ _ _ g (r.newP hx (mo := .dK kvs) ⟨us, upd_same, t.mono g⟩) (ptr_new r)
    · exact p.elim
  · exact p.elim
theorem qdictK {p : Pos} (hg : Gl X "dict") (hm : X.mg "dict" = none) (ha : QA X W [e] a) (he : starEach [e] X.env = (false, eval e X.env) :: starEach [] X.env := by rfl) (hpl : (backTo pos (starEach [] X.env)).any (·.1) = false := by rfl) :
    QE X W (.Call (.Name "dict" p) [e] [] pos) (eCall bDictK a) := q_ct call_dictD rc_dictK hg hm ha (by decide +kernel) (by decide) (by decide) he hpl
end
/-! ### chained compares -/
section
variable {X : Cx} {W : WX} {pos : Pos} {a b c : Expr} {fa fb fc : EF} {f g : D → D → Mem → Res D} {r r' : R2}
theorem qchain {op op' : CmpOp} (ho : OpR X (compareOp op) r) (ho' : OpR X (compareOp op') r') (hr : R2s (cn X) f r) (hr' : R2s (cn X) g r') (ha : QE X W a fa) (hb : QE X W b fb) (hc : QE X W c fc)
    (hm : lastMarks [op, op'] [b, c] = false := by with_unfolding_all rfl) : QE X W (.Compare a [op, op'] [b, c] pos) (e3 f g fa fb fc) := PE.imp (pe_chain ho ho' ha hb hc hm) fun _ _ _ h => up_chain hr hr' h
theorem tchain {op op' : CmpOp} (ho : OpR X (compareOp op) r) (ho' : OpR X (compareOp op') r') (hr : R2s (cn X) f r) (hr' : R2s (cn X) g r') (ha : QE X W a fa) (hb : QE X W b fb) (hc : QE X W c fc)
    (hm : lastMarks [op, op'] [b, c] = false := by with_unfolding_all rfl) : QT X W (.Compare a [op, op'] [b, c] pos) (bV (e3 f g fa fb fc)) := PT.imp (pt_chain ho ho' ha hb hc hm) fun σ H Q h => by
  have h2 := Up.bind (rel := DV (cn X)) h
  refine up_chain (Q := fun x H1 => ∃ c, x = .bl c ∧ Q c H1) hr hr' (Up.imp h2 fun v H1 ⟨G, S, d, M, r1, s, q, p⟩ => ?_)
  split at p
  · cases (show v = _ from q)
    exact ⟨_, rfl, p G _ H1 (Gr.refl _) r1 rfl⟩
  · exact p.elim
end
end QL
end
section
set_option Elab.async false
set_option linter.all false
set_option maxRecDepth 100000
set_option maxHeartbeats 4000000
set_option autoImplicit false
/-! QDc: dict comprehensions, keys ints or texts. -/
namespace QL
open PySem PySem.Spec L2
open Classical
/-- the pairs that the turns give -/
noncomputable def dcL (gd : Mem → Prop) (g : GF) (b : BF) (ke e : EF) (S0 : Sl) : List D → List (Key × D) → Mem → Res (List (Key × D))
  | [], acc, M => if gd M then .ok acc M else .bad
  | d :: r, acc, M => if gd M then match g d S0 M with
      | .ok S1 M1 => match b S1 M1 with
        | .ok true M2 => match ke S1 M2 with
          | .ok kd M3 => match keyOf kd with
            | some k => match e S1 M3 with
              | .ok y M4 => if acc.length < sizeLine then dcL gd g b ke e S0 r (putKD acc k y) M4 else .bad
              | _ => .bad
            | none => .bad
          | _ => .bad
        | .ok false M2 => dcL gd g b ke e S0 r acc M2
        | _ => .bad
      | _ => .bad
    else .bad
/-- a new dict that may change -/
noncomputable def eDc (f : IF) (g : GF) (b : BF) (ke e : EF) (vs : List Nat) : EF := fun S M => (f S M).bind fun I M1 => (dcL I.gd g b ke e (kl vs S) I.ds [] M1).bind fun ys M2 => .ok (.ptr M2.length) (M2 ++ [.dK ys])
section
variable {X : Cx} {W : WX} {tg iter kx elt : Expr} {ifs : List Expr} {scope : Scope} {own : List (Str × Nat)} {pos : Pos} {f : IF} {g : GF} {b : BF} {ke e : EF}
/-- the turns of a comprehension -/
theorem dc_turns {c : Cn} {σ : St} {vs : List Nat} {G1 : Gd} {S : Sl} {H1 : Hp} {M1 : Mem} {I : Its} {J : It} {D : Addr} {Qd : Hp → Prop} (r1 : Rep c G1 H1 M1) (s1 : SlR c G1 S σ) (w1 : Wk c G1 J I.ds I.gd) (hD : H1 D = none)
    (ne : dcL I.gd g b ke e (kl vs S) I.ds [] M1 ≠ .bad) (hq : ∀ ys M2, dcL I.gd g b ke e (kl vs S) I.ds [] M1 = .ok ys M2 → ∀ G2 H2 us, Gr0 G1 G2 → G2.P = (D, .dK us) :: G1.P → Rep c G2 H2 M2 → DVk c G2 ys us → Qd H2) :
    ∃ Wd : Nat → Nat → Hp → Prop, (∃ m, Wd 0 m (upd H1 D (.dK []))) ∧ ∀ i m H, Wd i m H →
      (J.stop i H ∧ Qd H) ∨ (J.go i H ∧ ∃ Nx : Hp → Prop, (∀ H', Nx H' → ∃ m', m' < m ∧ Wd (i + 1) m' H') ∧ ∀ x H', J.yld i H x H' → UpGv c W0 vs g x (wipe σ vs) H' fun σ2 H2 => wipe σ2 vs = wipe σ vs ∧ Up c W0 (fun _ (a b : Bool) => a = b) b σ2 H2 fun b' H3 =>
        if b' = true then Up c W0 (DV c) ke σ2 H3 fun y H4 => Up c W0 (DV c) e σ2 H4 fun z H5 => ∃ kvs k, y = kV k ∧ H5 D = some (.dK kvs) ∧ kvs.length < sizeLine ∧ Nx (upd H5 D (.dK (putK kvs k z))) else Nx H3) := by
  have nP : ∀ q ∈ G1.P, q.1 ≠ D := fun q hq z => by
    obtain ⟨h1, _⟩ := r1.pin q hq
    rw [z, hD] at h1
    cases h1
  obtain ⟨R0, eR0⟩ : ∃ R0, dcL I.gd g b ke e (kl vs S) I.ds [] M1 = R0 := ⟨_, rfl⟩
  rw [eR0] at ne hq
  refine ⟨fun i m H => m = I.ds.length - i ∧ i ≤ I.ds.length ∧ ∃ G acc us M, Gr0 G1 G ∧ G.P = (D, .dK us) :: G1.P ∧ Rep c G H M ∧ DVk c G acc us ∧ dcL I.gd g b ke e (kl vs S) (I.ds.drop i) acc M = R0,
    ⟨I.ds.length, by simp, Nat.zero_le _, { G1 with P := (D, .dK []) :: G1.P }, [], [], M1, ⟨fun _ _ h => h, [], (List.append_nil _).symm⟩, rfl, r1.pinNew hD, rfl, eR0⟩, ?_⟩
  rintro i m H ⟨rfl, hi, G, acc, us, M, g0, eP, r, q, el⟩
  by_cases hlt : i < I.ds.length
  · have ed : I.ds.drop i = I.ds[i] :: I.ds.drop (i + 1) := List.drop_eq_getElem_cons hlt
    rw [ed] at el
    unfold dcL at el
    by_cases hk : I.gd M
    · rw [if_pos hk] at el
      obtain ⟨go, yl⟩ := (w1 G H M g0 r hk).1 i hlt
      refine .inr ⟨go, fun H => ∃ G acc us M, Gr0 G1 G ∧ G.P = (D, .dK us) :: G1.P ∧ Rep c G H M ∧ DVk c G acc us ∧ dcL I.gd g b ke e (kl vs S) (I.ds.drop (i + 1)) acc M = R0,
        fun H' z => ⟨_, by omega, rfl, hlt, z⟩, fun x H' y => ?_⟩
      obtain ⟨G3, d, ed3, g3, r3, q3⟩ := yl x H' y
      rw [List.getElem?_eq_getElem hlt] at ed3
      cases ed3
      refine ⟨G3, kl vs S, M, _, r3, SlR.klw (S := S) (⟨s1.1, fun i d e => let ⟨v, z, w⟩ := s1.2 i d e; ⟨v, z, w.mono0 (g0.trans g3.toGr0)⟩⟩), q3, ?_⟩
      cases eg : g I.ds[i] (kl vs S) M with
      | rz x M2 => rw [eg] at el; exact absurd el.symm ne
      | bad => rw [eg] at el; exact absurd el.symm ne
      | ok S4 M4 =>
        rw [eg] at el
        intro G4 σ4 H4 g4 r4 ⟨s4, w4⟩
        have ww : wipe σ4 vs = wipe σ vs := by
          rw [w4]
          have id1 : ∀ (vs : List Nat) (σ : St), wipe (wipe σ vs) vs = wipe σ vs := by
            intro vs σ
            have st : ∀ (i : Nat) (τ : St), (wipe τ vs)[i]? = if i ∈ vs then (τ[i]?).map (fun _ => (none : Option V)) else τ[i]? := by
              induction vs with
              | nil => intro i τ; simp [wipe]
              | cons v vs ih =>
                intro i τ
                show ((wipe τ vs).set v none)[i]? = _
                by_cases hv : v = i
                · subst hv
                  rw [if_pos (List.mem_cons_self)]
                  rw [List.getElem?_set]
                  rw [if_pos rfl, wipe_length]
                  by_cases hl : v < τ.length
                  · rw [if_pos hl, List.getElem?_eq_getElem hl]; rfl
                  · rw [if_neg hl, List.getElem?_eq_none (by omega)]; rfl
                · rw [List.getElem?_set_ne hv, ih i τ]
                  by_cases hm : i ∈ vs
                  · rw [if_pos hm, if_pos (List.mem_cons_of_mem _ hm)]
                  · rw [if_neg hm, if_neg (by intro z; rcases List.mem_cons.mp z with z | z; exact hv z.symm; exact hm z)]
            apply List.ext_getElem?
            intro i
            rw [st i (wipe σ vs), st i σ]
            by_cases hm : i ∈ vs
            · rw [if_pos hm, if_pos hm]
              cases σ[i]? <;> rfl
            · rw [if_neg hm, if_neg hm]
          exact id1 vs σ
        refine ⟨ww, G4, S4, M4, r4, s4, ?_⟩
        have gg := (g0.trans g3.toGr0).trans g4.toGr0
        have eP4 : G4.P = (D, .dK us) :: G1.P := by rw [g4.P, g3.P, eP]
        have q4 := q.mono0 (g3.toGr0.trans g4.toGr0)
        cases eb : b S4 M4 with
        | rz x M5 => simp only [eb] at el; exact absurd el.symm ne
        | bad => simp only [eb] at el; exact absurd el.symm ne
        | ok k M5 =>
          simp only [eb] at el
          intro G5 k' H5 g5 r5 hk'
          subst hk'
          have eP5 : G5.P = (D, .dK us) :: G1.P := by rw [g5.P, eP4]
          cases k with
          | false =>
            rw [if_neg Bool.false_ne_true]
            exact ⟨G5, acc, us, M5, gg.trans g5.toGr0, eP5, r5, q4.mono g5, el⟩
          | true =>
            rw [if_pos rfl]
            refine ⟨G5, S4, M5, r5, s4.mono g5, ?_⟩
            cases ek : ke S4 M5 with
            | rz x M6 => simp only [ek] at el; exact absurd el.symm ne
            | bad => simp only [ek] at el; exact absurd el.symm ne
            | ok kd M6 =>
            simp only [ek] at el
            cases eko : keyOf kd with
            | none => simp only [eko] at el; exact absurd el.symm ne
            | some key =>
            simp only [eko] at el
            intro G6 kv H6 g6 r6 qk
            have ekv := keyOf_at qk eko
            refine ⟨G6, S4, M6, r6, (s4.mono g5).mono g6, ?_⟩
            cases ee : e S4 M6 with
            | rz x M7 => simp only [ee] at el; exact absurd el.symm ne
            | bad => simp only [ee] at el; exact absurd el.symm ne
            | ok y M7 =>
              simp only [ee] at el
              by_cases hz : acc.length < sizeLine
              · rw [if_pos hz] at el
                intro G7 v H7 g7 r7 q7
                have eP7 : G7.P = (D, .dK us) :: G1.P := by rw [g7.P, g6.P, eP5]
                have hpin := r7.pin (D, .dK us) (by rw [eP7]; exact List.mem_cons_self)
                have q5 := ((q4.mono g5).mono g6).mono g7
                refine ⟨us, key, ekv, hpin.1, by rw [kr_len q5.pr]; exact hz, ?_⟩
                have e7 : G7 = { G7 with P := (D, .dK us) :: G1.P } := by
                  obtain ⟨F7, θ7, P7⟩ := G7
                  have eP7' : P7 = (D, .dK us) :: G1.P := eP7
                  rw [eP7']
                rw [e7] at r7
                have r8 := r7.pinSet (o' := .dK (putK us key v)) nP
                have gz := gg.trans (g5.toGr0.trans (g6.toGr0.trans g7.toGr0))
                refine ⟨{ G7 with P := (D, .dK (putK us key v)) :: G1.P }, putKD acc key y, putK us key v, M7, ⟨gz.F, gz.θ⟩, rfl, r8, ?_, el⟩
                have g8 : Gr0 G7 { G7 with P := (D, .dK (putK us key v)) :: G1.P } := ⟨fun _ _ h => h, [], (List.append_nil _).symm⟩
                exact (DVk.of (kr_put q5.pr key q7)).mono0 g8
              · rw [if_neg hz] at el
                exact absurd el.symm ne
    · rw [if_neg hk] at el
      exact absurd el.symm ne
  · have ei : i = I.ds.length := by omega
    subst ei
    rw [List.drop_length] at el
    unfold dcL at el
    by_cases hk : I.gd M
    · rw [if_pos hk] at el
      exact .inl ⟨(w1 G H M g0 r hk).2 _ (Nat.le_refl _), hq _ _ el.symm G H us g0 eP r q⟩
    · rw [if_neg hk] at el
      exact absurd el.symm ne
theorem up_dc {c : Cn} {vs : List Nat} {σ : St} {H : Hp} {Q : VK} (h : Up c W (DV c) (eDc f g b ke e vs) σ H Q) : tDc (UpI c W f) (UpGv c W0 vs g) (Up c W0 (fun _ (a b : Bool) => a = b) b) (Up c W0 (DV c) ke) (Up c W0 (DV c) e) vs σ H Q := by
  obtain ⟨G, S, M, r, s, p⟩ := h
  refine ⟨G, S, M, r, s, ?_⟩
  unfold eDc at p
  cases ef : f S M with
  | bad => rw [ef] at p; exact p
  | rz x M1 => rw [ef] at p; exact p
  | ok I M1 =>
    rw [ef] at p
    intro G1 J H1 g1 r1 w1 D hD
    have p1 : Post c W σ G1 (DV c) ((dcL I.gd g b ke e (kl vs S) I.ds [] M1).bind fun ys M2 => .ok (.ptr M2.length) (M2 ++ [.dK ys])) Q := Post.mono g1 p
    have ne : dcL I.gd g b ke e (kl vs S) I.ds [] M1 ≠ .bad := fun z => by rw [z] at p1; exact p1
    refine dc_turns r1 (s.mono g1) w1 hD ne fun ys M2 ey G2 H2 us g2 eP r2 q2 => ?_
    rw [ey] at p1
    have nP : ∀ q ∈ G1.P, q.1 ≠ D := fun q hq z => by
      obtain ⟨h1, _⟩ := r1.pin q hq
      rw [z, hD] at h1
      cases h1
    have e2 : G2 = { G2 with P := (D, .dK us) :: G1.P } := by
      obtain ⟨F6, θ6, P6⟩ := G2
      have eP6' : P6 = (D, .dK us) :: G1.P := eP
      rw [eP6']
    rw [e2] at r2
    have hd := (r2.pin (D, .dK us) List.mem_cons_self).1
    have g3 : Gr0 G2 { G2 with θ := G2.θ ++ [D], P := G1.P } := ⟨fun a u e => e, [D], rfl⟩
    have r3 := r2.pinP (mo := .dK ys) nP ⟨us, hd, q2.mono0 g3⟩
    have hl : G2.θ.length = M2.length := r2.len
    refine p1 _ _ H2 ⟨g2.trans g3, rfl⟩ r3 ⟨D, ?_, rfl⟩
    show (G2.θ ++ [D])[M2.length]? = some D
    rw [← hl, List.getElem?_append_right (Nat.le_refl _), Nat.sub_self]
    rfl
theorem qdc (hc : X.calm = true) (hN : X.N.Nodup) (hi : QI X W tg iter f) (ok : BlkOk X.N X.env.scope scope own)
    (hg : ∀ (s : Shared) (H : Hp) (C : Addr) (cl : List (Str × Addr)) (fp : List Addr), QGv (X.blk s H scope (compEnvC scope cl C X.env) fp) (own.map (·.2)) tg g) (ht : ∀ (s : Shared) (H : Hp) (C : Addr) (cl : List (Str × Addr)) (fp : List Addr), QTs (X.blk s H scope (compEnvC scope cl C X.env) fp) ifs b)
    (hk : ∀ (s : Shared) (H : Hp) (C : Addr) (cl : List (Str × Addr)) (fp : List Addr), QE (X.blk s H scope (compEnvC scope cl C X.env) fp) W0 kx ke)
    (he : ∀ (s : Shared) (H : Hp) (C : Addr) (cl : List (Str × Addr)) (fp : List Addr), QE (X.blk s H scope (compEnvC scope cl C X.env) fp) W0 elt e) (hs : ∀ x, foldedSetIterable iter X.env x = pure x := by intro _; rfl) :
    QE X W (.DictComp kx elt [⟨tg, iter, ifs, 0⟩] scope pos) (eDc f g b ke e (own.map (·.2))) := PE.imp (pe_dc (g := UpGv (cn X) W0 (own.map fun p : Str × Nat => p.2) g) (tt := Up (cn X) W0 (fun _ (a b : Bool) => a = b) b) (tk := Up (cn X) W0 (DV (cn X)) ke) (tv := Up (cn X) W0 (DV (cn X)) e) hc hN hi ok hg ht hk he hs) fun _ _ _ h => up_dc h
/-- name = {..}, the name a local: the store is made before the comprehension's things are let go -/
theorem ps_setDc {i : Nat} {y : Str} {py spos : Pos} {wi : TI} {g : TG} {tt : TT} {tk tv : TE} (hc : X.calm = true) (hN : X.N.Nodup) (hy : X.N[i]? = some y) (hyl : X.env.scope.names.lookup y = some .local)
    (hsw : swapsWith (.DictComp kx elt [⟨tg, iter, ifs, 0⟩] scope pos) (some (.Name y py)) spos.line X.env = pure true) (hi : PI X tg iter wi) (ok : BlkOk X.N X.env.scope scope own)
    (hg : ∀ (s : Shared) (H : Hp) (C : Addr) (cl : List (Str × Addr)) (fp : List Addr), PG (X.blk s H scope (compEnvC scope cl C X.env) fp) tg g) (ht : ∀ (s : Shared) (H : Hp) (C : Addr) (cl : List (Str × Addr)) (fp : List Addr), PTs (X.blk s H scope (compEnvC scope cl C X.env) fp) ifs tt)
    (hk : ∀ (s : Shared) (H : Hp) (C : Addr) (cl : List (Str × Addr)) (fp : List Addr), PE (X.blk s H scope (compEnvC scope cl C X.env) fp) kx tk)
    (he : ∀ (s : Shared) (H : Hp) (C : Addr) (cl : List (Str × Addr)) (fp : List Addr), PE (X.blk s H scope (compEnvC scope cl C X.env) fp) elt tv) (hs : ∀ x, foldedSetIterable iter X.env x = pure x) :
    PS X (.Assign [.Name y py] (.DictComp kx elt [⟨tg, iter, ifs, 0⟩] scope pos) spos) (tAsg (tDc wi g tt tk tv (own.map (·.2))) (gName i)) := by
  refine ⟨fun pins s σ H Dn I hT => ?_⟩
  rw [exec_Assign_Name_used _ _ _ _ hsw]
  refine wpAny_bind (wpAny_standAt (wpAny_bind ?_))
  show wpAny _ X.A (do let _ ← comprehension (.DictComp kx elt [⟨tg, iter, ifs, 0⟩] scope pos) scope X.env (firstIterPos [⟨tg, iter, ifs, 0⟩] pos) newDict false (eval iter X.env) (some (assign (.Name y py) X.env))) _ _ s
  have hT' : tDc wi g tt tk tv (own.map (·.2)) σ H (fun x H1 => gName i x σ H1 Dn.nx) := hT
  have core := dc_core (pos := pos) (pos' := firstIterPos [⟨tg, iter, ifs, 0⟩] pos) (use := some (assign (.Name y py) X.env)) (Qf := fun _ s' => SP X pins Dn .next s') hc hN I hi ok hg ht hk he hs hT' fun Da Ca s1 m1 Ha Ia qa na fa => by
    show wpAny _ _ (assign (.Name y py) X.env (.ref Da)) _ _ _
    obtain ⟨a0, a1, a2, a3, a4, a5⟩ := fa
    refine wpAny_assign_Name (store_ok2 (v := V.ref Da) Ia hN hy (.inl hyl) rfl (fun s2 Ib ⟨c, sb, hcc⟩ => ?_) (.inr hyl))
    have ne : Ca ≠ c := by
      rcases hcc with z | z
      · rw [z]; exact a1
      · exact fun e => a4 y c z e.symm
    exact ⟨m1, na.sameBut sb ne, fun h3 sb3 => ⟨_, Ha, Ib.turned (t' := s2.toks) (fun b o hb e => (sb3.2 b hb).trans e) a0 a1 a3 a4 a5, qa⟩⟩
  exact wpAny_bind (thn core fun _ s' hq => wpAny_pure (wpAny_pure hq))
theorem qsetDc {i : Nat} {y : Str} {py spos : Pos} (hc : X.calm = true) (hN : X.N.Nodup) (hy : X.N[i]? = some y) (hyl : X.env.scope.names.lookup y = some .local)
    (hsw : swapsWith (.DictComp kx elt [⟨tg, iter, ifs, 0⟩] scope pos) (some (.Name y py)) spos.line X.env = pure true) (hi : QI X W tg iter f) (ok : BlkOk X.N X.env.scope scope own)
    (hg : ∀ (s : Shared) (H : Hp) (C : Addr) (cl : List (Str × Addr)) (fp : List Addr), QGv (X.blk s H scope (compEnvC scope cl C X.env) fp) (own.map (·.2)) tg g) (ht : ∀ (s : Shared) (H : Hp) (C : Addr) (cl : List (Str × Addr)) (fp : List Addr), QTs (X.blk s H scope (compEnvC scope cl C X.env) fp) ifs b)
    (hk : ∀ (s : Shared) (H : Hp) (C : Addr) (cl : List (Str × Addr)) (fp : List Addr), QE (X.blk s H scope (compEnvC scope cl C X.env) fp) W0 kx ke)
    (he : ∀ (s : Shared) (H : Hp) (C : Addr) (cl : List (Str × Addr)) (fp : List Addr), QE (X.blk s H scope (compEnvC scope cl C X.env) fp) W0 elt e) (hs : ∀ x, foldedSetIterable iter X.env x = pure x := by intro _; rfl) :
    QS X W (.Assign [.Name y py] (.DictComp kx elt [⟨tg, iter, ifs, 0⟩] scope pos) spos) (kAsg (eDc f g b ke e (own.map (·.2))) (gN i)) := PS.imp (ps_setDc (g := UpGv (cn X) W0 (own.map fun p : Str × Nat => p.2) g) (tt := Up (cn X) W0 (fun _ (a b : Bool) => a = b) b) (tk := Up (cn X) W0 (DV (cn X)) ke) (tv := Up (cn X) W0 (DV (cn X)) e) hc hN hy hyl hsw hi ok hg ht hk he hs) fun Dn σ H hp => by
  refine up_dc (Up.imp (UpS.thn hp) fun v H1 ⟨G, S, d, M, r, s, q, p⟩ => ?_)
  exact p G _ H1 (Gr.refl G) r (s.set q)
end
end QL
end
section
set_option Elab.async false
set_option linter.all false
set_option maxRecDepth 100000
set_option maxHeartbeats 4000000
set_option autoImplicit false
/-! QAny: rules put together where the text does not tell which kind of thing stands there. -/
namespace QL
open PySem PySem.Spec L2
open Classical

def orR {α : Type} (r1 r2 : Res α) : Res α := match r1 with
  | .bad => r2
  | r => r
def or2 (f g : D → D → Mem → Res D) : D → D → Mem → Res D := fun x y M => orR (f x y M) (g x y M)
def orC (f g : List D → Mem → Res D) : List D → Mem → Res D := fun ds M => orR (f ds M) (g ds M)
theorem orR_or {α : Type} (r1 r2 : Res α) : orR r1 r2 = r1 ∨ orR r1 r2 = r2 := by
  cases r1 with
  | ok a M => exact .inl rfl
  | rz x M => exact .inl rfl
  | bad => exact .inr rfl
theorem e2_or {f g : D → D → Mem → Res D} {a b : EF} (S : Sl) (M : Mem) : e2 (or2 f g) a b S M = e2 f a b S M ∨ e2 (or2 f g) a b S M = e2 g a b S M := by
  unfold e2
  cases a S M with
  | rz x M1 => exact .inl rfl
  | bad => exact .inl rfl
  | ok x M1 =>
    show (b S M1).bind _ = (b S M1).bind _ ∨ (b S M1).bind _ = (b S M1).bind _
    cases b S M1 with
    | rz x M1 => exact .inl rfl
    | bad => exact .inl rfl
    | ok y M2 => exact orR_or (f x y M2) (g x y M2)
theorem bV_or {e e1 e2 : EF} {S : Sl} {M : Mem} (h : e S M = e1 S M ∨ e S M = e2 S M) : bV e S M = bV e1 S M ∨ bV e S M = bV e2 S M := by
  unfold bV
  rcases h with h | h
  · exact .inl (by rw [h])
  · exact .inr (by rw [h])
theorem eCall_or {f g : List D → Mem → Res D} {a : AF} (S : Sl) (M : Mem) : eCall (orC f g) a S M = eCall f a S M ∨ eCall (orC f g) a S M = eCall g a S M := by
  unfold eCall
  cases a S M with
  | rz x M1 => exact .inl rfl
  | bad => exact .inl rfl
  | ok x M1 => exact orR_or (f x M1) (g x M1)
section
variable {X : Cx} {W : WX} {e : Expr}
theorem Up.or {α β : Type} {c : Cn} {rel : Gd → α → β → Prop} {σ : St} {H : Hp} {Q : β → Hp → Prop} {g g1 g2 : Sl → Mem → Res α} (h : ∀ S M, g S M = g1 S M ∨ g S M = g2 S M) (z : Up c W rel g σ H Q) : Up c W rel g1 σ H Q ∨ Up c W rel g2 σ H Q := by
  obtain ⟨G, S, M, r, s, p⟩ := z
  rcases h S M with e | e
  · exact .inl ⟨G, S, M, r, s, by rw [← e]; exact p⟩
  · exact .inr ⟨G, S, M, r, s, by rw [← e]; exact p⟩
theorem QE.or {g g1 g2 : EF} (h1 : QE X W e g1) (h2 : QE X W e g2) (h : ∀ S M, g S M = g1 S M ∨ g S M = g2 S M) : QE X W e g := PE.imp (PE.or h1 h2) fun _ _ _ z => z.or h
theorem QT.or {g g1 g2 : BF} (h1 : QT X W e g1) (h2 : QT X W e g2) (h : ∀ S M, g S M = g1 S M ∨ g S M = g2 S M) : QT X W e g := PT.imp (PT.or h1 h2) fun _ _ _ z => z.or h
theorem QE.e2 {f g : D → D → Mem → Res D} {a b : EF} (h1 : QE X W e (e2 f a b)) (h2 : QE X W e (QL.e2 g a b)) : QE X W e (QL.e2 (or2 f g) a b) := QE.or h1 h2 e2_or
theorem QT.e2 {f g : D → D → Mem → Res D} {a b : EF} (h1 : QT X W e (bV (e2 f a b))) (h2 : QT X W e (bV (QL.e2 g a b))) : QT X W e (bV (QL.e2 (or2 f g) a b)) := QT.or h1 h2 fun S M => bV_or (e2_or S M)
theorem QE.call {f g : List D → Mem → Res D} {a : AF} (h1 : QE X W e (eCall f a)) (h2 : QE X W e (eCall g a)) : QE X W e (eCall (orC f g) a) := QE.or h1 h2 eCall_or
end
/-! ### the rules -/
def fIxA := or2 fDIx fIx
def fInA := or2 fIn (fInG false)
def fNotInA := or2 fNotIn (fInG true)
section
variable {X : Cx} {W : WX} {pos p : Pos} {o i e : Expr} {fo fi : EF} {a : AF}
theorem qixA (hu : X.A.units + 64 < cLine) (ho : QE X W o fo) (hi : QE X W i fi) (hs : PlainIx i := by exact fun _ _ => rfl) : QE X W (.Subscript o i pos) (e2 fIxA fo fi) := (qdix (by omega) ho hi hs).e2 (qix ho hi hs)
theorem qinA (hu : X.A.units + 64 < cLine) (hi : QE X W i fi) (ho : QE X W o fo) (hm : behindInMarks .In o = false := by rfl) : QE X W (.Compare i [.In] [o] pos) (e2 fInA fi fo) := (qdin (by omega) hi ho hm).e2 (qin hm hi ho)
theorem qnotinA (hu : X.A.units + 64 < cLine) (hi : QE X W i fi) (ho : QE X W o fo) (hm : behindInMarks .NotIn o = false := by rfl) : QE X W (.Compare i [.NotIn] [o] pos) (e2 fNotInA fi fo) := (qdnotin (by omega) hi ho hm).e2 (qnotin hm hi ho)
theorem tinA (hu : X.A.units + 64 < cLine) (hi : QE X W i fi) (ho : QE X W o fo) (hm : behindInMarks .In o = false := by rfl) : QT X W (.Compare i [.In] [o] pos) (bV (e2 fInA fi fo)) := (tdin (by omega) hi ho hm).e2 (tin hm hi ho)
theorem tnotinA (hu : X.A.units + 64 < cLine) (hi : QE X W i fi) (ho : QE X W o fo) (hm : behindInMarks .NotIn o = false := by rfl) : QT X W (.Compare i [.NotIn] [o] pos) (bV (e2 fNotInA fi fo)) := (tdnotin (by omega) hi ho hm).e2 (tnotin hm hi ho)
def bLenA := orC bLen bLenD
end
end QL
end
section
set_option Elab.async false
set_option linter.all false
set_option maxRecDepth 100000
set_option maxHeartbeats 4000000
set_option autoImplicit false
/-! QSort: sorted texts, repr of small things, lists repeated, lists of other lengths compared. -/
namespace QL
open PySem PySem.Spec L2
open Classical
open PyProof.Rows (sortedS risingS ltCps_eq)

/-! ### texts in order -/
def leS (a b : Str) : Bool := !ltCps b.cps.toList a.cps.toList
theorem leS_iff {a b : Str} : leS a b = true ↔ ¬ b.cps.toList < a.cps.toList := by
  unfold leS
  rw [ltCps_eq]
  simp
theorem leS_total (a b : Str) : (leS a b || leS b a) = true := by
  rw [Bool.or_eq_true, leS_iff, leS_iff]
  by_cases h : b.cps.toList < a.cps.toList
  · exact .inr (fun z => List.lt_irrefl _ (List.lt_trans h z))
  · exact .inl h
theorem leS_trans (a b c : Str) (h1 : leS a b = true) (h2 : leS b c = true) : leS a c = true := by
  rw [leS_iff] at h1 h2 ⊢
  exact fun z => by
    have h1' : a.cps.toList ≤ b.cps.toList := h1
    have h2' : b.cps.toList ≤ c.cps.toList := h2
    exact List.le_trans h1' h2' z
theorem leS_anti {a b : Str} (h1 : leS a b = true) (h2 : leS b a = true) : a = b := by
  rw [leS_iff] at h1 h2
  have e := List.le_antisymm (show a.cps.toList ≤ b.cps.toList from h1) (show b.cps.toList ≤ a.cps.toList from h2)
  obtain ⟨⟨la⟩⟩ := a
  obtain ⟨⟨lb⟩⟩ := b
  simp at e
  rw [e]
def srt (l : List Str) : List Str := l.mergeSort leS
theorem srt_perm (l : List Str) : (srt l).Perm l := List.mergeSort_perm _ _
theorem srt_pw (l : List Str) : (srt l).Pairwise fun a b => leS a b = true := List.pairwise_mergeSort leS_trans leS_total l
theorem pw_rising : ∀ (l : List Str) (p : Str), risingS p l = true → (p :: l).Pairwise fun a b => leS a b = true
  | [], p, _ => List.pairwise_singleton _ _
  | x :: r, p, h => by
    have h' : (leS p x && risingS x r) = true := h
    rw [Bool.and_eq_true] at h'
    have ih := pw_rising r x h'.2
    refine List.pairwise_cons.mpr ⟨fun y hy => ?_, ih⟩
    rcases List.mem_cons.mp hy with z | z
    · rw [z]; exact h'.1
    · exact leS_trans _ _ _ h'.1 ((List.pairwise_cons.mp ih).1 y z)
theorem pw_sortedS : ∀ l : List Str, sortedS l = true → l.Pairwise fun a b => leS a b = true
  | [], _ => List.Pairwise.nil
  | x :: r, h => pw_rising r x h
theorem srt_eq {l ys : List Str} (hp : ys.Perm l) (hs : sortedS ys = true) : ys = srt l :=
  List.Perm.eq_of_pairwise (le := fun a b => leS a b = true) (fun _ _ _ _ h1 h2 => leS_anti h1 h2) (pw_sortedS _ hs) (srt_pw l) (hp.trans (srt_perm l).symm)
/-- sorted(xs), fewer than 64 texts -/
def bSortS (ds : List D) (M : Mem) : Res D := match ds with
  | [d] => match asL M d with
    | some xs => match strsOf xs with
      | some ns => if ns.length < 64 then .ok (.lst ((srt ns).map D.str)) M else .bad
      | none => .bad
    | none => .bad
  | _ => .bad
def txts : List (Key × D) → Option (List Str)
  | [] => some []
  | (.inr x, _) :: r => (txts r).map (x :: ·)
  | _ => none
theorem txts_eq : ∀ {kvs : List (Key × D)} {ks : List Str}, txts kvs = some ks → kvs.map (·.1) = ks.map Sum.inr
  | [], ks, h => by cases h; rfl
  | (.inr x, d) :: r, ks, h => by
    unfold txts at h
    cases e : txts r with
    | none => rw [e] at h; cases h
    | some t =>
      rw [e] at h
      cases h
      simp [txts_eq e]
  | (.inl i, d) :: r, ks, h => by cases h
/-- sorted(d), fewer than 64 keys, texts -/
def bSortD (ds : List D) (M : Mem) : Res D := match ds with
  | [d] => match asK M d with
    | some kvs => match txts kvs with
      | some ns => if ns.length < 64 then .ok (.lst ((srt ns).map D.str)) M else .bad
      | none => .bad
    | none => .bad
  | _ => .bad
section
variable {c : Cn}
theorem post_strs {W : WX} {σ : St} {G : Gd} {H : Hp} {M : Mem} {p : Addr} {ys : List Str} {Q : VK} (r : Rep c G H M) (hp : H p = none) (q : Post c W σ G (DV c) (.ok (.lst (ys.map D.str)) M) Q) : Q (.ref p) (upd H p (.lst (ys.map V.str))) :=
  q _ _ _ (Gr.newF (r.fz.free hp)) (r.newF hp) ⟨p, _, rfl, .inl (.inl upd_same), DVs.ofStrs _⟩
theorem rc_sortS : RCs c bSortS (rSortedS c.K) := by
  intro W σ G H M vs ds Q r q p
  unfold bSortS at p
  split at p
  · split at p
    · rename_i xs hx
      split at p
      · rename_i ns hn
        split at p
        · rename_i hz
          obtain ⟨v, t, rfl, q1, rfl⟩ := q
          obtain ⟨a, us, rfl, s, t⟩ := asL_at r q1 hx
          rw [strsOf_eq hn] at t
          rw [t.strs] at s
          exact ⟨a, ns, rfl, s, hz, fun ys p' hp hs hn' => by rw [srt_eq hp hs]; exact post_strs r hn' p⟩
        · exact p.elim
      · exact p.elim
    · exact p.elim
  · exact p.elim
theorem keys_of {G : Gd} : ∀ {kvs : List (Key × D)} {ws : List (Key × V)}, Paired (KR c G) kvs ws → ws.map (·.1) = kvs.map (·.1)
  | _, _, .nil => rfl
  | _, _, .cons r t => by rw [List.map_cons, List.map_cons, r.1, keys_of t]
theorem rc_sortD : RCs c bSortD (fun xs H Q => ∃ (a : Addr) (kvs : List (Key × V)) (ks : List Str), xs = [.ref a] ∧ Rd H a (.dK kvs) ∧ kvs.map (·.1) = ks.map Sum.inr ∧ ks.length < 64 ∧
    ∀ ys p, ys.Perm ks → sortedS ys = true → H p = none → Q (.ref p) (upd H p (.lst (ys.map V.str)))) := by
  intro W σ G H M vs ds Q r q p
  unfold bSortD at p
  split at p
  · split at p
    · rename_i kvs hx
      split at p
      · rename_i ns hn
        split at p
        · rename_i hz
          obtain ⟨v, t, rfl, q1, rfl⟩ := q
          obtain ⟨a, us, rfl, s, t⟩ := asK_at r q1 hx
          exact ⟨a, us, ns, rfl, s, (keys_of t.pr).trans (txts_eq hn), hz, fun ys p' hp hs hn' => by rw [srt_eq hp hs]; exact post_strs r hn' p⟩
        · exact p.elim
      · exact p.elim
    · exact p.elim
  · exact p.elim
end
section
variable {X : Cx} {W : WX} {p pos : Pos} {e : Expr} {a : AF}
def bSortA := orC bSortS bSortD
theorem qsortS (hg : Gl X "sorted") (hm : X.mg "sorted" = none) (ha : QA X W [e] a) (he : starEach [e] X.env = (false, eval e X.env) :: starEach [] X.env := by rfl) (hpl : (backTo pos (starEach [] X.env)).any (·.1) = false := by rfl) :
    QE X W (.Call (.Name "sorted" p) [e] [] pos) (eCall bSortS a) := q_cb cr_sortedS rc_sortS hg hm ha (by decide +kernel) (by decide) (by decide) he hpl
theorem qsortD (hc : X.calm = true) (hg : Gl X "sorted") (hm : X.mg "sorted" = none) (ha : QA X W [e] a) (he : starEach [e] X.env = (false, eval e X.env) :: starEach [] X.env := by rfl) (hpl : (backTo pos (starEach [] X.env)).any (·.1) = false := by rfl) :
    QE X W (.Call (.Name "sorted" p) [e] [] pos) (eCall bSortD a) := q_cb (call_sortedD hc) rc_sortD hg hm ha (by decide +kernel) (by decide) (by decide) he hpl
theorem qsortA (hc : X.calm = true) (hg : Gl X "sorted") (hm : X.mg "sorted" = none) (ha : QA X W [e] a) (he : starEach [e] X.env = (false, eval e X.env) :: starEach [] X.env := by rfl) (hpl : (backTo pos (starEach [] X.env)).any (·.1) = false := by rfl) :
    QE X W (.Call (.Name "sorted" p) [e] [] pos) (eCall bSortA a) := (qsortS hg hm ha he hpl).call (qsortD hc hg hm ha he hpl)
theorem qlenA (hg : Gl X "len") (hm : X.mg "len" = none) (ha : QA X W [e] a) (he : starEach [e] X.env = (false, eval e X.env) :: starEach [] X.env := by rfl) (hpl : (backTo pos (starEach [] X.env)).any (·.1) = false := by rfl) :
    QE X W (.Call (.Name "len" p) [e] [] pos) (eCall bLenA a) := (qlen hg hm ha he hpl).call (qlenD hg hm ha he hpl)
end
/-! ### repr of None, a truth, an int -/
def bRepr0 (ds : List D) (M : Mem) : Res D := match ds with
  | [.non] => .ok (.str "None") M
  | [.bl b] => .ok (.str (if b then "True" else "False")) M
  | [.int i] => if i.natAbs.log2 < 1920 then .ok (.str (toString i)) M else .bad
  | _ => .bad
def rRepr0 : List V → Hp → VK → Prop := fun xs H Q => (xs = [.non] ∧ Q (.str "None") H) ∨ (∃ b, xs = [.bl b] ∧ Q (.str (if b then "True" else "False")) H) ∨ ∃ i, xs = [.int i] ∧ i.natAbs.log2 < 1920 ∧ Q (.str (toString i)) H
theorem call_repr0 {X : Cx} : CallR X (.builtin "repr") rRepr0 := by
  intro pins s σ H xs us Q I r h
  rcases h with ⟨rfl, q⟩ | ⟨b, rfl, q⟩ | ⟨i, rfl, hz, q⟩
  · obtain ⟨u, rfl, rfl⟩ := vals1 r
    exact PySem.P.repr_of_none ⟨.str _, H, I.tok _, ⟨_, rfl⟩, q⟩
  · obtain ⟨u, rfl, rfl⟩ := vals1 r
    exact PySem.P.repr_of_bool ⟨.str _, H, I.tok _, ⟨_, rfl⟩, q⟩
  · obtain ⟨u, rfl, t, rfl⟩ := vals1 r
    exact PySem.P.repr_of_int hz ⟨.str _, H, I.tok _, ⟨_, rfl⟩, q⟩
theorem rc_repr0 {c : Cn} : RCs c bRepr0 rRepr0 := by
  intro W σ G H M vs ds Q r q p
  unfold bRepr0 at p
  split at p
  · obtain ⟨v, t, rfl, q1, rfl⟩ := q
    cases (show v = _ from q1)
    exact .inl ⟨rfl, p G _ H (Gr.refl _) r rfl⟩
  · exact .inr (.inl ⟨_, DVs.bls (ns := [_]) q, p G _ H (Gr.refl _) r rfl⟩)
  · split at p
    · rename_i hz
      exact .inr (.inr ⟨_, DVs.ints (ns := [_]) q, hz, p G _ H (Gr.refl _) r rfl⟩)
    · exact p.elim
  · exact p.elim
theorem qrepr0 {X : Cx} {W : WX} {p pos : Pos} {e : Expr} {a : AF} (hg : Gl X "repr") (hm : X.mg "repr" = none) (ha : QA X W [e] a) (he : starEach [e] X.env = (false, eval e X.env) :: starEach [] X.env := by rfl) (hpl : (backTo pos (starEach [] X.env)).any (·.1) = false := by rfl) :
    QE X W (.Call (.Name "repr" p) [e] [] pos) (eCall bRepr0 a) := q_cb call_repr0 rc_repr0 hg hm ha (by decide +kernel) (by decide) (by decide) he hpl
/-! ### xs * n -/
def fRep (x y : D) (M : Mem) : Res D := match x with
  | .ptr k => match M[k]? with
    | some (.lst ds) => match y with
      | .int n => if -(2 ^ 63) ≤ n ∧ n < 2 ^ 63 ∧ ds.length * n.toNat ≤ sizeLine then .ok (.lst (List.replicate n.toNat ds).flatten) M else .bad
      | _ => .bad
    | _ => .bad
  | _ => .bad
theorem DVs.rep {c : Cn} {G : Gd} {ds : List D} {vs : List V} (q : DVs c G ds vs) : ∀ n : Nat, DVs c G (List.replicate n ds).flatten (List.replicate n vs).flatten
  | 0 => rfl
  | n + 1 => by
    rw [List.replicate_succ, List.replicate_succ, List.flatten_cons, List.flatten_cons]
    exact q.append (DVs.rep q n)
theorem r2_rep {c : Cn} : R2s c fRep rRep := by
  intro W σ G H M x y dx dy Q r qx qy p
  unfold fRep at p
  split at p
  · rename_i k
    split at p
    · rename_i ds ek
      split at p
      · rename_i n
        split at p
        · rename_i hz
          obtain ⟨a, e1, rfl⟩ := qx
          obtain ⟨vs, hu, q⟩ := r.mem k _ a ek e1
          cases (show y = _ from qy)
          refine ⟨a, n, vs, rfl, rfl, hu, hz.1, hz.2.1, by rw [q.length]; exact hz.2.2, fun p' hp => ?_⟩
          have g := Gr.newF (G := G) (o := .lst (List.replicate n.toNat vs).flatten) (r.fz.free hp)
          exact p _ _ _ g (r.newF hp) ⟨p', _, rfl, .inl (.inl upd_same), (q.rep _).mono g⟩
        · exact p.elim
      · exact p.elim
    · exact p.elim
  · exact p.elim
theorem qrep {X : Cx} {W : WX} {pos : Pos} {a b : Expr} {fa fb : EF} (ha : QE X W a fa) (hb : QE X W b fb) : QE X W (.BinOp a .Mult b pos) (e2 fRep fa fb) := q_op op_rep r2_rep ha hb
/-! ### lists of other lengths -/
def rLen (K : PySem.W.Frag) (v : Bool) : R2 := fun x y H Q => ∃ l b xs ys, x = .ref l ∧ y = .ref b ∧ SqL K H l xs ∧ SqL K H b ys ∧ xs.length ≠ ys.length ∧ Q (.bl v) H
theorem op_eqLen {X : Cx} (hu : X.A.units + 64 < cLine) : OpR X (compareOp .Eq) (rLen X.K false) := by
  intro pins s σ H x y v u Q I rx ry h
  obtain ⟨l, b, xs, ys, rfl, rfl, h1, h2, hz, q⟩ := h
  cases rx
  cases ry
  obtain ⟨its, r1, p1, z1⟩ := I.list h1
  obtain ⟨jts, r2, p2, z2⟩ := I.list h2
  have l1 := r1.length
  have l2 := r2.length
  obtain ⟨⟨c1, d1, a1, s1⟩, o1, e1, n1, f1⟩ := p1.isList
  obtain ⟨⟨c2, d2, a2, s2⟩, o2, e2, n2, f2⟩ := p2.isList
  simp only at e1 f1 e2 f2
  subst e1 f1 e2 f2
  have hne : (its.toArray.size != jts.toArray.size) = true := by
    rw [bne_iff_ne, List.size_toArray, List.size_toArray]
    omega
  exact wpAny_richCompare_same_room (op := .Eq) ⟨_, o1, rfl⟩ ⟨_, o2, rfl⟩ PySem.F.slot_list_eq (call_meets PySem.F.slot_list_eq ⟨_, o1, rfl⟩ PySem.F.entry_list_eq (PySem.F.args_list_eq_2 _ _) (SeqAt.list_eq_lengthsAt l b its.toArray jts.toArray n1 n2 _ _ _ _ hne)
    ⟨o1, o2, show Value.bool false ≠ Value.notImplemented ∧ EP X pins σ Q (.bool false) s from ⟨(fun x => nomatch x), .bl false, H, I, rfl, q⟩⟩) (by omega)
def fEqLen (x y : D) (M : Mem) : Res D := match asL M x, asL M y with
  | some xs, some ys => if xs.length ≠ ys.length then .ok (.bl false) M else .bad
  | _, _ => .bad
theorem r2_eqLen {c : Cn} : R2s c fEqLen (rLen c.K false) := by
  intro W σ G H M x y dx dy Q r qx qy p
  unfold fEqLen at p
  split at p
  · rename_i xs ys hx hy
    split at p
    · rename_i hz
      obtain ⟨a, us, rfl, s1, t1⟩ := asL_at r qx hx
      obtain ⟨b, ws, rfl, s2, t2⟩ := asL_at r qy hy
      exact ⟨a, b, us, ws, rfl, rfl, s1, s2, by rw [t1.length, t2.length]; exact hz, p G _ H (Gr.refl _) r rfl⟩
    · exact p.elim
  · exact p.elim
def fEqA := or2 fEq fEqLen
section
variable {X : Cx} {W : WX} {pos : Pos} {a b : Expr} {fa fb : EF}
theorem qeqA (hu : X.A.units + 64 < cLine) (ha : QE X W a fa) (hb : QE X W b fb) : QE X W (.Compare a [.Eq] [b] pos) (e2 fEqA fa fb) := (qeq hu ha hb).e2 (q_cmp (op_eqLen hu) r2_eqLen (nomark _) ha hb)
theorem tEqA (hu : X.A.units + 64 < cLine) (ha : QE X W a fa) (hb : QE X W b fb) : QT X W (.Compare a [.Eq] [b] pos) (bV (e2 fEqA fa fb)) := (tEq hu ha hb).e2 (qt_cmp (op_eqLen hu) r2_eqLen (nomark _) ha hb)
end
end QL
end
section
set_option Elab.async false
set_option linter.all false
set_option maxRecDepth 100000
set_option maxHeartbeats 4000000
set_option autoImplicit false
/-! QIs: is None, is not None. -/
namespace QL
open PySem PySem.Spec L2
open Classical
theorem un1 {n : Nat} (h : n + 64 < cLine) : n + 1 < cLine := by omega
def isNo (x : D) : Option Bool := match x with
  | .non => some true
  | .raw _ => none
  | _ => some false
def fIs0 (x y : D) (M : Mem) : Res D := match y with
  | .non => match isNo x with
    | some b => .ok (.bl b) M
    | none => .bad
  | _ => .bad
def fNot0 (x y : D) (M : Mem) : Res D := match y with
  | .non => match isNo x with
    | some b => .ok (.bl (!b)) M
    | none => .bad
  | _ => .bad
theorem isNo_at {c : Cn} {G : Gd} {d : D} {v : V} {b : Bool} (h : isNo d = some b) (q : DV c G d v) : decide (v = .non) = b := by
  by_cases e : d = .non
  · subst e
    cases (show v = _ from q)
    cases h
    rfl
  · by_cases r : ∃ u, d = .raw u
    · obtain ⟨u, rfl⟩ := r
      cases h
    · have n := DV.notNon e (fun u z => r ⟨u, z⟩) q
      have hb : b = false := by
        cases d <;> first | (cases h; rfl) | (exact absurd rfl e) | (exact absurd ⟨_, rfl⟩ r)
      rw [hb]
      exact decide_eq_false n
theorem r2_is0 {c : Cn} : R2s c fIs0 (fun x y H Q => y = .non ∧ Q (.bl (decide (x = .non))) H) := by
  intro W σ G H M x y dx dy Q r qx qy p
  unfold fIs0 at p
  split at p
  · split at p
    · rename_i b hb
      cases (show y = _ from qy)
      exact ⟨rfl, by rw [isNo_at hb qx]; exact p G _ H (Gr.refl _) r rfl⟩
    · exact p.elim
  · exact p.elim
theorem r2_not0 {c : Cn} : R2s c fNot0 (fun x y H Q => y = .non ∧ Q (.bl (!decide (x = .non))) H) := by
  intro W σ G H M x y dx dy Q r qx qy p
  unfold fNot0 at p
  split at p
  · split at p
    · rename_i b hb
      cases (show y = _ from qy)
      exact ⟨rfl, by rw [isNo_at hb qx]; exact p G _ H (Gr.refl _) r rfl⟩
    · exact p.elim
  · exact p.elim
section
variable {X : Cx} {W : WX} {pos : Pos} {a b : Expr} {fa fb : EF}
theorem qis (ha : QE X W a fa) (hb : QE X W b fb) : QE X W (.Compare a [.Is] [b] pos) (e2 fIs0 fa fb) := q_cmp op_isN r2_is0 (nomark _) ha hb
theorem qisnot (ha : QE X W a fa) (hb : QE X W b fb) : QE X W (.Compare a [.IsNot] [b] pos) (e2 fNot0 fa fb) := q_cmp op_notN r2_not0 (nomark _) ha hb
theorem tis (ha : QE X W a fa) (hb : QE X W b fb) : QT X W (.Compare a [.Is] [b] pos) (bV (e2 fIs0 fa fb)) := qt_cmp op_isN r2_is0 (nomark _) ha hb
theorem tisnot (ha : QE X W a fa) (hb : QE X W b fb) : QT X W (.Compare a [.IsNot] [b] pos) (bV (e2 fNot0 fa fb)) := qt_cmp op_notN r2_not0 (nomark _) ha hb
end
end QL
end
section
set_option Elab.async false
set_option linter.all false
set_option maxRecDepth 100000
set_option maxHeartbeats 4000000
set_option autoImplicit false
/-! QSet: sets of texts: made of a list, put in order. -/
namespace QL
open PySem PySem.Spec L2
open Classical
open PySem.Froz (SD sObj TxOk addTx tailTx)
/-- the different ones, each where it first stands -/
def addNew (acc : List Str) (x : Str) : List Str := if x ∈ acc then acc else x :: acc
def dedup (l : List Str) : List Str := l.foldl addNew []
theorem addNew_nodup {acc : List Str} {x : Str} (h : acc.Nodup) : (addNew acc x).Nodup := by
  unfold addNew
  split
  · exact h
  · rename_i hx
    exact List.nodup_cons.mpr ⟨hx, h⟩
theorem addNew_mem {acc : List Str} {x y : Str} : y ∈ addNew acc x ↔ y = x ∨ y ∈ acc := by
  unfold addNew
  split
  · rename_i hx
    exact ⟨.inr, fun z => z.elim (fun e => e ▸ hx) id⟩
  · exact List.mem_cons
theorem addNew_len {acc : List Str} {x : Str} : (addNew acc x).length ≤ acc.length + 1 := by
  unfold addNew
  split
  · omega
  · exact Nat.le_refl _
theorem fold_nodup : ∀ (l acc : List Str), acc.Nodup → (l.foldl addNew acc).Nodup
  | [], _, h => h
  | x :: r, _, h => fold_nodup r _ (addNew_nodup h)
theorem fold_mem {y : Str} : ∀ (l acc : List Str), y ∈ l.foldl addNew acc ↔ y ∈ l ∨ y ∈ acc
  | [], acc => by simp
  | x :: r, acc => by
    show y ∈ r.foldl addNew (addNew acc x) ↔ _
    rw [fold_mem r, addNew_mem, List.mem_cons]
    exact ⟨fun z => by rcases z with z | z | z; exact .inl (.inr z); exact .inl (.inl z); exact .inr z, fun z => by rcases z with (z | z) | z; exact .inr (.inl z); exact .inl z; exact .inr (.inr z)⟩
theorem dedup_nodup (l : List Str) : (dedup l).Nodup := fold_nodup l [] List.nodup_nil
theorem mem_dedup {l : List Str} {y : Str} : y ∈ dedup l ↔ y ∈ l := by
  unfold dedup
  rw [fold_mem]
  simp
theorem perm_of_all {α : Type} [DecidableEq α] : ∀ {l m : List α}, l.Nodup → (∀ x ∈ l, x ∈ m) → m.length ≤ l.length → m.Perm l
  | [], m, _, _, h => by
    have : m = [] := List.length_eq_zero_iff.mp (Nat.le_zero.mp h)
    rw [this]
  | a :: t, m, n, s, h => by
    obtain ⟨na, nt⟩ := List.nodup_cons.mp n
    have ha := s a List.mem_cons_self
    have p : m.Perm (a :: m.erase a) := List.perm_cons_erase ha
    have ih := perm_of_all (l := t) (m := m.erase a) nt (fun x hx => (List.mem_erase_of_ne (fun e : x = a => na (by rw [← e]; exact hx))).mpr (s x (List.mem_cons_of_mem _ hx))) (by
      have := p.length_eq
      simp only [List.length_cons] at this h
      omega)
    exact p.trans (ih.cons a)

/-! ### the object -/
structure TxS (P : Program) (w : World) (h : Heap) (a : Addr) (D : SD) (l : List Str) : Prop where
  ob : h.get? a = some (sObj "set" D)
  tx : TxOk P w D l
  nd : l.Nodup
  ri : Ris D.2.2.place.toList
  ld : w.params.followText "set-order" = true ∨ D.2.2.led = true
theorem tail_keeps {ep : Nat} {es1 : Array (Int × Value)} {t2 : SetTable} {wd : Bool} {q : Prop} (r : Ris t2.place.toList) (l : q ∨ t2.led = true) : Ris (tailTx ep es1 t2 wd).2.2.place.toList ∧ (q ∨ (tailTx ep es1 t2 wd).2.2.led = true) := by
  unfold tailTx
  split
  · exact ⟨relayAll_ris t2 es1 _, l.imp id fun z => by show (relayAll t2 es1 _).2.1.led = true; rw [relayAll_led]; exact z⟩
  · exact ⟨r, l⟩
theorem add_keeps {D : SD} {hh : Int} {v : Value} {q : Prop} (r : Ris D.2.2.place.toList) (l : q ∨ D.2.2.led = true) : Ris (addTx hh v D).2.2.place.toList ∧ (q ∨ (addTx hh v D).2.2.led = true) := by
  have r1 := layNew_ris D.2.2 D.1 hh v r
  have l1 : q ∨ (layNew D.2.2 D.1 hh v).2.1.led = true := l.imp id fun z => by rw [layNew_led]; exact z
  unfold addTx
  refine tail_keeps ?_ ?_
  · split <;> exact r1
  · split <;> exact l1
section
variable {P : Program} {w : World} {A : Around} {E : Value → Shared → Prop} {s : Shared} {a : Addr} {D : SD} {l : List Str}
theorem get_const {h : Heap} {o X : Obj} (ho : h.get? a = some o) (hf : X.isFreed = false) : (h.update a fun _ => X).get? a = some X := Heap.get?_update_self (fun _ => X) ho (by rw [hf])
/-- one more text -/
theorem txs_add {k : Str} {u : Tok} {Q : Bool → Shared → Prop} (R : TxS P w s.heap a D l) (hb : l.length + 1 < scanBound)
    (hQ : ∀ h' D' r, Heap.SameBut a s.heap h' → TxS P w h' a D' (addNew l k) → Q r { s with heap := h' }) : wpAny (model P w) A (setAddHashed a (.str k u) (hashStr w k)) Q E s := by
  by_cases hk : k ∈ l
  · obtain ⟨es, ep, t⟩ := D
    have hd : (sObj "set" (es, ep, t)).data = .set es ep t := rfl
    have sz : es.size = l.length := R.tx.sz
    have el : ElemsOf (strKind P w) es.toList := R.tx.el
    have ft : t.fits es.size = true := R.tx.fit
    have ik : (strKind P w).is k (.str k u) = true := PySem.Froz.is_str k u
    obtain ⟨e0, he0, hp0⟩ := (R.tx.mem k).mp hk
    have hne : List.findIdx? (fun e => (strKind P w).is k e.2) es.toList ≠ none := fun z => by
      have := List.findIdx?_eq_none_iff.mp z e0 he0
      rw [hp0] at this
      cases this
    obtain ⟨j, hj⟩ := Option.ne_none_iff_exists'.mp hne
    unfold setAddHashed setAddHashedIn
    refine wpAny_holding (wpAny_bind (wpAny_setState_of R.ob hd ft ?_))
    dsimp only
    rw [byScan_of rfl (by rw [sz]; omega) el]
    simp only [↓reduceIte]
    unfold setAddByScan
    refine wpAny_bind (wpAny_bind (wpAny_rule (wpAny_bind (wpAny_setScan_of ik R.ob hd ft el ?_))))
    rw [hj]
    dsimp only
    refine wpAny_pure (wpAny_pure ?_)
    have q := hQ s.heap (es, ep, t) false (Heap.SameBut.refl a s.heap)
    rw [show addNew l k = l from if_pos hk] at q
    exact q R
  · refine PySem.Froz.add_x R.ob R.tx hk hb ?_
    have kp := add_keeps (hh := hashStr w k) (v := .str k u) R.ri R.ld
    refine hQ _ (addTx (hashStr w k) (.str k u) D) true (Heap.SameBut.update s.heap a _) ⟨get_const R.ob rfl, ?_, ?_, kp.1, kp.2⟩
    · rw [show addNew l k = k :: l from if_neg hk]
      exact PySem.Froz.add_ok u R.tx
    · exact addNew_nodup R.nd
theorem TxS.at {h h' : Heap} (R : TxS P w h a D l) (k : ∀ o, h.get? a = some o → h'.get? a = some o) : TxS P w h' a D l := ⟨k _ R.ob, R.tx, R.nd, R.ri, R.ld⟩
theorem fold_len : ∀ (ms acc : List Str), (ms.foldl addNew acc).length ≤ acc.length + ms.length
  | [], acc => Nat.le_refl _
  | x :: r, acc => by
    have h1 := fold_len r (addNew acc x)
    have h2 := addNew_len (acc := acc) (x := x)
    show (r.foldl addNew (addNew acc x)).length ≤ acc.length + (r.length + 1)
    omega
/-- the walk that fills the set: what is left of the list is put in one after another -/
theorem fill_set {J : Addr} {fp wr : List Addr} {Gn : Array GenState → Array GenState → Prop} {n : Nat} {Pv : Nat → Value → Prop} {St : Nat → Shared → Prop} {R : Result → Shared → Prop}
    (W : WalksS P w A.in1 J fp wr Gn n Pv St) (Z : Addr) (hZ : Z ∉ fp) (xs : List Str) (hn : n = xs.length) (hb : xs.length + 1 < scanBound) (hv : ∀ i v, Pv i v → ∃ x t, xs[i]? = some x ∧ v = .str x t) :
    ∀ (m i : Nat) (s : Shared) (D : SD), m + i = n → St i s → TxS P w s.heap Z D (dedup (xs.take i)) →
      (∀ s' D', Moved (Z :: wr) Gn s s' → TxS P w s'.heap Z D' (dedup xs) → R (.ok (.ret .none)) s') → codeAny (model P w) A (.builtin "set.update.loop" ⟨[.ref Z, .ref J], []⟩) R s := by
  have Zw : Z ∉ wr := fun z => hZ (W.sub _ z)
  have more : ∀ b ∈ wr, b ∈ Z :: wr := fun b z => List.mem_cons_of_mem _ z
  intro m
  induction m with
  | zero =>
    intro i s D hm hst T hR
    have ei : i = n := by omega
    subst ei
    refine codeAny_builtin PyProof.Rows.F.entry_set_update_loop ?_
    rw [Around.under_plainId PyProof.Rows.F.plain_set_update_loop _]
    refine wpAny_bind (m := pyNext (.ref J)) (W.done s _ _ hst fun s' mv => ?_)
    rw [List.take_of_length_le (by omega)] at T
    exact wpAny_pure (hR s' D (mv.mono more) (T.at fun o e => mv.heap Z o Zw e))
  | succ m ih =>
    intro i s D hm hst T hR
    have lt : i < n := by omega
    refine codeAny_builtin PyProof.Rows.F.entry_set_update_loop ?_
    rw [Around.under_plainId PyProof.Rows.F.plain_set_update_loop _]
    refine wpAny_bind (m := pyNext (.ref J)) (W.item i s _ _ lt hst fun v s' pv hst' mv => ?_)
    obtain ⟨x, t, ex, rfl⟩ := hv i v pv
    have T' := T.at (h' := s'.heap) fun o e => mv.heap Z o Zw e
    have dl : (dedup (xs.take i)).length + 1 < scanBound := by
      have h1 := fold_len (xs.take i) []
      have h2 : (xs.take i).length ≤ xs.length := by rw [List.length_take]; omega
      unfold dedup
      simp only [List.length_nil] at h1
      omega
    refine wpAny_bind (m := holding [Value.str x t] (setAdd Z (.str x t))) (wpAny_holding ?_)
    unfold setAdd
    refine wpAny_holding (wpAny_bind ((strKind P w).pyHash (k := x) (PySem.Froz.is_str x t) ?_))
    refine txs_add (s := { s' with toks := s'.toks + 1 }) T' dl fun h' D' b sb T2 => ?_
    have T3 : TxS P w h' Z D' (dedup (xs.take (i + 1))) := by
      have e : dedup (xs.take (i + 1)) = addNew (dedup (xs.take i)) x := by
        rw [List.take_add_one, ex]
        unfold dedup
        rw [List.foldl_append]
        rfl
      rw [e]
      exact T2
    refine wpAny_pure ⟨plainId_quiet PyProof.Rows.F.plain_set_update_loop _, ih (i + 1) _ D' (by omega) (W.frame _ s' _ _ hst' (Nat.le_succ _) fun b hb o e => ?_) T3 fun s2 D2 mv2 T4 => ?_⟩
    · exact (sb.2 b fun z => hZ (z ▸ hb)).trans e
    · exact hR s2 D2 (Moved.trans W.gtrans ((mv.mono more).then_heap (Nat.le_succ _) fun b o nb e => (sb.2 b fun z => nb (by rw [z]; exact List.mem_cons_self)).trans e) mv2) T4
theorem fresh_set {h : Heap} {Z : Addr} (ho : h.get? Z = some { cls := .type "set", dict := none, data := .set #[] 0 (.fresh 0 0 (!w.params.followText "set-order")) }) : TxS P w h Z (#[], 0, .fresh 0 0 (!w.params.followText "set-order")) [] :=
  ⟨ho, PySem.Froz.TxOk.nil (by rfl), List.nodup_nil, List.Pairwise.nil, by
    show _ ∨ (!w.params.followText "set-order") = true
    cases w.params.followText "set-order" <;> simp⟩
theorem strs_get : ∀ {us : List Value} {xs : List Str}, PyProof.Rows.StrsAre us xs → ∀ (i : Nat) (v : Value), us[i]? = some v → ∃ x t, xs[i]? = some x ∧ v = .str x t
  | _, _, .nil, i, v, h => by simp at h
  | _, _, .cons n t hr, 0, v, h => ⟨n, t, rfl, (Option.some.inj h).symm⟩
  | _, _, .cons n t hr, i + 1, v, h => strs_get hr i v h
/-- set(xs), xs a list of texts -/
theorem call_setL {p : Addr} {its : Array Value} {xs : List Str} {Q : Value → Shared → Prop} (hA : A.handled = none) (hp : s.heap.IsList p its) (hx : PyProof.Rows.StrsAre its.toList xs) (hb : xs.length + 1 < scanBound)
    (hQ : ∀ h' tk D', TxS P w h' s.heap.objs.size D' (dedup xs) → (∀ b o, s.heap.get? b = some o → h'.get? b = some o) → Q (.ref s.heap.objs.size) { s with heap := h', toks := tk }) : wpAny (model P w) A (call (.type "set") [.ref p]) Q E s := by
  have sz : its.size = xs.length := by
    have q := PyProof.Rows.StrsAre.len_eq hx
    rw [Array.length_toList] at q
    exact q
  obtain ⟨c, tl, mro⟩ := PySem.F.called_set.mro
  have made := PySem.F.called_set.made
  have sub := PySem.F.called_set.sub
  refine wpAny_call (codeAny_of_tree ?_)
  show wpAny _ _ (callAny (.type "set") _) _ _ _
  refine wpAny_pure ⟨Code.quiet_builtin _ (by decide +kernel), codeAny_builtin PySem.F.entry_type_call ?_⟩
  rw [Around.under_plain (weight_type_call_type "set" [.ref p] []) rfl]
  have n1 := PySem.F.called_set.notType
  have n2 := PySem.F.called_set.canCreate
  have n3 := PySem.F.typeCall_set_1 (.ref p)
  repeat (any_goals (first | assumption | wp_step))

  refine codeAny_mono (L2.code_set_led1 (.ref p) (E := E) (Q₁ := fun z s1 => z = .ref s.heap.objs.size ∧ s1 = { s with heap := s.heap.push { cls := .type "set", dict := none, data := .set #[] 0 (.fresh 0 0 (!w.params.followText "set-order")) } }) ⟨rfl, rfl⟩) fun r s1 hr => ?_
  cases r with
  | error e => exact hr
  | ok fl =>
    cases fl with
    | ret z =>
      obtain ⟨rfl, rfl⟩ := hr
      generalize eO : ({ cls := .type "set", dict := none, data := .set #[] 0 (.fresh 0 0 (!w.params.followText "set-order")) } : Obj) = O
      have hO : (s.heap.push O).get? s.heap.objs.size = some O := Heap.get?_push_size _ (by rw [← eO]; rfl)
      have hT : Shared.TypeIs { s with heap := s.heap.push O } (.ref s.heap.objs.size) "set" := ⟨_, hO, by rw [← eO]⟩
      have i1 := PySem.F.called_set.init.lookup
      have i2 := PySem.F.called_set.init.bind (.ref s.heap.objs.size)
      repeat (any_goals (first | assumption | wp_step))

      refine codeAny_mono (codeAny_call_builtin (R := wants (fun r s2 => r = .none ∧ ∃ h' tk D', s2 = { s with heap := h', toks := tk } ∧ TxS P w h' s.heap.objs.size D' (dedup xs) ∧ (∀ b o, s.heap.get? b = some o → h'.get? b = some o)) E) PySem.F.called_set.init.plain PySem.F.entry_set_init (check_set_init_1 hT ?_)) fun r2 s2 hr2 => ?_
      · obtain ⟨⟨k1, k2, k3, k4⟩, hob, hcl, m, hdat⟩ := hp
        simp only at hcl hdat
        subst hcl
        subst hdat
        have hlt : p < s.heap.objs.size := Heap.lt_size hob
        have hob' : (s.heap.push O).get? p = some { cls := .type "list", dict := k2, data := .seq its m, slots := k4 } := Heap.get?_push_of_some _ hob
        have t1 := PySem.F.sub_list_set
        have t2 := PySem.F.sub_list_frozenset
        have t3 : (Value.type "list" == Value.type "dict") = false := by decide
        have isl : (s.heap.push O).IsList p its := ⟨_, hob', rfl, m, rfl⟩
        subst eO
        unfold Builtin.«set.__init__» noKeywords Builtin.Frozenset.updateFrom
        generalize ePI : pyIter = PI
        wp_walk
        subst ePI

        refine wpAny_pyIter_list isl ?_
        refine wpAny_bind (wpAny_runValue ?_)
        have hA3 : A.in1.in1.in1.handled = none := by simp [hA]
        have pz : (s.heap.push { cls := .type "set", dict := none, data := .set #[] 0 (.fresh 0 0 (!w.params.followText "set-order")) }).objs.size = s.heap.objs.size + 1 := Heap.size_push ..
        have nJ : p ≠ (s.heap.push { cls := .type "set", dict := none, data := .set #[] 0 (.fresh 0 0 (!w.params.followText "set-order")) }).objs.size := by rw [Heap.size_push]; exact Nat.ne_of_lt (Nat.lt_succ_of_lt hlt)
        have nZ : s.heap.objs.size ∉ [(s.heap.push { cls := .type "set", dict := none, data := .set #[] 0 (.fresh 0 0 (!w.params.followText "set-order")) }).objs.size, p] := by
          rw [List.mem_cons, List.mem_singleton, Heap.size_push]
          exact fun z => z.elim (Nat.ne_of_lt (Nat.lt_succ_self _)) (Nat.ne_of_gt hlt)
        refine fill_set ((Walks.list hA3 _ p nJ its).toS) s.heap.objs.size nZ xs sz hb (fun i v hv => ?_) (its.size - 0) 0 _ (#[], 0, .fresh 0 0 (!w.params.followText "set-order")) (by omega) ⟨⟨_, Heap.get?_push_size _ rfl, rfl, rfl⟩, isl.push _⟩ ?z0 ?z1
        · exact strs_get hx i v (by rw [Array.getElem?_toList]; exact hv)
        case z0 =>
          exact fresh_set (Heap.get?_push_of_some _ hO)
        case z1 =>
          intro s' D' mv T
          obtain ⟨h', g', d', tk', os'⟩ := s'
          have eg : g' = s.gens := mv.gens
          have ed : d' = s.drawn := mv.drawn
          have eo : os' = s.os := mv.os
          subst eg
          subst ed
          subst eo
          show wpAny _ _ _ _ _ _
          refine wpAny_pure ?_
          show wpAny _ _ (ret Value.none) _ _ _
          refine wpAny_pure ⟨rfl, h', tk', D', rfl, T, fun b o e => ?_⟩
          have hb0 : b < s.heap.objs.size := Heap.lt_size e
          exact mv.heap b o (by rw [List.mem_cons, List.mem_singleton, Heap.size_push]; exact fun z => z.elim (Nat.ne_of_lt hb0) (Nat.ne_of_lt (Nat.lt_succ_of_lt hb0))) (Heap.get?_push_of_some _ (Heap.get?_push_of_some _ e))
      · cases r2 with
        | error e => exact hr2
        | ok fl2 =>
          cases fl2 with
          | ret r =>
            obtain ⟨rfl, h', tk, D', rfl, T, kp⟩ := hr2
            repeat (any_goals (first | assumption | wp_step))
            exact hQ _ _ _ T kp
          | _ => exact hr2.elim
    | _ => exact hr.elim
end
end QL
end
section
set_option Elab.async false
set_option linter.all false
set_option maxRecDepth 100000
set_option maxHeartbeats 4000000
set_option autoImplicit false
/-! QSet2: sorted(set(xs)). -/
namespace QL
open PySem PySem.Spec L2
open Classical
open PyProof.Rows (seqObj StrsAre strKind_oneLt keyKind_strs sorted_out_str sortedHeap_at sortedHeap_old arrOf list_sort_treeK)
open PySem.Froz (SD sObj TxOk)
def SetT (P : Program) (w : World) (a : Addr) (l : List Str) : HO := .ext fun h => ∃ D, TxS P w h a D l
theorem setT_ok {P : Program} {w : World} {H : Hp} {h : Heap} {a : Addr} {D : SD} {l : List Str} (T : TxS P w h a D l) : ObjOk P w H h a (SetT P w a l) :=
  ⟨⟨D, T⟩, ⟨_, T.ob⟩, fun h1 h2 ⟨D1, T1⟩ k => ⟨D1, T1.at k⟩⟩
section
variable {X : Cx}
theorem call_setS (hc : X.calm = true) : CallR X (.type "set") (fun xs H Q => ∃ p ys, xs = [.ref p] ∧ SqL X.K H p (ys.map V.str) ∧ ys.length + 1 < scanBound ∧ ∀ a, H a = none → Q (.ref a) (upd H a (SetT X.prog X.w a (dedup ys)))) := by
  intro pins s σ H xs us Q I r h
  obtain ⟨p, ys, rfl, hs, hz, q⟩ := h
  obtain ⟨its, rv, hl, _⟩ := I.list hs
  rw [Vals.ref1 r]
  refine call_setL (I.ok.hd hc) hl.isList (by simpa using strsAre_of rv) hz fun h' tk D' T kp => ?_
  exact ⟨.ref s.heap.objs.size, _, I.laid (t' := tk) kp (Nat.le_refl _) (setT_ok T), rfl, q _ (I.hok.fresh (Nat.le_refl _))⟩
/-- what a walk over the set gives: its texts, in some order -/
theorem outs_strs {P : Program} {w : World} : ∀ {l : List (Int × Value)}, ElemsOf (strKind P w) l → ∃ ks, StrsAre (l.map (·.2)) ks ∧ ∀ k, k ∈ ks ↔ ∃ e ∈ l, (strKind P w).is k e.2 = true
  | [], _ => ⟨[], .nil, fun k => by simp⟩
  | e :: l, h => by
    obtain ⟨ks, h1, h2⟩ := outs_strs (l := l) fun x hx => h x (List.mem_cons_of_mem _ hx)
    obtain ⟨⟨k, hk, _⟩, _⟩ := h e List.mem_cons_self
    obtain ⟨t, et⟩ := Value.isStrOf_shape (x := k) (v := e.2) hk
    refine ⟨k :: ks, by rw [List.map_cons, et]; exact .cons k t h1, fun k' => ?_⟩
    rw [List.mem_cons, h2 k']
    constructor
    · rintro (z | ⟨e', he', z⟩)
      · exact ⟨e, List.mem_cons_self, by rw [z]; exact hk⟩
      · exact ⟨e', List.mem_cons_of_mem _ he', z⟩
    · rintro ⟨e', he', z⟩
      rcases List.mem_cons.mp he' with y | y
      · subst y
        exact .inl ((strKind P w).inj _ _ _ z hk)
      · exact .inr ⟨e', y, z⟩
theorem strs_perm : ∀ {us vs : List Value} {ks : List Str}, us.Perm vs → StrsAre vs ks → ∃ js, StrsAre us js ∧ js.Perm ks := by
  intro us vs ks p
  induction p generalizing ks with
  | nil => intro h; exact ⟨ks, h, List.Perm.refl _⟩
  | cons x _ ih =>
    intro h
    cases h with
    | cons n t hr =>
      obtain ⟨js, a, b⟩ := ih hr
      exact ⟨n :: js, .cons n t a, b.cons n⟩
  | swap x y l =>
    intro h
    cases h with
    | cons n t hr =>
      cases hr with
      | cons n2 t2 hr2 => exact ⟨n2 :: n :: _, .cons n2 t2 (.cons n t hr2), List.Perm.swap _ _ _⟩
  | trans _ _ ih1 ih2 =>
    intro h
    obtain ⟨js, a, b⟩ := ih2 h
    obtain ⟨is, c, d⟩ := ih1 a
    exact ⟨is, c, d.trans b⟩
theorem call_sortT (hc : X.calm = true) : CallR X (.builtin "sorted") (fun xs H Q => ∃ a l, xs = [.ref a] ∧ H a = some (SetT X.prog X.w a l) ∧ l.length < 64 ∧ ∀ ys p, ys.Perm l → PyProof.Rows.sortedS ys = true → H p = none → Q (.ref p) (upd H p (.lst (ys.map V.str)))) := by
  intro pins s σ H xs us Q I r h
  obtain ⟨a, l, rfl, ha, hz, q⟩ := h
  rw [Vals.ref1 r]
  obtain ⟨D, T⟩ := (I.hok a _ ha).1
  obtain ⟨es, ep, t⟩ := D
  have sz : es.size = l.length := T.tx.sz
  have sb : es.size < scanBound := by rw [sz]; exact Nat.lt_of_lt_of_le hz (by decide)
  refine Calls.call_function_entry PyProof.Rows.kind_sorted PyProof.Rows.plain_sorted PyProof.Rows.entry_sorted (PyProof.Rows.args_sorted1 _) ?_
  unfold Builtin.«sorted»
  refine wpAny_bind (m := checkCount "sorted" 1 1 _) (wpAny_pure ?_)
  refine wpAny_bind (collect_set (A := X.A.in1) (I.ok.hd hc) ⟨_, T.ob, rfl, rfl⟩ T.tx.fit sb T.ri T.ld fun s1 out k1 zs g1 o1 pm => ?_)
  obtain ⟨ks, e1, e2⟩ := outs_strs (P := X.prog) (w := X.w) (l := es.toList) T.tx.el
  obtain ⟨js, hS, pj⟩ := strs_perm pm e1
  have lo : out.length = l.length := by rw [pm.length_eq, List.length_map, Array.length_toList]; exact sz
  have lj : js.length = out.length := (PyProof.Rows.StrsAre.len_eq hS).symm
  have pl : js.Perm l := perm_of_all T.nd (fun x hx => pj.mem_iff.mpr ((e2 x).mpr ((T.tx.mem x).mp hx))) (by omega)
  refine wpAny_bind (wpAny_newList ?_ (by rw [lo, sizeLine_eq]; omega))
  have hoL : (s1.heap.push (seqObj "list" out.toArray 0)).get? s1.heap.objs.size = some (seqObj "list" out.toArray 0) := Heap.get?_push_size _ rfl
  show wpAny _ _ _ _ _ { s1 with heap := s1.heap.push (seqObj "list" out.toArray 0) }
  refine wpAny_bind (wpAny_holding (wpAny_call_entry PyProof.Rows.slot_list_sort ⟨_, hoL, rfl⟩ PyProof.Rows.entry_list_sort
    (list_sort_treeK strKind_oneLt (s := { s1 with heap := s1.heap.push (seqObj "list" out.toArray 0) }) hoL hS.keysOf (fun v1 v2 rest e => keyKind_strs (by rw [← e]; exact hS)) (by rw [lo]; exact hz) fun st' hp hs => ⟨_, rfl, ?_⟩) (PyProof.Rows.args_list_sort _)))
  obtain ⟨ys, y1, y2, y3⟩ := sorted_out_str hS hp hs
  obtain ⟨e', he'⟩ := sortedHeap_at (vs := out) (out := (arrOf st').map (·.2)) hoL
  have hlen : (ys.map V.str).length ≤ sizeLine := by
    rw [List.length_map, y2.length_eq, lj, lo]
    exact small64 hz
  have np : H s1.heap.objs.size = none := I.hok.fresh zs
  have kk : ∀ b o, s.heap.get? b = some o → (PyProof.Rows.sortedHeap (s1.heap.push (seqObj "list" out.toArray 0)) s1.heap.objs.size out ((arrOf st').map (·.2))).get? b = some o := fun b o e => by
    have e1 := k1 b o e
    have lt := Heap.lt_size e1
    rw [sortedHeap_old (Nat.ne_of_lt lt) (by rw [Heap.size_push]; exact Nat.lt_succ_of_lt lt)]
    exact Heap.get?_push_of_some _ e1
  have J : Inv X pins σ (upd H s1.heap.objs.size (.lst (ys.map V.str))) { s with heap := PyProof.Rows.sortedHeap (s1.heap.push (seqObj "list" out.toArray 0)) s1.heap.objs.size out ((arrOf st').map (·.2)), gens := s1.gens, drawn := s1.drawn, toks := s1.toks } :=
    I.call (ch := []) (Un.laid kk zs np) (I.hok.laid kk zs ⟨hlen, ((arrOf st').map (·.2)).toList, e', vals_of_strs y1, by rw [Array.toArray_toList]; exact he'⟩) (by rw [g1]; exact I.bare) (fun _ z => nomatch z)
  refine wpAny_pure ⟨_, rfl, ?_⟩
  have es1 : s1.os = s.os := o1
  refine ⟨.ref s1.heap.objs.size, _, ?_, rfl, q ys _ (y2.trans pl) y3 np⟩
  rw [← es1] at J
  exact J
end
/-- sorted(set(xs)), xs a list of texts, fewer than 64 different ones -/
noncomputable def ssR (r : Res D) : Res D := r.bind fun d M1 => match asL M1 d with
  | some xs => match strsOf xs with
    | some ns => if ns.length + 1 < scanBound ∧ (dedup ns).length < 64 then .ok (.lst ((srt (dedup ns)).map D.str)) M1 else .bad
    | none => .bad
  | none => .bad
noncomputable def eSortSet (e : EF) : EF := fun S M => ssR (e S M)
theorem qsortSet {X : Cx} {W : WX} {p p2 pos pos2 : Pos} {e : Expr} {fe : EF} (hc : X.calm = true) (hu : X.A.units + 64 < cLine) (hg : Gl X "sorted") (hm : X.mg "sorted" = none) (hg2 : Gl X "set") (hm2 : X.mg "set" = none) (he : QE X W e fe)
    (h1 : starEach [e] X.env = (false, eval e X.env) :: starEach [] X.env := by rfl)
    (h2 : starEach [.Call (.Name "set" p2) [e] [] pos2] X.env = (false, eval (.Call (.Name "set" p2) [e] [] pos2) X.env) :: starEach [] X.env := by rfl) (hp1 : (backTo pos2 (starEach [] X.env)).any (·.1) = false := by rfl) (hp2 : (backTo pos (starEach [] X.env)).any (·.1) = false := by rfl) :
    QE X W (.Call (.Name "sorted" p) [.Call (.Name "set" p2) [e] [] pos2] [] pos) (eSortSet fe) :=
  PE.imp (pe_callB (call_sortT hc) hg hm (by decide +kernel) (pa_cons (pe_callTy (call_setS hc) hg2 hm2 (by decide +kernel) (pa_cons he pa_nil h1) (by decide) (by decide) h1 hp1) pa_nil h2) (by decide) (by decide) h2 hp2) fun σ H Q h => by
    have h' : Up (cn X) W (DV (cn X)) (fun S M => (fe S M).bind fun d M1 => match asL M1 d with
      | some xs => match strsOf xs with
        | some ns => if ns.length + 1 < scanBound ∧ (dedup ns).length < 64 then .ok (.lst ((srt (dedup ns)).map D.str)) M1 else .bad
        | none => .bad
      | none => .bad) σ H Q := h
    refine Up.imp (Up.bind (k := fun _ d M1 => _) h') fun v H1 ⟨G, S, d, M, r, s, q, p⟩ => ?_
    split at p
    · rename_i xs hx
      split at p
      · rename_i ns hn
        split at p
        · rename_i hz
          obtain ⟨a, us, rfl, sq, t⟩ := asL_at r q hx
          rw [strsOf_eq hn] at t
          rw [t.strs] at sq
          refine ⟨a, ns, rfl, sq, hz.1, fun b hb => ⟨b, _, rfl, upd_same, hz.2, fun ys p' hp hs hn' => ?_⟩⟩
          have r1 := r.newF (o := SetT X.prog X.w b (dedup ns)) hb
          rw [srt_eq hp hs]
          exact post_strs r1 hn' (Post.mono (Gr.newF (r.fz.free hb)) p)
        · exact p.elim
      · exact p.elim
    · exact p.elim
end QL
end
section
set_option Elab.async false
set_option linter.all false
set_option maxRecDepth 100000
set_option maxHeartbeats 4000000
set_option autoImplicit false
/-! QEv: what the plain functions come to, step by step, without a look under what is not yet reached. -/
namespace QL
open PySem PySem.Spec L2
open Classical
section
variable {f : D → D → Mem → Res D} {a b e o v i' fo fi : EF} {S : Sl} {M : Mem} {d x y z : D} {X : Ex} {t u : TF} {p q : BF} {g : GF} {ar : AF} {F : List D → Mem → Res D} {ds : List D} {n : Nat}
/-- slots -/
def vR (o : Option (Option D)) (M : Mem) : Res D := match o with
  | some (some d) => .ok d M
  | _ => .bad
@[simp] theorem vR_some : vR (some (some d)) M = .ok d M := (rfl)
@[simp] theorem eVar_ap {i : Nat} : eVar i S M = vR (S[i]?) M := (rfl)
@[simp] theorem eC_ap : eC d S M = .ok d M := (rfl)
/-- two operands -/
def s2 (f : D → D → Mem → Res D) (b : EF) (S : Sl) (r : Res D) : Res D := r.bind fun x M1 => (b S M1).bind fun y M2 => f x y M2
def s3 (f : D → D → Mem → Res D) (x : D) (r : Res D) : Res D := r.bind fun y M2 => f x y M2
@[simp] theorem e2_ap : e2 f a b S M = s2 f b S (a S M) := (rfl)
@[simp] theorem s2_ok : s2 f b S (.ok x M) = s3 f x (b S M) := (rfl)
@[simp] theorem s3_ok : s3 f x (.ok y M) = f x y M := (rfl)
/-- lists of arguments -/
def c1 (r : AF) (S : Sl) (k : Res D) : Res (List D) := k.bind fun d M1 => (r S M1).bind fun ds M2 => .ok (d :: ds) M2
def c2 (d : D) (k : Res (List D)) : Res (List D) := k.bind fun ds M2 => .ok (d :: ds) M2
@[simp] theorem aNil_ap : aNil S M = .ok [] M := (rfl)
@[simp] theorem aCons_ap : aCons a ar S M = c1 ar S (a S M) := (rfl)
@[simp] theorem c1_ok : c1 ar S (.ok d M) = c2 d (ar S M) := (rfl)
@[simp] theorem c2_ok : c2 d (.ok ds M) = .ok (d :: ds) M := (rfl)
def cR (F : List D → Mem → Res D) (k : Res (List D)) : Res D := k.bind fun ds M1 => F ds M1
@[simp] theorem eCall_ap : eCall F ar S M = cR F (ar S M) := (rfl)
@[simp] theorem cR_ok : cR F (.ok ds M) = F ds M := (rfl)
def tpR (k : Res (List D)) : Res D := k.bind fun ds M1 => if ds.length ≤ sizeLine then .ok (.tup ds) M1 else .bad
@[simp] theorem eTup_ap : eTup ar S M = tpR (ar S M) := (rfl)
theorem tpR_ok (h : ds.length ≤ sizeLine) : tpR (.ok ds M) = .ok (.tup ds) M := if_pos h
def lsR (k : Res (List D)) : Res D := k.bind fun ds M1 => if ds.length ≤ sizeLine then .ok (.lst ds) M1 else .bad
@[simp] theorem eLst_ap : eLst ar S M = lsR (ar S M) := (rfl)
theorem lsR_ok (h : ds.length ≤ sizeLine) : lsR (.ok ds M) = .ok (.lst ds) M := if_pos h
def lpR (k : Res (List D)) : Res D := k.bind fun ds M1 => if ds.length ≤ sizeLine then .ok (.ptr M1.length) (M1 ++ [.lst ds]) else .bad
@[simp] theorem eLstP_ap : eLstP ar S M = lpR (ar S M) := (rfl)
theorem lpR_ok (h : ds.length ≤ sizeLine) : lpR (.ok ds M) = .ok (.ptr M.length) (M ++ [.lst ds]) := if_pos h
theorem small {k : Nat} (h : k ≤ 64) : k ≤ sizeLine := by rw [sizeLine_eq]; omega
@[simp] theorem tpR_0 : tpR (.ok [] M) = .ok (.tup []) M := tpR_ok (small (by decide))
@[simp] theorem tpR_2 {d1 d2 : D} : tpR (.ok [d1, d2] M) = .ok (.tup [d1, d2]) M := tpR_ok (small (by show 2 ≤ 64; decide))
@[simp] theorem tpR_3 {d1 d2 d3 : D} : tpR (.ok [d1, d2, d3] M) = .ok (.tup [d1, d2, d3]) M := tpR_ok (small (by show 3 ≤ 64; decide))
@[simp] theorem lsR_0 : lsR (.ok [] M) = .ok (.lst []) M := lsR_ok (small (by decide))
@[simp] theorem lsR_1 {d1 : D} : lsR (.ok [d1] M) = .ok (.lst [d1]) M := lsR_ok (small (by show 1 ≤ 64; decide))
@[simp] theorem lsR_2 {d1 d2 : D} : lsR (.ok [d1, d2] M) = .ok (.lst [d1, d2]) M := lsR_ok (small (by show 2 ≤ 64; decide))
@[simp] theorem lsR_3 {d1 d2 d3 : D} : lsR (.ok [d1, d2, d3] M) = .ok (.lst [d1, d2, d3]) M := lsR_ok (small (by show 3 ≤ 64; decide))
@[simp] theorem lsR_4 {d1 d2 d3 d4 : D} : lsR (.ok [d1, d2, d3, d4] M) = .ok (.lst [d1, d2, d3, d4]) M := lsR_ok (small (by show 4 ≤ 64; decide))
@[simp] theorem lsR_5 {d1 d2 d3 d4 d5 : D} : lsR (.ok [d1, d2, d3, d4, d5] M) = .ok (.lst [d1, d2, d3, d4, d5]) M := lsR_ok (small (by show 5 ≤ 64; decide))
@[simp] theorem lpR_0 : lpR (.ok [] M) = .ok (.ptr M.length) (M ++ [.lst []]) := lpR_ok (small (by decide))
@[simp] theorem lpR_1 {d1 : D} : lpR (.ok [d1] M) = .ok (.ptr M.length) (M ++ [.lst [d1]]) := lpR_ok (small (by show 1 ≤ 64; decide))
@[simp] theorem lpR_6 {d1 d2 d3 d4 d5 d6 : D} : lpR (.ok [d1, d2, d3, d4, d5, d6] M) = .ok (.ptr M.length) (M ++ [.lst [d1, d2, d3, d4, d5, d6]]) := lpR_ok (small (by show 6 ≤ 64; decide))
/-- tests -/
def bR (r : Res D) : Res Bool := r.bind fun x M1 => match x with
  | .bl b => .ok b M1
  | _ => .bad
@[simp] theorem bV_ap : bV a S M = bR (a S M) := (rfl)
@[simp] theorem bR_ok {k : Bool} : bR (.ok (.bl k) M) = .ok k M := (rfl)
def nR (r : Res Bool) : Res Bool := r.bind fun x M1 => .ok (!x) M1
@[simp] theorem bNot_ap : bNot p S M = nR (p S M) := (rfl)
@[simp] theorem nR_ok {k : Bool} : nR (.ok k M) = .ok (!k) M := (rfl)
def anR (q : BF) (S : Sl) (r : Res Bool) : Res Bool := r.bind fun x M1 => if x = true then q S M1 else .ok false M1
@[simp] theorem bAnd_ap : bAnd p q S M = anR q S (p S M) := (rfl)
@[simp] theorem anR_t : anR q S (.ok true M) = q S M := (rfl)
@[simp] theorem anR_f : anR q S (.ok false M) = .ok false M := (rfl)
theorem anR_ite {c : Prop} [Decidable c] : anR q S (.ok (decide c) M) = if c then q S M else .ok false M := by by_cases h : c <;> simp [h]
def orRr (q : BF) (S : Sl) (r : Res Bool) : Res Bool := r.bind fun x M1 => if x = true then .ok true M1 else q S M1
@[simp] theorem bOr_ap : bOr p q S M = orRr q S (p S M) := (rfl)
@[simp] theorem orRr_t : orRr q S (.ok true M) = .ok true M := (rfl)
@[simp] theorem orRr_f : orRr q S (.ok false M) = q S M := (rfl)
def eaR (b : EF) (S : Sl) (r : Res D) : Res D := r.bind fun x M1 => match x with
  | .bl true => b S M1
  | .bl false => .ok (.bl false) M1
  | _ => .bad
@[simp] theorem eAnd_ap : eAnd a b S M = eaR b S (a S M) := (rfl)
@[simp] theorem eaR_t : eaR b S (.ok (.bl true) M) = b S M := (rfl)
@[simp] theorem eaR_f : eaR b S (.ok (.bl false) M) = .ok (.bl false) M := (rfl)
def eoR (b : EF) (S : Sl) (r : Res D) : Res D := r.bind fun x M1 => match x with
  | .bl true => .ok (.bl true) M1
  | .bl false => b S M1
  | _ => .bad
@[simp] theorem eOr_ap : eOr a b S M = eoR b S (a S M) := (rfl)
@[simp] theorem eoR_t : eoR b S (.ok (.bl true) M) = .ok (.bl true) M := (rfl)
@[simp] theorem eoR_f : eoR b S (.ok (.bl false) M) = b S M := (rfl)
def enR (r : Res D) : Res D := r.bind fun x M1 => match x with
  | .bl b => .ok (.bl (!b)) M1
  | _ => .bad
@[simp] theorem eNot_ap : eNot a S M = enR (a S M) := (rfl)
@[simp] theorem enR_ok {k : Bool} : enR (.ok (.bl k) M) = .ok (.bl (!k)) M := (rfl)
def eiR (a b : EF) (S : Sl) (r : Res Bool) : Res D := r.bind fun x M1 => if x = true then a S M1 else b S M1
@[simp] theorem eIf_ap : eIf p a b S M = eiR a b S (p S M) := (rfl)
@[simp] theorem eiR_t : eiR a b S (.ok true M) = a S M := (rfl)
@[simp] theorem eiR_f : eiR a b S (.ok false M) = b S M := (rfl)
/-- statements -/
@[simp] theorem kNil_ap : kNil S M = .nx S M := (rfl)
@[simp] theorem kSeq_ap : kSeq t u S M = (t S M).thn u := (rfl)
@[simp] theorem thn_nx : (SR.nx S M).thn u = u S M := (rfl)
@[simp] theorem thn_rt : (SR.rt d M).thn u = .rt d M := (rfl)
@[simp] theorem thn_bk : (SR.bk S M).thn u = .bk S M := (rfl)
@[simp] theorem thn_ct : (SR.ct S M).thn u = .ct S M := (rfl)
@[simp] theorem thn_rz : (SR.rz X S M).thn u = .rz X S M := (rfl)
def rtR (S : Sl) (r : Res D) : SR := r.thn S fun d M1 => .rt d M1
@[simp] theorem kRet_ap : kRet e S M = rtR S (e S M) := (rfl)
@[simp] theorem rtR_ok : rtR S (.ok d M) = .rt d M := (rfl)
@[simp] theorem kRetN_ap : kRetN S M = .rt .non M := (rfl)
def drR (S : Sl) (r : Res D) : SR := r.thn S fun _ M1 => .nx S M1
@[simp] theorem kDrop_ap : kDrop e S M = drR S (e S M) := (rfl)
@[simp] theorem drR_ok : drR S (.ok d M) = .nx S M := (rfl)
def ifR (t u : TF) (S : Sl) (r : Res Bool) : SR := r.thn S fun x M1 => if x = true then t S M1 else u S M1
@[simp] theorem kIf_ap : kIf p t u S M = ifR t u S (p S M) := (rfl)
@[simp] theorem ifR_t : ifR t u S (.ok true M) = t S M := (rfl)
@[simp] theorem ifR_f : ifR t u S (.ok false M) = u S M := (rfl)
@[simp] theorem kBreak_ap : kBreak S M = .bk S M := (rfl)
@[simp] theorem kCont_ap : kCont S M = .ct S M := (rfl)
/-- stores -/
def asR (g : GF) (S : Sl) (r : Res D) : SR := r.thn S fun d M1 => (g d S M1).thn S fun S2 M2 => .nx S2 M2
def stR (S : Sl) (r : Res Sl) : SR := r.thn S fun S2 M2 => .nx S2 M2
@[simp] theorem kAsg_ap : kAsg e g S M = asR g S (e S M) := (rfl)
@[simp] theorem asR_ok : asR g S (.ok d M) = stR S (g d S M) := (rfl)
@[simp] theorem stR_ok {S2 : Sl} : stR S (.ok S2 M) = .nx S2 M := (rfl)
@[simp] theorem gN_ap {i : Nat} : gN i d S M = .ok (S.set i (some d)) M := (rfl)
@[simp] theorem gNilF_ap : gNilF [] S M = .ok S M := (rfl)
def gcR (r : GsF) (ds : List D) (k : Res Sl) : Res Sl := k.bind fun S1 M1 => r ds S1 M1
@[simp] theorem gConsF_ap {r : GsF} : gConsF g r (d :: ds) S M = gcR r ds (g d S M) := (rfl)
@[simp] theorem gcR_ok {r : GsF} : gcR r ds (.ok S M) = r ds S M := (rfl)
@[simp] theorem gTupF_2 {r : GsF} {d1 d2 : D} : gTupF 2 r (.tup [d1, d2]) S M = r [d1, d2] S M := (rfl)
@[simp] theorem gTupF_3 {r : GsF} {d1 d2 d3 : D} : gTupF 3 r (.tup [d1, d2, d3]) S M = r [d1, d2, d3] S M := (rfl)
def prR (i j : Nat) (S : Sl) (r : Res (List D)) : SR := r.thn S fun ds M1 => match ds with
  | [d, e] => .nx ((S.set i (some d)).set j (some e)) M1
  | _ => .bad
@[simp] theorem kPar_ap {i j : Nat} : kPar i j ar S M = prR i j S (ar S M) := (rfl)
@[simp] theorem prR_ok {i j : Nat} : prR i j S (.ok [x, y] M) = .nx ((S.set i (some x)).set j (some y)) M := (rfl)
def gs1 (i : EF) (d : D) (S : Sl) (r : Res D) : Res Sl := r.bind fun x M1 => (i S M1).bind fun y M2 => match lset x y d M2 with
  | some M3 => .ok S M3
  | none => .bad
def gs2 (x d : D) (S : Sl) (r : Res D) : Res Sl := r.bind fun y M2 => match lset x y d M2 with
  | some M3 => .ok S M3
  | none => .bad
def gs3 (S : Sl) (o : Option Mem) : Res Sl := match o with
  | some M3 => .ok S M3
  | none => .bad
@[simp] theorem gSubL_ap : gSubL fo fi d S M = gs1 fi d S (fo S M) := (rfl)
@[simp] theorem gs1_ok : gs1 fi d S (.ok x M) = gs2 x d S (fi S M) := (rfl)
@[simp] theorem gs2_ok : gs2 x d S (.ok y M) = gs3 S (lset x y d M) := (rfl)
@[simp] theorem gs3_ok : gs3 S (some M) = .ok S M := (rfl)
/-- d[k] = v -/
def dp1 (o i : EF) (S : Sl) (r : Res D) : SR := r.thn S fun dv M1 => (o S M1).thn S fun d M2 => (i S M2).thn S fun y M3 => match d with
  | .ptr k => match dput k y dv M3 with
    | some M4 => .nx S M4
    | none => .bad
  | _ => .bad
end
end QL
end
section
set_option Elab.async false
set_option linter.all false
set_option maxRecDepth 100000
set_option maxHeartbeats 4000000
set_option autoImplicit false
/-! QEv2: the plain functions at plain data. -/
namespace QL
open PySem PySem.Spec L2
open Classical
section
variable {M M' : Mem} {i j : Int} {x y : Str} {a b : Bool} {d e : D} {ds es : List D} {n m : Nat} {S : Sl} {t : TF} {f : EF}
@[simp] theorem fAdd_i : fAdd (.int i) (.int j) M = .ok (.int (i + j)) M := (rfl)
@[simp] theorem fSub_i : fSub (.int i) (.int j) M = .ok (.int (i - j)) M := (rfl)
theorem fMul_i (h : CMulW i j) : fMul (.int i) (.int j) M = .ok (.int (i * j)) M := if_pos h
theorem fMod_i (h : 0 < j) : fMod (.int i) (.int j) M = .ok (.int (i % j)) M := if_pos h
theorem fDiv_i (h : CDivW i j) : fDiv (.int i) (.int j) M = .ok (.int (i / j)) M := if_pos h
@[simp] theorem fLt_i : fLt (.int i) (.int j) M = .ok (.bl (decide (i < j))) M := (rfl)
@[simp] theorem fLe_i : fLe (.int i) (.int j) M = .ok (.bl (decide (i ≤ j))) M := (rfl)
@[simp] theorem fGt_i : fGt (.int i) (.int j) M = .ok (.bl (decide (j < i))) M := (rfl)
@[simp] theorem fGe_i : fGe (.int i) (.int j) M = .ok (.bl (decide (j ≤ i))) M := (rfl)
@[simp] theorem fEqA_i : fEqA (.int i) (.int j) M = .ok (.bl (decide (i = j))) M := (rfl)
@[simp] theorem fEqA_s : fEqA (.str x) (.str y) M = .ok (.bl (decide (x = y))) M := (rfl)
@[simp] theorem fNe_i : fNe (.int i) (.int j) M = .ok (.bl (!decide (i = j))) M := (rfl)
@[simp] theorem fNe_s : fNe (.str x) (.str y) M = .ok (.bl (!decide (x = y))) M := (rfl)
@[simp] theorem fNe_b : fNe (.bl a) (.bl b) M = .ok (.bl (a ^^ b)) M := by cases a <;> cases b <;> rfl
@[simp] theorem fIs0_n : fIs0 .non .non M = .ok (.bl true) M := (rfl)
@[simp] theorem fNot0_n : fNot0 .non .non M = .ok (.bl false) M := (rfl)
@[simp] theorem fIs0_i : fIs0 (.int i) .non M = .ok (.bl false) M := (rfl)
@[simp] theorem fNot0_i : fNot0 (.int i) .non M = .ok (.bl true) M := (rfl)
@[simp] theorem fNot0_p : fNot0 (.ptr n) .non M = .ok (.bl true) M := (rfl)
@[simp] theorem fNot0_k {kvs : List (Key × D)} : fNot0 (.dK kvs) .non M = .ok (.bl true) M := (rfl)
@[simp] theorem fAdd_l : fAdd (.lst ds) (.lst es) M = if ds.length + es.length ≤ sizeLine then .ok (.lst (ds ++ es)) M else .bad := (rfl)
@[simp] theorem fAdd_s : fAdd (.str x) (.str y) M = if x.length + y.length ≤ sizeLine then .ok (.str (x ++ y)) M else .bad := (rfl)
@[simp] theorem bLenA_l : bLenA [.lst ds] M = .ok (.int ds.length) M := (rfl)
@[simp] theorem bMax2_i : bMax2 [.int i, .int j] M = .ok (.int (max i j)) M := by
  show Res.ok (D.int (if j > i then j else i)) M = _
  congr 2
  rcases Int.lt_or_le i j with h | h
  · rw [if_pos h]; omega
  · rw [if_neg (by omega)]; omega
@[simp] theorem bMin2_i : bMin2 [.int i, .int j] M = .ok (.int (min i j)) M := by
  show Res.ok (D.int (if j < i then j else i)) M = _
  congr 2
  rcases Int.lt_or_le j i with h | h
  · rw [if_pos h]; omega
  · rw [if_neg (by omega)]; omega
@[simp] theorem bInt_b : bInt [.bl a] M = .ok (.int (if a then 1 else 0)) M := (rfl)
@[simp] theorem bInt_i : bInt [.int i] M = .ok (.int i) M := (rfl)
theorem fIxA_l (h : ds[n]? = some d) : fIxA (.lst ds) (.int (n : Nat)) M = .ok d M := by
  have hl := (List.getElem?_eq_some_iff.mp h).1
  have e : L2.atI ds (n : Int) = some d := by
    unfold L2.atI ixN
    rw [if_pos (Int.natCast_nonneg n), if_pos (by exact_mod_cast hl)]
    simpa using h
  simp [fIxA, or2, orR, fDIx, look, asK, asTt, fIx, asL, e]
theorem settle_ok {d : D} (h : M'.length ≤ n) : settle n (.ok d M') = .ok d M' := if_pos h
/-- a def at its end -/
def fnR (n : Nat) (r : SR) : Res D := settle n r.fin
theorem runF_ap (h : ds.length = n) : runF n m t ds M = fnR M.length (t (ds.map some ++ List.replicate m none) M) := if_pos h
@[simp] theorem fnR_rt : fnR n (.rt d M) = settle n (.ok d M) := (rfl)
@[simp] theorem fnR_nx : fnR n (.nx S M) = settle n (.ok .non M) := (rfl)
/-- x op= e, o[i] op= e -/
def laR (d y : D) (n : Int) (op : Int → Int → Int) (S : Sl) (r : Res D) : SR := r.thn S fun z M3 => match z with
  | .int m => match lset d y (.int (op n m)) M3 with
    | some M4 => .nx S M4
    | none => .bad
  | _ => .bad
def laO (S : Sl) (o : Option Mem) : SR := match o with
  | some M4 => .nx S M4
  | none => .bad
@[simp] theorem laR_ok {y : D} {op : Int → Int → Int} : laR d y i op S (.ok (.int j) M) = laO S (lset d y (.int (op i j)) M) := (rfl)
@[simp] theorem laO_some : laO S (some M) = .nx S M := (rfl)
theorem kLAug_at {o k v : EF} {op : Int → Int → Int} (h1 : o S M = .ok d M) (h2 : k S M = .ok (.int j) M) (h3 : asL M d = some ds) (h4 : L2.atI ds j = some (.int i)) : kLAug o k v op S M = laR d (.int j) i op S (v S M) := by
  unfold kLAug
  rw [h1]
  simp only [Res.thn, h2, h3, h4]
  rfl
end
end QL
end
section
set_option Elab.async false
set_option linter.all false
set_option maxRecDepth 100000
set_option maxHeartbeats 4000000
set_option autoImplicit false
/-! QEv3: slices, loops and comprehensions of the plain functions. -/
namespace QL
open PySem PySem.Spec L2
open Classical
section
variable {M M' : Mem} {i j : Int} {x y : Str} {d e : D} {ds es : List D} {n m : Nat} {S S' : Sl} {t : TF} {f : EF}
def soR (r : Res D) : Res (Option Int) := r.bind fun d M1 => match d with
  | .int i => .ok (some i) M1
  | _ => .bad
@[simp] theorem oNone_ap : oNone S M = .ok none M := (rfl)
@[simp] theorem oSome_ap : oSome f S M = soR (f S M) := (rfl)
@[simp] theorem soR_ok : soR (.ok (.int i) M) = .ok (some i) M := (rfl)
def sl1 (l h : OF) (S : Sl) (r : Res D) : Res D := r.bind fun d M1 => (l S M1).bind fun lo M2 => (h S M2).bind fun hi M3 => fSl d lo hi M3
def sl2 (d : D) (h : OF) (S : Sl) (r : Res (Option Int)) : Res D := r.bind fun lo M2 => (h S M2).bind fun hi M3 => fSl d lo hi M3
def sl3 (d : D) (lo : Option Int) (r : Res (Option Int)) : Res D := r.bind fun hi M3 => fSl d lo hi M3
@[simp] theorem eSl_ap {l h : OF} : eSl f l h S M = sl1 l h S (f S M) := (rfl)
@[simp] theorem sl1_ok {l h : OF} : sl1 l h S (.ok d M) = sl2 d h S (l S M) := (rfl)
@[simp] theorem sl2_ok {h : OF} {lo : Option Int} : sl2 d h S (.ok lo M) = sl3 d lo (h S M) := (rfl)
@[simp] theorem sl3_ok {lo hi : Option Int} : sl3 d lo (.ok hi M) = fSl d lo hi M := (rfl)
@[simp] theorem fSl_l {lo hi : Option Int} : fSl (.lst ds) lo hi M = .ok (.lst (cutD ds lo hi)) M := (rfl)
theorem cutD_take (h : 0 ≤ i) : cutD ds none (some i) = ds.take i.toNat := by
  obtain ⟨k, rfl⟩ := Int.eq_ofNat_of_zero_le h
  unfold cutD
  rw [HT.sIx_none, HT.sIx_nat]
  simp only [List.drop_zero, Nat.sub_zero, Int.toNat_natCast]
  by_cases q : k ≤ ds.length
  · rw [Nat.min_eq_left q]
  · rw [Nat.min_eq_right (by omega), List.take_length, List.take_of_length_le (by omega)]
theorem cutD_drop (h : 0 ≤ i) : cutD ds (some i) none = ds.drop i.toNat := by
  obtain ⟨k, rfl⟩ := Int.eq_ofNat_of_zero_le h
  unfold cutD
  rw [HT.sIx_none, HT.sIx_nat]
  simp only [Int.toNat_natCast]
  by_cases q : k ≤ ds.length
  · rw [Nat.min_eq_left q, List.take_of_length_le (by rw [List.length_drop]; omega)]
  · rw [Nat.min_eq_right (by omega), List.drop_length, List.take_nil, List.drop_of_length_le (by omega)]
theorem cutS_take (h : 0 ≤ i) : (cutS x none (some i)).cps.toList = x.cps.toList.take i.toNat := by
  obtain ⟨k, rfl⟩ := Int.eq_ofNat_of_zero_le h
  unfold cutS
  have hl : x.length = x.cps.toList.length := by simp [Str.length]
  rw [HT.sIx_none, HT.sIx_nat]
  simp only [List.drop_zero, Nat.sub_zero, Int.toNat_natCast]
  by_cases q : k ≤ x.length
  · rw [Nat.min_eq_left q]
  · rw [Nat.min_eq_right (by omega), hl, List.take_length, List.take_of_length_le (by omega)]
theorem cutS_drop (h : 0 ≤ i) : (cutS x (some i) none).cps.toList = x.cps.toList.drop i.toNat := by
  obtain ⟨k, rfl⟩ := Int.eq_ofNat_of_zero_le h
  unfold cutS
  have hl : x.length = x.cps.toList.length := by simp [Str.length]
  rw [HT.sIx_none, HT.sIx_nat]
  simp only [Int.toNat_natCast]
  by_cases q : k ≤ x.length
  · rw [Nat.min_eq_left q, List.take_of_length_le (by rw [List.length_drop]; omega)]
  · rw [Nat.min_eq_right (by omega), hl, List.drop_length, List.take_nil, List.drop_of_length_le (by omega)]
/-! ### comprehensions -/
@[simp] theorem bYes_ap : bYes S M = .ok true M := (rfl)
/-- the comprehension at the store M0 set at h to a thing of which P holds -/
theorem lcL_at {gd : Mem → Prop} (hg : ∀ M, gd M) {g : GF} {b : BF} {e : EF} {S0 : Sl} {h : Nat} {P : MO → Prop} {Y : D → Prop} :
    ∀ (ds acc : List D) (mo : MO), acc.length + ds.length ≤ sizeLine → P mo →
      (∀ d ∈ ds, ∀ mo, P mo → ∃ S1 y mo', P mo' ∧ Y y ∧ g d S0 (M.set h mo) = .ok S1 (M.set h mo) ∧ b S1 (M.set h mo) = .ok true (M.set h mo) ∧ e S1 (M.set h mo) = .ok y (M.set h mo')) →
      ∃ ys mo', P mo' ∧ ys.length = ds.length ∧ (∀ y ∈ ys, Y y) ∧ lcL gd g b e S0 ds acc (M.set h mo) = .ok (acc ++ ys) (M.set h mo')
  | [], acc, mo, _, hp, _ => ⟨[], mo, hp, rfl, (by simp), by unfold lcL; rw [if_pos (hg _), List.append_nil]⟩
  | d :: r, acc, mo, hl, hp, hs => by
    obtain ⟨S1, y, mo1, p1, yy, e1, e2, e3⟩ := hs d List.mem_cons_self mo hp
    rw [List.length_cons] at hl
    obtain ⟨ys, mo', p2, l2, a2, e4⟩ := lcL_at hg r (acc ++ [y]) mo1 (by rw [List.length_append, List.length_singleton]; omega) p1 fun d hd => hs d (List.mem_cons_of_mem _ hd)
    refine ⟨y :: ys, mo', p2, by rw [List.length_cons, List.length_cons, l2], fun z hz => ?_, ?_⟩
    · rcases List.mem_cons.mp hz with q | q
      · rw [q]; exact yy
      · exact a2 z q
    · unfold lcL
      rw [if_pos (hg _), e1]
      simp only [e2, e3]
      rw [if_pos (by omega), e4, List.append_assoc]
      rfl
/-- a comprehension that leaves the store as it is -/
theorem lcL_map {gd : Mem → Prop} (hg : gd M) {g : GF} {b : BF} {e : EF} {S0 : Sl} (F : D → Option D) :
    ∀ (ds acc : List D), acc.length + ds.length ≤ sizeLine →
      (∀ d ∈ ds, ∃ S1, g d S0 M = .ok S1 M ∧ match F d with | some y => b S1 M = .ok true M ∧ e S1 M = .ok y M | none => b S1 M = .ok false M) →
      lcL gd g b e S0 ds acc M = .ok (acc ++ ds.filterMap F) M
  | [], acc, _, _ => by unfold lcL; rw [if_pos hg, List.filterMap_nil, List.append_nil]
  | d :: r, acc, hl, hs => by
    obtain ⟨S1, e1, h1⟩ := hs d List.mem_cons_self
    rw [List.length_cons] at hl
    unfold lcL
    rw [if_pos hg, e1]
    cases q : F d with
    | none =>
      rw [q] at h1
      simp only [h1]
      rw [lcL_map hg F r acc (by omega) fun d hd => hs d (List.mem_cons_of_mem _ hd), List.filterMap_cons_none q]
    | some y =>
      rw [q] at h1
      simp only [h1.1, h1.2]
      rw [if_pos (by omega), lcL_map hg F r (acc ++ [y]) (by rw [List.length_append, List.length_singleton]; omega) fun d hd => hs d (List.mem_cons_of_mem _ hd), List.filterMap_cons_some q, List.append_assoc]
      rfl
/-! ### walks -/
def i1R (r : Res (List D)) : Res Its := r.bind fun ds M1 => match ds with
  | [.int j] => if -(2 ^ 62) ≤ j ∧ j < 2 ^ 62 then .ok ⟨rangeD 0 j.toNat, none⟩ M1 else .bad
  | _ => .bad
@[simp] theorem iRange1_ap {a : AF} : iRange1 a S M = i1R (a S M) := (rfl)
theorem i1R_ok (h : 0 ≤ i) (h2 : i < 2 ^ 62) : i1R (.ok [.int i] M) = .ok ⟨rangeD 0 i.toNat, none⟩ M := if_pos ⟨by omega, h2⟩
def isR (r : Res D) : Res Its := r.bind fun d M1 => match d with
  | .lst ds => .ok ⟨ds, none⟩ M1
  | .ptr k => match M1[k]? with
    | some (.lst ds) => .ok ⟨ds, some k⟩ M1
    | _ => .bad
  | _ => .bad
@[simp] theorem iSeq_ap : iSeq f S M = isR (f S M) := (rfl)
@[simp] theorem isR_l : isR (.ok (.lst ds) M) = .ok ⟨ds, none⟩ M := (rfl)
def itR (r : Res D) : Res Its := r.bind fun d M1 => match d with
  | .tup ds => .ok ⟨ds, none⟩ M1
  | _ => .bad
@[simp] theorem iTupF_ap : iTupF f S M = itR (f S M) := (rfl)
@[simp] theorem itR_t : itR (.ok (.tup ds) M) = .ok ⟨ds, none⟩ M := (rfl)
noncomputable def lcR (g : GF) (b : BF) (e : EF) (vs : List Nat) (S : Sl) (r : Res Its) : Res D := r.bind fun I M1 => (lcL I.gd g b e (kl vs S) I.ds [] M1).bind fun ys M2 => .ok (.lst ys) M2
theorem eLc_ap {I : IF} {g : GF} {b : BF} {vs : List Nat} : eLc I g b f vs S M = lcR g b f vs S (I S M) := (rfl)
noncomputable def lcE (r : Res (List D)) : Res D := r.bind fun ys M2 => .ok (.lst ys) M2
theorem lcR_ok {I : Its} {g : GF} {b : BF} {vs : List Nat} : lcR g b f vs S (.ok I M) = lcE (lcL I.gd g b f (kl vs S) I.ds [] M) := (rfl)
@[simp] theorem lcE_ok : lcE (.ok ds M) = .ok (.lst ds) M := (rfl)
@[simp] theorem kl_nil : kl [] S = S := (rfl)
@[simp] theorem kl_cons {r : List Nat} : kl (n :: r) S = kl r (S.set n none) := (rfl)
noncomputable def foR (g : GF) (t : TF) (vs : List Nat) (S : Sl) (r : Res Its) : SR := r.thn S fun I M1 => forL I.gd g t vs I.ds S M1
theorem kFor_ap {I : IF} {g : GF} {vs : List Nat} : kFor I g t vs S M = foR g t vs S (I S M) := (rfl)
theorem foR_ok {I : Its} {g : GF} {vs : List Nat} : foR g t vs S (.ok I M) = forL I.gd g t vs I.ds S M := (rfl)
/-- a loop with an invariant: J by what is done; the store and slots are J's -/
theorem forL_inv {gd : Mem → Prop} {g : GF} {vs : List Nat} {J : List D → Sl → Mem → Prop} (hg : ∀ l S M, J l S M → gd M)
    (hs : ∀ l d S M, J l S M → ∃ S1 M1 S2 M2, g d S M = .ok S1 M1 ∧ (t S1 M1 = .nx S2 M2 ∨ t S1 M1 = .ct S2 M2) ∧ J (l ++ [d]) (kl vs S2) M2) :
    ∀ (ds l : List D) (S : Sl) (M : Mem), J l S M → ∃ S' M', forL gd g t vs ds S M = .nx S' M' ∧ J (l ++ ds) S' M'
  | [], l, S, M, h => ⟨S, M, by unfold forL; rw [if_pos (hg _ _ _ h)], by rw [List.append_nil]; exact h⟩
  | d :: r, l, S, M, h => by
    obtain ⟨S1, M1, S2, M2, e1, e2, h2⟩ := hs l d S M h
    obtain ⟨S', M', e3, h3⟩ := forL_inv hg hs r (l ++ [d]) _ _ h2
    refine ⟨S', M', ?_, by rw [List.append_assoc] at h3; exact h3⟩
    unfold forL
    rw [if_pos (hg _ _ _ h), e1]
    show (match t S1 M1 with
      | .nx S2 M2 => forL gd g t vs r (kl vs S2) M2
      | .ct S2 M2 => forL gd g t vs r (kl vs S2) M2
      | .bk S2 M2 => .nx S2 M2
      | r => r) = _
    rcases e2 with e2 | e2 <;> · rw [e2]; exact e3
end
end QL
end
section
set_option Elab.async false
set_option linter.all false
set_option maxRecDepth 100000
set_option maxHeartbeats 4000000
set_option autoImplicit false
namespace QL
open PySem PySem.Spec L2
open Classical
def topQ (i : Nat) : Stmt := PySem.Challenge.pw_eitherpays_k87_first_bad_events.main.body.getD i (.Pass ⟨0, 0, 0, 0⟩)
abbrev s__law_hand : Stmt := topQ 7
abbrev s__law_step : Stmt := topQ 8
abbrev s__law_take : Stmt := topQ 9
abbrev s__law_draw : Stmt := topQ 10
abbrev s__law_names : Stmt := topQ 12
abbrev s__law_two : Stmt := topQ 13
abbrev s__law_record : Stmt := topQ 14
abbrev s_end_of : Stmt := topQ 3
abbrev s_players_of : Stmt := topQ 1
abbrev s_least_tickets : Stmt := topQ 2
abbrev s_can_be : Stmt := topQ 4
abbrev s_first_bad : Stmt := topQ 5
abbrev s__law_seen : Stmt := topQ 15
abbrev s__law_end : Stmt := topQ 16
abbrev s__law_all_starts : Stmt := topQ 17
abbrev s__law_due : Stmt := topQ 18
abbrev s__law_alike : Stmt := topQ 11
abbrev s_law : Stmt := topQ 19
structure Tx (K : PySem.W.Frag) (mg : Str → Option Value) : Prop where
  b_abs : mg "abs" = none
  b_dict : mg "dict" = none
  b_int : mg "int" = none
  b_len : mg "len" = none
  b_list : mg "list" = none
  b_max : mg "max" = none
  b_range : mg "range" = none
  b_repr : mg "repr" = none
  b_set : mg "set" = none
  b_sorted : mg "sorted" = none
  r__law_hand : Raw K mg "_law_hand" s__law_hand ["_law_script"]
  r__law_step : Raw K mg "_law_step" s__law_step ["_law_hand_here"]
  r__law_take : Raw K mg "_law_take" s__law_take ["_law_hand_here"]
  r__law_draw : Raw K mg "_law_draw" s__law_draw ["_law_hand_here", "_law_tally"]
  r__law_names : Raw K mg "_law_names" s__law_names ["_law_hand_here", "_law_many"]
  r__law_two : Raw K mg "_law_two" s__law_two ["_law_hand_here", "_law_names_here"]
  r__law_record : Raw K mg "_law_record" s__law_record ["_law_hand_here", "_law_names_here", "_law_limit"]
  r_end_of : Raw K mg "end_of" s_end_of ["record", "tickets"]
  r_players_of : Raw K mg "players_of" s_players_of ["record"]
  r_least_tickets : Raw K mg "least_tickets" s_least_tickets ["record"]
  r_can_be : Raw K mg "can_be" s_can_be ["record"]
  r_first_bad : Raw K mg "first_bad" s_first_bad ["record"]
  r__law_seen : Raw K mg "_law_seen" s__law_seen ["_law_record_here"]
  r__law_end : Raw K mg "_law_end" s__law_end ["_law_record_here", "_law_tickets"]
  r__law_all_starts : Raw K mg "_law_all_starts" s__law_all_starts ["_law_record_here"]
  r__law_due : Raw K mg "_law_due" s__law_due ["_law_record_here"]
  r__law_alike : Raw K mg "_law_alike" s__law_alike ["_law_found", "_law_due_here"]
  r_law : Raw K mg "law" s_law ["_law_script"]
/-! _law_hand -/
def N__law_hand : List Str := ["_law_script"]
theorem sc__law_hand : FnScope N__law_hand ["_law_script"] (defScope s__law_hand) := ⟨rfl, rfl, rfl, by decide +kernel, rfl, by decide +kernel, by decide +kernel⟩
noncomputable def t__law_hand : TF := (kRet (eLstP (aCons (eCall bList (aCons (eSl (eVar 0) oNone (oSome (eC (.int 63)))) aNil)) (aCons (eC (.int 0)) (aCons (eC (.int 0)) (aCons (eC (.int 0)) (aCons (eC (.int 20011)) (aCons (eC (.int 40009)) aNil))))))))
noncomputable def g__law_hand : List D → Mem → Res D := runF 1 0 t__law_hand
theorem q__law_hand {P : Program} {w : World} {K : PySem.W.Frag} {mg : Str → Option Value} {base : Heap} (T : Tx K mg) : Has P w K mg base 1 "_law_hand" ["_law_script"] g__law_hand :=
  T.r__law_hand.has sc__law_hand rfl fun f cdv A outer s H E hr => (qs_one (qret (qlstP (qa_cons (qlist (by rfl) T.b_list (qa_cons (qsl (qv 0) qo_none (qo_some qint)) qa_nil)) (qa_cons qint (qa_cons qint (qa_cons qint (qa_cons qint (qa_cons qint qa_nil)))))))))
/-! _law_step -/
def N__law_step : List Str := ["_law_hand_here"]
theorem sc__law_step : FnScope N__law_step ["_law_hand_here"] (defScope s__law_step) := ⟨rfl, rfl, rfl, by decide +kernel, rfl, by decide +kernel, by decide +kernel⟩
noncomputable def t__law_step : TF := (kSeq (kAsg (e2 fMod (e2 fMul (e2 fIxA (eVar 0) (eC (.int 4))) (eC (.int 48271))) (eC (.int 2147483647))) (gSubL (eVar 0) (eC (.int 4))))
    (kSeq (kAsg (e2 fMod (e2 fMul (e2 fIxA (eVar 0) (eC (.int 5))) (eC (.int 40692))) (eC (.int 2147483399))) (gSubL (eVar 0) (eC (.int 5))))
    (kRet (e2 fAdd (e2 fIxA (eVar 0) (eC (.int 4))) (e2 fIxA (eVar 0) (eC (.int 5)))))))
noncomputable def g__law_step : List D → Mem → Res D := runF 1 0 t__law_step
theorem q__law_step {P : Program} {w : World} {K : PySem.W.Frag} {mg : Str → Option Value} {base : Heap} (T : Tx K mg) : Has P w K mg base 1 "_law_step" ["_law_hand_here"] g__law_step :=
  T.r__law_step.has sc__law_step rfl fun f cdv A outer s H E hr => (qs_cons (qasg (qmod (qmul (qixA hr.units (qv 0) qint) qint) qint) (qg_subL (qv 0) qint))
    (qs_cons (qasg (qmod (qmul (qixA hr.units (qv 0) qint) qint) qint) (qg_subL (qv 0) qint))
    (qs_one (qret (qadd (qixA hr.units (qv 0) qint) (qixA hr.units (qv 0) qint))))))
/-! _law_take -/
def N__law_take : List Str := ["_law_hand_here", "_law_cell"]
theorem sc__law_take : FnScope N__law_take ["_law_hand_here"] (defScope s__law_take) := ⟨rfl, rfl, rfl, by decide +kernel, rfl, by decide +kernel, by decide +kernel⟩
noncomputable def t__law_take_1 : TF := (kIf (bV (e2 fLt (e2 fIxA (eVar 0) (eC (.int 1))) (eCall bLenA (aCons (e2 fIxA (eVar 0) (eC (.int 0))) aNil))))
    (kAsg (eCall bAbs (aCons (e2 fIxA (e2 fIxA (eVar 0) (eC (.int 0))) (e2 fIxA (eVar 0) (eC (.int 1)))) aNil)) (gN 1))
    kNil)
noncomputable def t__law_take_2 : TF := (kIf (bV (e2 fGe (eVar 1) (e2 fPow (eC (.int 10)) (eC (.int 18)))))
    (kAsg (eVar 1) (gSubL (eVar 0) (eC (.int 2))))
    (kAsg (eC (.int 7)) (gSubL (eVar 0) (eC (.int 3)))))
noncomputable def t__law_take : TF := (kSeq (kAsg (eC (.int 0)) (gN 1))
    (kSeq t__law_take_1
    (kSeq (kLAug (eVar 0) (eC (.int 1)) (eC (.int 1)) (fun i j => i + j))
    (kSeq t__law_take_2
    (kSeq (kAsg (e2 fAdd (e2 fMod (e2 fAdd (e2 fIxA (eVar 0) (eC (.int 4))) (e2 fMod (eVar 1) (eC (.int 2147483587)))) (eC (.int 2147483646))) (eC (.int 1))) (gSubL (eVar 0) (eC (.int 4))))
    (kSeq (kAsg (e2 fAdd (e2 fMod (e2 fAdd (e2 fMul (e2 fIxA (eVar 0) (eC (.int 5))) (eC (.int 3))) (e2 fMod (eVar 1) (eC (.int 1000003)))) (eC (.int 2147483398))) (eC (.int 1))) (gSubL (eVar 0) (eC (.int 5))))
    (kSeq (kDrop (eCall g__law_step (aCons (eVar 0) aNil)))
    (kDrop (eCall g__law_step (aCons (eVar 0) aNil))))))))))
noncomputable def g__law_take : List D → Mem → Res D := runF 1 1 t__law_take
theorem q__law_take {P : Program} {w : World} {K : PySem.W.Frag} {mg : Str → Option Value} {base : Heap} (T : Tx K mg) : Has P w K mg base 2 "_law_take" ["_law_hand_here"] g__law_take :=
  T.r__law_take.has sc__law_take rfl fun f cdv A outer s H E hr => (qs_cons (qset (i := 1) sc__law_take.nd rfl qint)
    (qs_cons (qif (tLt' (qixA hr.units (qv 0) qint) (qlenA (by rfl) T.b_len (qa_cons (qixA hr.units (qv 0) qint) qa_nil))) (qs_one (qset (i := 1) sc__law_take.nd rfl (qabs (by rfl) T.b_abs (qa_cons (qixA hr.units (qixA hr.units (qv 0) qint) (qixA hr.units (qv 0) qint)) qa_nil)))) qs_nil)
    (qs_cons (qlaug (qv 0) qint qint ip_add)
    (qs_cons (qif (tGe' (qv 1) (qpow qint qint)) (qs_one (qasg (qv 1) (qg_subL (qv 0) qint))) (qs_one (qasg qint (qg_subL (qv 0) qint))))
    (qs_cons (qasg (qadd (qmod (qadd (qixA hr.units (qv 0) qint) (qmod (qv 1) qint)) qint) qint) (qg_subL (qv 0) qint))
    (qs_cons (qasg (qadd (qmod (qadd (qmul (qixA hr.units (qv 0) qint) qint) (qmod (qv 1) qint)) qint) qint) (qg_subL (qv 0) qint))
    (qs_cons (qexpr (qcall (q__law_step T) (hr.mono (by decide)) takesQ (by rfl) (qa_cons (qv 0) qa_nil)))
    (qs_one (qexpr (qcall (q__law_step T) (hr.mono (by decide)) takesQ (by rfl) (qa_cons (qv 0) qa_nil)))))))))))
/-! _law_draw -/
def N__law_draw : List Str := ["_law_hand_here", "_law_tally", "_law_got", "_law_value", "_law_size"]
theorem sc__law_draw : FnScope N__law_draw ["_law_hand_here", "_law_tally"] (defScope s__law_draw) := ⟨rfl, rfl, rfl, by decide +kernel, rfl, by decide +kernel, by decide +kernel⟩
noncomputable def t__law_draw_1 : TF := (kIf (bAnd (bV (e2 fEqA (e2 fIxA (eVar 0) (eC (.int 2))) (eC (.int 0)))) (bV (e2 fEqA (e2 fIxA (eVar 0) (eC (.int 3))) (eC (.int 0)))))
    (kDrop (eCall g__law_take (aCons (eVar 0) aNil)))
    kNil)
noncomputable def t__law_draw_2 : TF := (kIf (bV (e2 fGt (e2 fIxA (eVar 0) (eC (.int 2))) (eC (.int 0))))
    (kSeq (kAsg (e2 fMod (e2 fIxA (eVar 0) (eC (.int 2))) (eVar 1)) (gN 2))
    (kSeq (kAsg (e2 fDiv (e2 fIxA (eVar 0) (eC (.int 2))) (eVar 1)) (gSubL (eVar 0) (eC (.int 2))))
    (kRet (eVar 2))))
    kNil)
noncomputable def b__law_draw_3 : TF := (kSeq (kAsg (e2 fAdd (e2 fMul (eVar 3) (eC (.int 4294967296))) (eCall g__law_step (aCons (eVar 0) aNil))) (gN 3))
    (kAsg (e2 fMul (eVar 4) (eC (.int 4294967296))) (gN 4)))
noncomputable def t__law_draw_4 : TF := (kWhile (bV (e2 fLt (eVar 4) (eVar 1))) b__law_draw_3 [])
noncomputable def t__law_draw : TF := (kSeq t__law_draw_1
    (kSeq t__law_draw_2
    (kSeq (kLAug (eVar 0) (eC (.int 3)) (eC (.int 1)) (fun i j => i - j))
    (kSeq (kAsg (eCall g__law_step (aCons (eVar 0) aNil)) (gN 3))
    (kSeq (kAsg (eC (.int 4294967296)) (gN 4))
    (kSeq t__law_draw_4
    (kRet (e2 fMod (eVar 3) (eVar 1)))))))))
noncomputable def g__law_draw : List D → Mem → Res D := runF 2 3 t__law_draw
theorem q__law_draw {P : Program} {w : World} {K : PySem.W.Frag} {mg : Str → Option Value} {base : Heap} (T : Tx K mg) : Has P w K mg base 3 "_law_draw" ["_law_hand_here", "_law_tally"] g__law_draw :=
  T.r__law_draw.has sc__law_draw rfl fun f cdv A outer s H E hr => (qs_cons (qif (qt_w (qw_and (tEqA hr.units (qixA hr.units (qv 0) qint) qint) (qw_and1 (tEqA hr.units (qixA hr.units (qv 0) qint) qint)))) (qs_one (qexpr (qcall (q__law_take T) (hr.mono (by decide)) takesQ (by rfl) (qa_cons (qv 0) qa_nil)))) qs_nil)
    (qs_cons (qif (tGt' (qixA hr.units (qv 0) qint) qint) (qs_cons (qset (i := 2) sc__law_draw.nd rfl (qmod (qixA hr.units (qv 0) qint) (qv 1)))
    (qs_cons (qasg (qdiv (qixA hr.units (qv 0) qint) (qv 1)) (qg_subL (qv 0) qint))
    (qs_one (qret (qv 2))))) qs_nil)
    (qs_cons (qlaug (qv 0) qint qint ip_sub)
    (qs_cons (qset (i := 3) sc__law_draw.nd rfl (qcall (q__law_step T) (hr.mono (by decide)) takesQ (by rfl) (qa_cons (qv 0) qa_nil)))
    (qs_cons (qset (i := 4) sc__law_draw.nd rfl qint)
    (qs_cons (qwhile (vs := []) passesQ (tLt' (qv 4) (qv 1)) (qs_cons (qset (i := 3) sc__law_draw.nd rfl (qadd (qmul (qv 3) qint) (qcall (q__law_step T) (hr.mono (by decide)) takesQ (by rfl) (qa_cons (qv 0) qa_nil))))
    (qs_one (qset (i := 4) sc__law_draw.nd rfl (qmul (qv 4) qint)))))
    (qs_one (qret (qmod (qv 3) (qv 1))))))))))
/-! _law_names -/
def N__law_names : List Str := ["_law_hand_here", "_law_many", "_law_letters", "_law_words", "_law_way", "_law_turn", "_law_base", "_law_at", "_law_k"]
theorem sc__law_names : FnScope N__law_names ["_law_hand_here", "_law_many"] (defScope s__law_names) := ⟨rfl, rfl, rfl, by decide +kernel, rfl, by decide +kernel, by decide +kernel⟩
noncomputable def e__law_names_1 : EF := (eLc (iRange1 (aCons (e2 fAdd (eC (.int 1)) (eCall g__law_draw (aCons (eVar 0) (aCons (eC (.int 7)) aNil)))) aNil)) (gN 8) bYes (e2 fIxA (eVar 2) (eCall g__law_draw (aCons (eVar 0) (aCons (eC (.int 26)) aNil)))) [8])
noncomputable def t__law_names_2 : TF := (kIf (bV (e2 fEqA (eVar 4) (eC (.int 0))))
    (kRet (eSl (e2 fAdd (eSl (eVar 3) (oSome (eVar 5)) oNone) (eSl (eVar 3) oNone (oSome (eVar 5)))) oNone (oSome (eVar 1))))
    kNil)
noncomputable def e__law_names_3 : EF := (eLc (iRange1 (aCons (eVar 1) aNil)) (gN 8) bYes (e2 fIxA (eVar 2) (e2 fMod (e2 fAdd (eVar 5) (e2 fMul (eC (.int 3)) (eVar 8))) (eC (.int 26)))) [8])
noncomputable def t__law_names_4 : TF := (kIf (bV (e2 fEqA (eVar 4) (eC (.int 1))))
    (kRet e__law_names_3)
    kNil)
noncomputable def e__law_names_5 : EF := (eLc (iRange1 (aCons (eVar 1) aNil)) (gN 8) bYes (e2 fAdd (e2 fAdd (eSl (eVar 6) oNone (oSome (eVar 7))) (e2 fIxA (eVar 2) (e2 fMod (e2 fAdd (eVar 5) (e2 fMul (eC (.int 3)) (eVar 8))) (eC (.int 26))))) (eSl (eVar 6) (oSome (eVar 7)) oNone)) [8])
noncomputable def t__law_names : TF := (kSeq (kAsg (eC (.str "abcdefghijklmnopqrstuvwxyz")) (gN 2))
    (kSeq (kAsg (eC (.str "join give wish withdraw meet undo redo purses lot choices plan room left could yes no ok")) (gN 3))
    (kSeq (kAsg (eSplit (e2 fAdd (eVar 3) (eC (.str " a b ab ba aa z zz"))) (eC (.str " "))) (gN 3))
    (kSeq (kAsg (eTup (aCons (eCall g__law_draw (aCons (eVar 0) (aCons (eC (.int 4)) aNil))) (aCons (eCall g__law_draw (aCons (eVar 0) (aCons (eC (.int 24)) aNil))) aNil))) (gTupF 2 (gConsF (gN 4) (gConsF (gN 5) gNilF))))
    (kSeq (kAsg (eJoin (eC (.str "")) e__law_names_1) (gN 6))
    (kSeq (kAsg (eCall g__law_draw (aCons (eVar 0) (aCons (e2 fAdd (eCall bLenA (aCons (eVar 6) aNil)) (eC (.int 1))) aNil))) (gN 7))
    (kSeq t__law_names_2
    (kSeq t__law_names_4
    (kRet e__law_names_5)))))))))
noncomputable def g__law_names : List D → Mem → Res D := runF 2 7 t__law_names
theorem q__law_names {P : Program} {w : World} {K : PySem.W.Frag} {mg : Str → Option Value} {base : Heap} (T : Tx K mg) : Has P w K mg base 4 "_law_names" ["_law_hand_here", "_law_many"] g__law_names :=
  T.r__law_names.has sc__law_names rfl fun f cdv A outer s H E hr => (qs_cons (qset (i := 2) sc__law_names.nd rfl qstr)
    (qs_cons (qset (i := 3) sc__law_names.nd rfl qstr)
    (qs_cons (qset (i := 3) sc__law_names.nd rfl (qsplit (qadd (qv 3) qstr) qstr))
    (qs_cons (qasg (qtup (qa_cons (qcall (q__law_draw T) (hr.mono (by decide)) takesQ (by rfl) (qa_cons (qv 0) (qa_cons qint qa_nil))) (qa_cons (qcall (q__law_draw T) (hr.mono (by decide)) takesQ (by rfl) (qa_cons (qv 0) (qa_cons qint qa_nil))) qa_nil))) (qg_tup rfl (qgs_cons (qg_name (i := 4) sc__law_names.nd rfl) (qgs_cons (qg_name (i := 5) sc__law_names.nd rfl) qgs_nil))))
    (qs_cons (qset (i := 6) sc__law_names.nd rfl (qjoin qstr (qlc (own := [("_law_k", 8)]) rfl sc__law_names.nd (qi_range1 (by rfl) T.b_range (qa_cons (qadd qint (qcall (q__law_draw T) (hr.mono (by decide)) takesQ (by rfl) (qa_cons (qv 0) (qa_cons qint qa_nil)))) qa_nil)) (blkOk_by (own := [("_law_k", 8)]) (N := N__law_names) (sc := defScope s__law_names) (by decide +kernel)) (fun _ _ _ _ _ => (qv_name (i := 8) sc__law_names.nd rfl (by decide))) (fun _ _ _ _ _ => qts_nil) (fun _ _ _ _ _ => (qixA hr.units (qv 2) (qcall (q__law_draw T) (hr.mono (by decide)) takesB (by rfl) (qa_cons (qv 0) (qa_cons qint qa_nil))))))))
    (qs_cons (qset (i := 7) sc__law_names.nd rfl (qcall (q__law_draw T) (hr.mono (by decide)) takesQ (by rfl) (qa_cons (qv 0) (qa_cons (qadd (qlenA (by rfl) T.b_len (qa_cons (qv 6) qa_nil)) qint) qa_nil))))
    (qs_cons (qif (tEqA hr.units (qv 4) qint) (qs_one (qret (qsl (qadd (qsl (qv 3) (qo_some (qv 5)) qo_none) (qsl (qv 3) qo_none (qo_some (qv 5)))) qo_none (qo_some (qv 1))))) qs_nil)
    (qs_cons (qif (tEqA hr.units (qv 4) qint) (qs_one (qret (qlc (own := [("_law_k", 8)]) rfl sc__law_names.nd (qi_range1 (by rfl) T.b_range (qa_cons (qv 1) qa_nil)) (blkOk_by (own := [("_law_k", 8)]) (N := N__law_names) (sc := defScope s__law_names) (by decide +kernel)) (fun _ _ _ _ _ => (qv_name (i := 8) sc__law_names.nd rfl (by decide))) (fun _ _ _ _ _ => qts_nil) (fun _ _ _ _ _ => (qixA hr.units (qv 2) (qmod (qadd (qv 5) (qmul qint (qv 8))) qint)))))) qs_nil)
    (qs_one (qret (qlc (own := [("_law_k", 8)]) rfl sc__law_names.nd (qi_range1 (by rfl) T.b_range (qa_cons (qv 1) qa_nil)) (blkOk_by (own := [("_law_k", 8)]) (N := N__law_names) (sc := defScope s__law_names) (by decide +kernel)) (fun _ _ _ _ _ => (qv_name (i := 8) sc__law_names.nd rfl (by decide))) (fun _ _ _ _ _ => qts_nil) (fun _ _ _ _ _ => (qadd (qadd (qsl (qv 6) qo_none (qo_some (qv 7))) (qixA hr.units (qv 2) (qmod (qadd (qv 5) (qmul qint (qv 8))) qint))) (qsl (qv 6) (qo_some (qv 7)) qo_none))))))))))))))
/-! _law_two -/
def N__law_two : List Str := ["_law_hand_here", "_law_names_here", "_law_one", "_law_rest", "_law_name"]
theorem sc__law_two : FnScope N__law_two ["_law_hand_here", "_law_names_here"] (defScope s__law_two) := ⟨rfl, rfl, rfl, by decide +kernel, rfl, by decide +kernel, by decide +kernel⟩
noncomputable def e__law_two_1 : EF := (eLc (iSeq (eVar 1)) (gN 4) (bV (e2 fNe (eVar 4) (eVar 2))) (eVar 4) [4])
noncomputable def t__law_two : TF := (kSeq (kAsg (e2 fIxA (eVar 1) (eCall g__law_draw (aCons (eVar 0) (aCons (eCall bLenA (aCons (eVar 1) aNil)) aNil)))) (gN 2))
    (kSeq (kAsg e__law_two_1 (gN 3))
    (kRet (eTup (aCons (eVar 2) (aCons (e2 fIxA (eVar 3) (eCall g__law_draw (aCons (eVar 0) (aCons (eCall bLenA (aCons (eVar 3) aNil)) aNil)))) aNil))))))
noncomputable def g__law_two : List D → Mem → Res D := runF 2 3 t__law_two
theorem q__law_two {P : Program} {w : World} {K : PySem.W.Frag} {mg : Str → Option Value} {base : Heap} (T : Tx K mg) : Has P w K mg base 4 "_law_two" ["_law_hand_here", "_law_names_here"] g__law_two :=
  T.r__law_two.has sc__law_two rfl fun f cdv A outer s H E hr => (qs_cons (qset (i := 2) sc__law_two.nd rfl (qixA hr.units (qv 1) (qcall (q__law_draw T) (hr.mono (by decide)) takesQ (by rfl) (qa_cons (qv 0) (qa_cons (qlenA (by rfl) T.b_len (qa_cons (qv 1) qa_nil)) qa_nil)))))
    (qs_cons (qsetLc (i := 3) (own := [("_law_name", 4)]) (.inl rfl) rfl sc__law_two.nd rfl rfl (by rfl) (qi_list (qv 1)) (blkOk_by (own := [("_law_name", 4)]) (N := N__law_two) (sc := defScope s__law_two) (by decide +kernel)) (fun _ _ _ _ _ => (qv_name (i := 4) sc__law_two.nd rfl (by decide))) (fun _ _ _ _ _ => (qts_one (tNe hr.units (qv 4) (qv 2)))) (fun _ _ _ _ _ => (qv 4)))
    (qs_one (qret (qtup (qa_cons (qv 2) (qa_cons (qixA hr.units (qv 3) (qcall (q__law_draw T) (hr.mono (by decide)) takesQ (by rfl) (qa_cons (qv 0) (qa_cons (qlenA (by rfl) T.b_len (qa_cons (qv 3) qa_nil)) qa_nil)))) qa_nil)))))))
/-! _law_record -/
def N__law_record : List Str := ["_law_hand_here", "_law_names_here", "_law_limit", "_law_found", "_law_k", "_law_one", "_law_other", "_law_way"]
theorem sc__law_record : FnScope N__law_record ["_law_hand_here", "_law_names_here", "_law_limit"] (defScope s__law_record) := ⟨rfl, rfl, rfl, by decide +kernel, rfl, by decide +kernel, by decide +kernel⟩
noncomputable def t__law_record_1 : TF := (kIf (bV (e2 fLt (eVar 7) (eC (.int 7))))
    (kDrop (eApp (eVar 3) (eTup (aCons (eC (.str "refused")) (aCons (eVar 5) (aCons (eVar 6) aNil))))))
    (kDrop (eApp (eVar 3) (eTup (aCons (eC (.str "gift")) (aCons (eVar 5) (aCons (e2 fIxA (eLst (aCons (eC (.int 1)) (aCons (eC (.int 1)) (aCons (eC (.int 2)) (aCons (eC (.int 3)) (aCons (e2 fAdd (eC (.int 4)) (eCall g__law_draw (aCons (eVar 0) (aCons (eC (.int 6)) aNil)))) aNil)))))) (eCall g__law_draw (aCons (eVar 0) (aCons (eC (.int 5)) aNil)))) aNil)))))))
noncomputable def t__law_record_2 : TF := (kIf (bV (e2 fLt (eVar 7) (eC (.int 4))))
    (kDrop (eApp (eVar 3) (eTup (aCons (eC (.str "met")) (aCons (eVar 5) (aCons (eVar 6) aNil))))))
    t__law_record_1)
noncomputable def b__law_record_3 : TF := (kSeq (kAsg (eCall g__law_two (aCons (eVar 0) (aCons (eVar 1) aNil))) (gTupF 2 (gConsF (gN 5) (gConsF (gN 6) gNilF))))
    (kSeq (kAsg (eCall g__law_draw (aCons (eVar 0) (aCons (eC (.int 8)) aNil))) (gN 7))
    t__law_record_2))
noncomputable def t__law_record_4 : TF := (kFor (iRange1 (aCons (eCall g__law_draw (aCons (eVar 0) (aCons (e2 fAdd (eVar 2) (eC (.int 1))) aNil))) aNil)) (gN 4) b__law_record_3 [4, 5, 6, 7])
noncomputable def t__law_record : TF := (kSeq (kAsg (eLstP aNil) (gN 3))
    (kSeq t__law_record_4
    (kRet (eFrz (eVar 3)))))
noncomputable def g__law_record : List D → Mem → Res D := runF 3 5 t__law_record
theorem q__law_record {P : Program} {w : World} {K : PySem.W.Frag} {mg : Str → Option Value} {base : Heap} (T : Tx K mg) : Has P w K mg base 5 "_law_record" ["_law_hand_here", "_law_names_here", "_law_limit"] g__law_record :=
  T.r__law_record.has sc__law_record rfl fun f cdv A outer s H E hr => (qs_cons (qset (i := 3) sc__law_record.nd rfl (qlstP qa_nil))
    (qs_cons (qfor (vs := [4, 5, 6, 7]) passesQ rfl (qi_range1 (by rfl) T.b_range (qa_cons (qcall (q__law_draw T) (hr.mono (by decide)) takesQ (by rfl) (qa_cons (qv 0) (qa_cons (qadd (qv 2) qint) qa_nil))) qa_nil)) (qg_name (i := 4) sc__law_record.nd rfl) (qs_cons (qasg (qcall (q__law_two T) (hr.mono (by decide)) takesQ (by rfl) (qa_cons (qv 0) (qa_cons (qv 1) qa_nil))) (qg_tup rfl (qgs_cons (qg_name (i := 5) sc__law_record.nd rfl) (qgs_cons (qg_name (i := 6) sc__law_record.nd rfl) qgs_nil))))
    (qs_cons (qset (i := 7) sc__law_record.nd rfl (qcall (q__law_draw T) (hr.mono (by decide)) takesQ (by rfl) (qa_cons (qv 0) (qa_cons qint qa_nil))))
    (qs_one (qif (tLt' (qv 7) qint) (qs_one (qexpr (qapp (qv 3) (qtup (qa_cons qstr (qa_cons (qv 5) (qa_cons (qv 6) qa_nil))))))) (qs_one (qif (tLt' (qv 7) qint) (qs_one (qexpr (qapp (qv 3) (qtup (qa_cons qstr (qa_cons (qv 5) (qa_cons (qv 6) qa_nil))))))) (qs_one (qexpr (qapp (qv 3) (qtup (qa_cons qstr (qa_cons (qv 5) (qa_cons (qixA hr.units (qlst (qa_cons qint (qa_cons qint (qa_cons qint (qa_cons qint (qa_cons (qadd qint (qcall (q__law_draw T) (hr.mono (by decide)) takesQ (by rfl) (qa_cons (qv 0) (qa_cons qint qa_nil)))) qa_nil)))))) (qcall (q__law_draw T) (hr.mono (by decide)) takesQ (by rfl) (qa_cons (qv 0) (qa_cons qint qa_nil)))) qa_nil))))))))))))))
    (qs_one (qret (qfrz (qv 3))))))
/-! end_of -/
def N_end_of : List Str := ["record", "tickets", "now", "word", "one", "other"]
theorem sc_end_of : FnScope N_end_of ["record", "tickets"] (defScope s_end_of) := ⟨rfl, rfl, rfl, by decide +kernel, rfl, by decide +kernel, by decide +kernel⟩
noncomputable def t_end_of_1 : TF := (kIf (bV (e2 fEqA (eVar 3) (eC (.str "met"))))
    (kDAug (eVar 2) (eVar 4) (eC (.int 1)) (fun i j => i - j))
    kNil)
noncomputable def t_end_of_2 : TF := (kIf (bV (e2 fNe (eAnd (e2 fGt (e2 fIxA (eVar 2) (eVar 4)) (eC (.int 0))) (e2 fGt (e2 fIxA (eVar 2) (eVar 5)) (eC (.int 0)))) (e2 fEqA (eVar 3) (eC (.str "met")))))
    (kRet (eC .non))
    t_end_of_1)
noncomputable def t_end_of_3 : TF := (kIf (bV (e2 fEqA (eVar 3) (eC (.str "gift"))))
    (kDAug (eVar 2) (eVar 4) (eVar 5) (fun i j => i + j))
    t_end_of_2)
noncomputable def b_end_of_4 : TF := t_end_of_3
noncomputable def t_end_of_5 : TF := (kFor (iSeq (eVar 0)) (gTupF 3 (gConsF (gN 3) (gConsF (gN 4) (gConsF (gN 5) gNilF)))) b_end_of_4 [3, 4, 5])
noncomputable def t_end_of : TF := (kSeq (kAsg (eCall bDictK (aCons (eVar 1) aNil)) (gN 2))
    (kSeq t_end_of_5
    (kRet (eFrz (eVar 2)))))
noncomputable def g_end_of : List D → Mem → Res D := runF 2 4 t_end_of
theorem q_end_of {P : Program} {w : World} {K : PySem.W.Frag} {mg : Str → Option Value} {base : Heap} (T : Tx K mg) : Has P w K mg base 1 "end_of" ["record", "tickets"] g_end_of :=
  T.r_end_of.has sc_end_of rfl fun f cdv A outer s H E hr => (qs_cons (qset (i := 2) sc_end_of.nd rfl (qdictK (by rfl) T.b_dict (qa_cons (qv 1) qa_nil)))
    (qs_cons (qfor (vs := [3, 4, 5]) passesQ rfl (qi_list (qv 0)) (qg_tup rfl (qgs_cons (qg_name (i := 3) sc_end_of.nd rfl) (qgs_cons (qg_name (i := 4) sc_end_of.nd rfl) (qgs_cons (qg_name (i := 5) sc_end_of.nd rfl) qgs_nil)))) (qs_one (qif (tEqA hr.units (qv 3) qstr) (qs_one (qdadd (un1 hr.units) (qv 2) (qv 4) (qv 5))) (qs_one (qif (tNe hr.units (q_and (qgt (qixA hr.units (qv 2) (qv 4)) qint) (q_one (qgt (qixA hr.units (qv 2) (qv 5)) qint))) (qeqA hr.units (qv 3) qstr)) (qs_one (qret qnon)) (qs_one (qif (tEqA hr.units (qv 3) qstr) (qs_one (qdsub (un1 hr.units) (qv 2) (qv 4) qint)) qs_nil)))))))
    (qs_one (qret (qfrz (qv 2))))))
/-! players_of -/
def N_players_of : List Str := ["record", "found", "word", "one", "other"]
theorem sc_players_of : FnScope N_players_of ["record"] (defScope s_players_of) := ⟨rfl, rfl, rfl, by decide +kernel, rfl, by decide +kernel, by decide +kernel⟩
noncomputable def t_players_of_1 : TF := (kIf (bV (e2 fNe (eVar 2) (eC (.str "gift"))))
    (kDPut (eVar 1) (eVar 4) (eC (.bl true)))
    kNil)
noncomputable def b_players_of_2 : TF := (kSeq (kDPut (eVar 1) (eVar 3) (eC (.bl true)))
    t_players_of_1)
noncomputable def t_players_of_3 : TF := (kFor (iSeq (eVar 0)) (gTupF 3 (gConsF (gN 2) (gConsF (gN 3) (gConsF (gN 4) gNilF)))) b_players_of_2 [2, 3, 4])
noncomputable def t_players_of : TF := (kSeq (kAsg eDnewKP (gN 1))
    (kSeq t_players_of_3
    (kRet (eCall bSortA (aCons (eVar 1) aNil)))))
noncomputable def g_players_of : List D → Mem → Res D := runF 1 4 t_players_of
theorem q_players_of {P : Program} {w : World} {K : PySem.W.Frag} {mg : Str → Option Value} {base : Heap} (T : Tx K mg) : Has P w K mg base 1 "players_of" ["record"] g_players_of :=
  T.r_players_of.has sc_players_of rfl fun f cdv A outer s H E hr => (qs_cons (qset (i := 1) sc_players_of.nd rfl qdnewKP)
    (qs_cons (qfor (vs := [2, 3, 4]) passesQ rfl (qi_list (qv 0)) (qg_tup rfl (qgs_cons (qg_name (i := 2) sc_players_of.nd rfl) (qgs_cons (qg_name (i := 3) sc_players_of.nd rfl) (qgs_cons (qg_name (i := 4) sc_players_of.nd rfl) qgs_nil)))) (qs_cons (qdput (un1 hr.units) (qv 1) (qv 3) qbl)
    (qs_one (qif (tNe hr.units (qv 2) qstr) (qs_one (qdput (un1 hr.units) (qv 1) (qv 4) qbl)) qs_nil))))
    (qs_one (qret (qsortA rfl (by rfl) T.b_sorted (qa_cons (qv 1) qa_nil))))))
/-! least_tickets -/
def N_least_tickets : List Str := ["record", "player", "needed", "changed", "word", "one", "other"]
theorem sc_least_tickets : FnScope N_least_tickets ["record"] (defScope s_least_tickets) := ⟨rfl, rfl, rfl, by decide +kernel, rfl, by decide +kernel, by decide +kernel⟩
noncomputable def e_least_tickets_1 : EF := (eDc (iSeq (eCall g_players_of (aCons (eVar 0) aNil))) (gN 1) bYes (eVar 1) (eC (.int 0)) [1])
noncomputable def b_least_tickets_2 : TF := (kDPut (eVar 2) (eVar 1) (eCall bMax2 (aCons (e2 fIxA (eVar 2) (eVar 1)) (aCons (e2 fSub (eC (.int 1)) (e2 fIxA (eVar 3) (eVar 1))) aNil))))
noncomputable def t_least_tickets_3 : TF := (kFor (iTupF (eTup (aCons (eVar 5) (aCons (eVar 6) aNil)))) (gN 1) b_least_tickets_2 [])
noncomputable def t_least_tickets_4 : TF := (kIf (bV (e2 fEqA (eVar 4) (eC (.str "gift"))))
    (kDAug (eVar 3) (eVar 5) (eVar 6) (fun i j => i + j))
    kNil)
noncomputable def t_least_tickets_5 : TF := (kIf (bV (e2 fEqA (eVar 4) (eC (.str "met"))))
    (kSeq t_least_tickets_3
    (kDAug (eVar 3) (eVar 5) (eC (.int 1)) (fun i j => i - j)))
    t_least_tickets_4)
noncomputable def b_least_tickets_6 : TF := t_least_tickets_5
noncomputable def t_least_tickets_7 : TF := (kFor (iSeq (eVar 0)) (gTupF 3 (gConsF (gN 4) (gConsF (gN 5) (gConsF (gN 6) gNilF)))) b_least_tickets_6 [4, 5, 6])
noncomputable def t_least_tickets : TF := (kSeq (kAsg e_least_tickets_1 (gN 2))
    (kSeq (kAsg (eCall bDictK (aCons (eVar 2) aNil)) (gN 3))
    (kSeq t_least_tickets_7
    (kRet (eFrz (eVar 2))))))
noncomputable def g_least_tickets : List D → Mem → Res D := runF 1 6 t_least_tickets
theorem q_least_tickets {P : Program} {w : World} {K : PySem.W.Frag} {mg : Str → Option Value} {base : Heap} (T : Tx K mg) : Has P w K mg base 2 "least_tickets" ["record"] g_least_tickets :=
  T.r_least_tickets.has sc_least_tickets rfl fun f cdv A outer s H E hr => (qs_cons (qsetDc (i := 2) (own := [("player", 1)]) rfl sc_least_tickets.nd rfl rfl (by rfl) (qi_list (qcall (q_players_of T) (hr.mono (by decide)) takesQ (by rfl) (qa_cons (qv 0) qa_nil))) (blkOk_by (own := [("player", 1)]) (N := N_least_tickets) (sc := defScope s_least_tickets) (by decide +kernel)) (fun _ _ _ _ _ => (qv_name (i := 1) sc_least_tickets.nd rfl (by decide))) (fun _ _ _ _ _ => qts_nil) (fun _ _ _ _ _ => (qv 1)) (fun _ _ _ _ _ => qint))
    (qs_cons (qset (i := 3) sc_least_tickets.nd rfl (qdictK (by rfl) T.b_dict (qa_cons (qv 2) qa_nil)))
    (qs_cons (qfor (vs := [4, 5, 6]) passesQ rfl (qi_list (qv 0)) (qg_tup rfl (qgs_cons (qg_name (i := 4) sc_least_tickets.nd rfl) (qgs_cons (qg_name (i := 5) sc_least_tickets.nd rfl) (qgs_cons (qg_name (i := 6) sc_least_tickets.nd rfl) qgs_nil)))) (qs_one (qif (tEqA hr.units (qv 4) qstr) (qs_cons (qfor (vs := []) passesQ rfl (qi_tup (qtup (qa_cons (qv 5) (qa_cons (qv 6) qa_nil)))) (qg_name (i := 1) sc_least_tickets.nd rfl) (qs_one (qdput (un1 hr.units) (qv 2) (qv 1) (qmax2 rfl (by rfl) T.b_max (qa_cons (qixA hr.units (qv 2) (qv 1)) (qa_cons (qsub qint (qixA hr.units (qv 3) (qv 1))) qa_nil))))))
    (qs_one (qdsub (un1 hr.units) (qv 3) (qv 5) qint))) (qs_one (qif (tEqA hr.units (qv 4) qstr) (qs_one (qdadd (un1 hr.units) (qv 3) (qv 5) (qv 6))) qs_nil)))))
    (qs_one (qret (qfrz (qv 2)))))))
/-! can_be -/
def N_can_be : List Str := ["record"]
theorem sc_can_be : FnScope N_can_be ["record"] (defScope s_can_be) := ⟨rfl, rfl, rfl, by decide +kernel, rfl, by decide +kernel, by decide +kernel⟩
noncomputable def t_can_be : TF := (kRet (e2 fNot0 (eCall g_end_of (aCons (eVar 0) (aCons (eCall g_least_tickets (aCons (eVar 0) aNil)) aNil))) (eC .non)))
noncomputable def g_can_be : List D → Mem → Res D := runF 1 0 t_can_be
theorem q_can_be {P : Program} {w : World} {K : PySem.W.Frag} {mg : Str → Option Value} {base : Heap} (T : Tx K mg) : Has P w K mg base 3 "can_be" ["record"] g_can_be :=
  T.r_can_be.has sc_can_be rfl fun f cdv A outer s H E hr => (qs_one (qret (qisnot (qcall (q_end_of T) (hr.mono (by decide)) takesQ (by rfl) (qa_cons (qv 0) (qa_cons (qcall (q_least_tickets T) (hr.mono (by decide)) takesQ (by rfl) (qa_cons (qv 0) qa_nil)) qa_nil))) qnon)))
/-! first_bad -/
def N_first_bad : List Str := ["record", "good", "bad", "middle"]
theorem sc_first_bad : FnScope N_first_bad ["record"] (defScope s_first_bad) := ⟨rfl, rfl, rfl, by decide +kernel, rfl, by decide +kernel, by decide +kernel⟩
noncomputable def t_first_bad_1 : TF := (kIf (bV (eCall g_can_be (aCons (eVar 0) aNil)))
    (kRet (eC .non))
    kNil)
noncomputable def t_first_bad_2 : TF := (kIf (bV (eCall g_can_be (aCons (eSl (eVar 0) oNone (oSome (eVar 3))) aNil)))
    (kAsg (eVar 3) (gN 1))
    (kAsg (eVar 3) (gN 2)))
noncomputable def b_first_bad_3 : TF := (kSeq (kAsg (e2 fDiv (e2 fAdd (eVar 1) (eVar 2)) (eC (.int 2))) (gN 3))
    t_first_bad_2)
noncomputable def t_first_bad_4 : TF := (kWhile (bV (e2 fGt (e2 fSub (eVar 2) (eVar 1)) (eC (.int 1)))) b_first_bad_3 [3])
noncomputable def t_first_bad : TF := (kSeq t_first_bad_1
    (kSeq (kPar 1 2 (aCons (eC (.int 0)) (aCons (eCall bLenA (aCons (eVar 0) aNil)) aNil)))
    (kSeq t_first_bad_4
    (kRet (eVar 1)))))
noncomputable def g_first_bad : List D → Mem → Res D := runF 1 3 t_first_bad
theorem q_first_bad {P : Program} {w : World} {K : PySem.W.Frag} {mg : Str → Option Value} {base : Heap} (T : Tx K mg) : Has P w K mg base 4 "first_bad" ["record"] g_first_bad :=
  T.r_first_bad.has sc_first_bad rfl fun f cdv A outer s H E hr => (qs_cons (qif (qt_val (qcall (q_can_be T) (hr.mono (by decide)) takesQ (by rfl) (qa_cons (qv 0) qa_nil))) (qs_one (qret qnon)) qs_nil)
    (qs_cons (qpar (i := 1) (j := 2) rfl sc_first_bad.nd rfl rfl (by decide) (qa_cons qint (qa_cons (qlenA (by rfl) T.b_len (qa_cons (qv 0) qa_nil)) qa_nil)))
    (qs_cons (qwhile (vs := [3]) passesQ (tGt' (qsub (qv 2) (qv 1)) qint) (qs_cons (qset (i := 3) sc_first_bad.nd rfl (qdiv (qadd (qv 1) (qv 2)) qint))
    (qs_one (qif (qt_val (qcall (q_can_be T) (hr.mono (by decide)) takesQ (by rfl) (qa_cons (qsl (qv 0) qo_none (qo_some (qv 3))) qa_nil))) (qs_one (qset (i := 1) sc_first_bad.nd rfl (qv 3))) (qs_one (qset (i := 2) sc_first_bad.nd rfl (qv 3)))))))
    (qs_one (qret (qv 1))))))
/-! _law_seen -/
def N__law_seen : List Str := ["_law_record_here", "_law_found", "_law_word", "_law_one", "_law_other"]
theorem sc__law_seen : FnScope N__law_seen ["_law_record_here"] (defScope s__law_seen) := ⟨rfl, rfl, rfl, by decide +kernel, rfl, by decide +kernel, by decide +kernel⟩
noncomputable def b__law_seen_1 : TF := (kAsg (e2 fAdd (e2 fAdd (eVar 1) (eLst (aCons (eVar 3) aNil))) (e2 fRep (eLstP (aCons (eVar 4) aNil)) (eCall bInt (aCons (e2 fNe (eVar 2) (eC (.str "gift"))) aNil)))) (gN 1))
noncomputable def t__law_seen_2 : TF := (kFor (iSeq (eVar 0)) (gTupF 3 (gConsF (gN 2) (gConsF (gN 3) (gConsF (gN 4) gNilF)))) b__law_seen_1 [2, 3, 4])
noncomputable def t__law_seen : TF := (kSeq (kAsg (eLst aNil) (gN 1))
    (kSeq t__law_seen_2
    (kRet (eSortSet (eVar 1)))))
noncomputable def g__law_seen : List D → Mem → Res D := runF 1 4 t__law_seen
theorem q__law_seen {P : Program} {w : World} {K : PySem.W.Frag} {mg : Str → Option Value} {base : Heap} (T : Tx K mg) : Has P w K mg base 1 "_law_seen" ["_law_record_here"] g__law_seen :=
  T.r__law_seen.has sc__law_seen rfl fun f cdv A outer s H E hr => (qs_cons (qset (i := 1) sc__law_seen.nd rfl (qlst qa_nil))
    (qs_cons (qfor (vs := [2, 3, 4]) passesQ rfl (qi_list (qv 0)) (qg_tup rfl (qgs_cons (qg_name (i := 2) sc__law_seen.nd rfl) (qgs_cons (qg_name (i := 3) sc__law_seen.nd rfl) (qgs_cons (qg_name (i := 4) sc__law_seen.nd rfl) qgs_nil)))) (qs_one (qset (i := 1) sc__law_seen.nd rfl (qadd (qadd (qv 1) (qlst (qa_cons (qv 3) qa_nil))) (qrep (qlstP (qa_cons (qv 4) qa_nil)) (qint1 (by rfl) T.b_int (qa_cons (qne hr.units (qv 2) qstr) qa_nil)))))))
    (qs_one (qret (qsortSet rfl hr.units (by rfl) T.b_sorted (by rfl) T.b_set (qv 1))))))
/-! _law_end -/
def N__law_end : List Str := ["_law_record_here", "_law_tickets", "_law_now", "_law_word", "_law_one", "_law_other"]
theorem sc__law_end : FnScope N__law_end ["_law_record_here", "_law_tickets"] (defScope s__law_end) := ⟨rfl, rfl, rfl, by decide +kernel, rfl, by decide +kernel, by decide +kernel⟩
noncomputable def t__law_end_1 : TF := (kIf (bOr (bV (e2 fLt (e2 fIxA (eVar 2) (eVar 4)) (eC (.int 1)))) (bV (e2 fLt (e2 fIxA (eVar 2) (eVar 5)) (eC (.int 1)))))
    (kRet (eC .non))
    kNil)
noncomputable def t__law_end_2 : TF := (kIf (bAnd (bV (e2 fGt (e2 fIxA (eVar 2) (eVar 4)) (eC (.int 0)))) (bV (e2 fGt (e2 fIxA (eVar 2) (eVar 5)) (eC (.int 0)))))
    (kRet (eC .non))
    kNil)
noncomputable def t__law_end_3 : TF := (kIf (bV (e2 fEqA (eVar 3) (eC (.str "met"))))
    (kSeq t__law_end_1
    (kDAug (eVar 2) (eVar 4) (eC (.int 1)) (fun i j => i - j)))
    t__law_end_2)
noncomputable def t__law_end_4 : TF := (kIf (bV (e2 fEqA (eVar 3) (eC (.str "gift"))))
    (kDAug (eVar 2) (eVar 4) (eVar 5) (fun i j => i + j))
    t__law_end_3)
noncomputable def b__law_end_5 : TF := t__law_end_4
noncomputable def t__law_end_6 : TF := (kFor (iSeq (eVar 0)) (gTupF 3 (gConsF (gN 3) (gConsF (gN 4) (gConsF (gN 5) gNilF)))) b__law_end_5 [3, 4, 5])
noncomputable def t__law_end : TF := (kSeq (kAsg (eCall bDictK (aCons (eVar 1) aNil)) (gN 2))
    (kSeq t__law_end_6
    (kRet (eFrz (eVar 2)))))
noncomputable def g__law_end : List D → Mem → Res D := runF 2 4 t__law_end
theorem q__law_end {P : Program} {w : World} {K : PySem.W.Frag} {mg : Str → Option Value} {base : Heap} (T : Tx K mg) : Has P w K mg base 1 "_law_end" ["_law_record_here", "_law_tickets"] g__law_end :=
  T.r__law_end.has sc__law_end rfl fun f cdv A outer s H E hr => (qs_cons (qset (i := 2) sc__law_end.nd rfl (qdictK (by rfl) T.b_dict (qa_cons (qv 1) qa_nil)))
    (qs_cons (qfor (vs := [3, 4, 5]) passesQ rfl (qi_list (qv 0)) (qg_tup rfl (qgs_cons (qg_name (i := 3) sc__law_end.nd rfl) (qgs_cons (qg_name (i := 4) sc__law_end.nd rfl) (qgs_cons (qg_name (i := 5) sc__law_end.nd rfl) qgs_nil)))) (qs_one (qif (tEqA hr.units (qv 3) qstr) (qs_one (qdadd (un1 hr.units) (qv 2) (qv 4) (qv 5))) (qs_one (qif (tEqA hr.units (qv 3) qstr) (qs_cons (qif (qt_w (qw_or (tLt' (qixA hr.units (qv 2) (qv 4)) qint) (qw_or1 (tLt' (qixA hr.units (qv 2) (qv 5)) qint)))) (qs_one (qret qnon)) qs_nil)
    (qs_one (qdsub (un1 hr.units) (qv 2) (qv 4) qint))) (qs_one (qif (qt_w (qw_and (tGt' (qixA hr.units (qv 2) (qv 4)) qint) (qw_and1 (tGt' (qixA hr.units (qv 2) (qv 5)) qint)))) (qs_one (qret qnon)) qs_nil)))))))
    (qs_one (qret (qfrz (qv 2))))))
/-! _law_all_starts -/
def N__law_all_starts : List Str := ["_law_record_here", "_law_bound", "_law_starts", "_law_name", "_law_longer", "_law_start", "_law_many", "_law_more", "_law_word", "_law_one", "_law_other"]
theorem sc__law_all_starts : FnScope N__law_all_starts ["_law_record_here"] (defScope s__law_all_starts) := ⟨rfl, rfl, rfl, by decide +kernel, rfl, by decide +kernel, by decide +kernel⟩
noncomputable def e__law_all_starts_1 : EF := (eLc (iSeq (eVar 0)) (gTupF 3 (gConsF (gN 8) (gConsF (gN 9) (gConsF (gN 10) gNilF)))) (bV (e2 fEqA (eVar 8) (eC (.str "met")))) (eVar 8) [8, 9, 10])
noncomputable def b__law_all_starts_2 : TF := (kSeq (kAsg (eCall bDictK (aCons (eVar 5) aNil)) (gN 7))
    (kSeq (kDPut (eVar 7) (eVar 3) (eVar 6))
    (kDrop (eApp (eVar 4) (eFrz (eVar 7))))))
noncomputable def t__law_all_starts_3 : TF := (kFor (iRange1 (aCons (eVar 1) aNil)) (gN 6) b__law_all_starts_2 [6, 7])
noncomputable def b__law_all_starts_4 : TF := t__law_all_starts_3
noncomputable def t__law_all_starts_5 : TF := (kFor (iSeq (eVar 2)) (gN 5) b__law_all_starts_4 [6, 7])
noncomputable def b__law_all_starts_6 : TF := (kSeq (kAsg (eLstP aNil) (gN 4))
    (kSeq t__law_all_starts_5
    (kAsg (eFrz (eVar 4)) (gN 2))))
noncomputable def t__law_all_starts_7 : TF := (kFor (iSeq (eCall g__law_seen (aCons (eVar 0) aNil))) (gN 3) b__law_all_starts_6 [3, 4, 6, 7])
noncomputable def e__law_all_starts_8 : EF := (eLc (iSeq (eVar 2)) (gN 5) (bV (e2 fNot0 (eCall g__law_end (aCons (eVar 0) (aCons (eVar 5) aNil))) (eC .non))) (eVar 5) [5])
noncomputable def t__law_all_starts : TF := (kSeq (kAsg (e2 fAdd (eC (.int 3)) (eCall bLenA (aCons e__law_all_starts_1 aNil))) (gN 1))
    (kSeq (kAsg (eLst (aCons eDnewK aNil)) (gN 2))
    (kSeq t__law_all_starts_7
    (kRet e__law_all_starts_8))))
noncomputable def g__law_all_starts : List D → Mem → Res D := runF 1 10 t__law_all_starts
theorem q__law_all_starts {P : Program} {w : World} {K : PySem.W.Frag} {mg : Str → Option Value} {base : Heap} (T : Tx K mg) : Has P w K mg base 2 "_law_all_starts" ["_law_record_here"] g__law_all_starts :=
  T.r__law_all_starts.has sc__law_all_starts rfl fun f cdv A outer s H E hr => (qs_cons (qset (i := 1) sc__law_all_starts.nd rfl (qadd qint (qlenA (by rfl) T.b_len (qa_cons (qlc (own := [("_law_word", 8), ("_law_one", 9), ("_law_other", 10)]) rfl sc__law_all_starts.nd (qi_list (qv 0)) (blkOk_by (own := [("_law_word", 8), ("_law_one", 9), ("_law_other", 10)]) (N := N__law_all_starts) (sc := defScope s__law_all_starts) (by decide +kernel)) (fun _ _ _ _ _ => (qv_tup rfl (qvs_cons (qv_name (i := 8) sc__law_all_starts.nd rfl (by decide)) (qvs_cons (qv_name (i := 9) sc__law_all_starts.nd rfl (by decide)) (qvs_cons (qv_name (i := 10) sc__law_all_starts.nd rfl (by decide)) qvs_nil))))) (fun _ _ _ _ _ => (qts_one (tEqA hr.units (qv 8) qstr))) (fun _ _ _ _ _ => (qv 8))) qa_nil))))
    (qs_cons (qset (i := 2) sc__law_all_starts.nd rfl (qlst (qa_cons qdnewK qa_nil)))
    (qs_cons (qfor (vs := [3, 4, 6, 7]) passesQ rfl (qi_list (qcall (q__law_seen T) (hr.mono (by decide)) takesQ (by rfl) (qa_cons (qv 0) qa_nil))) (qg_name (i := 3) sc__law_all_starts.nd rfl) (qs_cons (qset (i := 4) sc__law_all_starts.nd rfl (qlstP qa_nil))
    (qs_cons (qfor (vs := [6, 7]) passesQ rfl (qi_list (qv 2)) (qg_name (i := 5) sc__law_all_starts.nd rfl) (qs_one (qfor (vs := [6, 7]) passesQ rfl (qi_range1 (by rfl) T.b_range (qa_cons (qv 1) qa_nil)) (qg_name (i := 6) sc__law_all_starts.nd rfl) (qs_cons (qset (i := 7) sc__law_all_starts.nd rfl (qdictK (by rfl) T.b_dict (qa_cons (qv 5) qa_nil)))
    (qs_cons (qdput (un1 hr.units) (qv 7) (qv 3) (qv 6))
    (qs_one (qexpr (qapp (qv 4) (qfrz (qv 7))))))))))
    (qs_one (qset (i := 2) sc__law_all_starts.nd rfl (qfrz (qv 4)))))))
    (qs_one (qret (qlc (own := [("_law_start", 5)]) rfl sc__law_all_starts.nd (qi_list (qv 2)) (blkOk_by (own := [("_law_start", 5)]) (N := N__law_all_starts) (sc := defScope s__law_all_starts) (by decide +kernel)) (fun _ _ _ _ _ => (qv_name (i := 5) sc__law_all_starts.nd rfl (by decide))) (fun _ _ _ _ _ => (qts_one (tisnot (qcall (q__law_end T) (hr.mono (by decide)) takesB (by rfl) (qa_cons (qv 0) (qa_cons (qv 5) qa_nil))) qnon))) (fun _ _ _ _ _ => (qv 5))))))))
/-! _law_due -/
def N__law_due : List Str := ["_law_record_here", "_law_at"]
theorem sc__law_due : FnScope N__law_due ["_law_record_here"] (defScope s__law_due) := ⟨rfl, rfl, rfl, by decide +kernel, rfl, by decide +kernel, by decide +kernel⟩
noncomputable def t__law_due_1 : TF := (kIf (bV (e2 fEqA (eCall g__law_all_starts (aCons (eSl (eVar 0) oNone (oSome (e2 fAdd (eVar 1) (eC (.int 1))))) aNil)) (eLst aNil)))
    (kRet (eVar 1))
    kNil)
noncomputable def b__law_due_2 : TF := t__law_due_1
noncomputable def t__law_due_3 : TF := (kFor (iRange1 (aCons (eCall bLenA (aCons (eVar 0) aNil)) aNil)) (gN 1) b__law_due_2 [1])
noncomputable def t__law_due : TF := (kSeq t__law_due_3
    (kRet (eC .non)))
noncomputable def g__law_due : List D → Mem → Res D := runF 1 1 t__law_due
theorem q__law_due {P : Program} {w : World} {K : PySem.W.Frag} {mg : Str → Option Value} {base : Heap} (T : Tx K mg) : Has P w K mg base 3 "_law_due" ["_law_record_here"] g__law_due :=
  T.r__law_due.has sc__law_due rfl fun f cdv A outer s H E hr => (qs_cons (qfor (vs := [1]) passesQ rfl (qi_range1 (by rfl) T.b_range (qa_cons (qlenA (by rfl) T.b_len (qa_cons (qv 0) qa_nil)) qa_nil)) (qg_name (i := 1) sc__law_due.nd rfl) (qs_one (qif (tEqA hr.units (qcall (q__law_all_starts T) (hr.mono (by decide)) takesQ (by rfl) (qa_cons (qsl (qv 0) qo_none (qo_some (qadd (qv 1) qint))) qa_nil)) (qlst qa_nil)) (qs_one (qret (qv 1))) qs_nil)))
    (qs_one (qret qnon)))
/-! _law_alike -/
def N__law_alike : List Str := ["_law_found", "_law_due_here"]
theorem sc__law_alike : FnScope N__law_alike ["_law_found", "_law_due_here"] (defScope s__law_alike) := ⟨rfl, rfl, rfl, by decide +kernel, rfl, by decide +kernel, by decide +kernel⟩
noncomputable def t__law_alike : TF := (kRet (eAnd (e2 fEqA (eVar 0) (eVar 1)) (e2 fEqA (eCall bRepr0 (aCons (eVar 0) aNil)) (eCall bRepr0 (aCons (eVar 1) aNil)))))
noncomputable def g__law_alike : List D → Mem → Res D := runF 2 0 t__law_alike
theorem q__law_alike {P : Program} {w : World} {K : PySem.W.Frag} {mg : Str → Option Value} {base : Heap} (T : Tx K mg) : Has P w K mg base 1 "_law_alike" ["_law_found", "_law_due_here"] g__law_alike :=
  T.r__law_alike.has sc__law_alike rfl fun f cdv A outer s H E hr => (qs_one (qret (q_and (qeqA hr.units (qv 0) (qv 1)) (q_one (qeqA hr.units (qrepr0 (by rfl) T.b_repr (qa_cons (qv 0) qa_nil)) (qrepr0 (by rfl) T.b_repr (qa_cons (qv 1) qa_nil)))))))
/-! law -/
def N_law : List Str := ["_law_script", "_law_hand_here", "_law_turn", "_law_names_here", "_law_record_here", "_law_due_here", "_law_handed", "_law_again", "_law_longer"]
theorem sc_law : FnScope N_law ["_law_script"] (defScope s_law) := ⟨rfl, rfl, rfl, by decide +kernel, rfl, by decide +kernel, by decide +kernel⟩
noncomputable def t_law_1 : TF := (kIf (bOr (bNot (bV (eCall g__law_alike (aCons (eCall g_first_bad (aCons (eVar 6) aNil)) (aCons (eVar 5) aNil))))) (bV (e2 fNe (eVar 6) (eVar 4))))
    (kRet (eC (.bl false)))
    kNil)
noncomputable def b_law_2 : TF := t_law_1
noncomputable def t_law_3 : TF := (kFor (iRange1 (aCons (eC (.int 2)) aNil)) (gN 7) b_law_2 [7])
noncomputable def t_law_4 : TF := (kIf (bOr (bNot (bV (eCall g__law_alike (aCons (eCall g_first_bad (aCons (eVar 8) aNil)) (aCons (eVar 5) aNil))))) (bNot (bV (eCall g__law_alike (aCons (eCall g_first_bad (aCons (eSl (eVar 4) oNone (oSome (e2 fAdd (eVar 5) (eC (.int 1))))) aNil)) (aCons (eVar 5) aNil))))))
    (kRet (eC (.bl false)))
    kNil)
noncomputable def t_law_5 : TF := (kIf (bV (e2 fNot0 (eCall g_first_bad (aCons (eSl (eVar 4) oNone (oSome (eVar 5))) aNil)) (eC .non)))
    (kRet (eC (.bl false)))
    kNil)
noncomputable def t_law_6 : TF := (kIf (bV (e2 fNot0 (eVar 5) (eC .non)))
    (kSeq (kAsg (e2 fAdd (eVar 4) (eCall g__law_record (aCons (eVar 1) (aCons (eVar 3) (aCons (eC (.int 5)) aNil))))) (gN 8))
    (kSeq t_law_4
    t_law_5))
    kNil)
noncomputable def b_law_7 : TF := (kSeq (kAsg (eCall g__law_names (aCons (eVar 1) (aCons (e2 fAdd (eC (.int 2)) (eCall g__law_draw (aCons (eVar 1) (aCons (eC (.int 2)) aNil)))) aNil))) (gN 3))
    (kSeq (kAsg (eCall g__law_record (aCons (eVar 1) (aCons (eVar 3) (aCons (eC (.int 7)) aNil)))) (gN 4))
    (kSeq (kPar 5 6 (aCons (eCall g__law_due (aCons (eVar 4) aNil)) (aCons (eCall bList (aCons (eVar 4) aNil)) aNil)))
    (kSeq t_law_3
    t_law_6))))
noncomputable def t_law_8 : TF := (kFor (iRange1 (aCons (eC (.int 3)) aNil)) (gN 2) b_law_7 [2, 3, 4, 5, 6, 7, 8])
noncomputable def t_law : TF := (kSeq (kAsg (eCall g__law_hand (aCons (eVar 0) aNil)) (gN 1))
    (kSeq t_law_8
    (kRet (e2 fIs0 (eCall g_first_bad (aCons (eLst aNil) aNil)) (eC .non)))))
noncomputable def g_law : List D → Mem → Res D := runF 1 8 t_law
theorem q_law {P : Program} {w : World} {K : PySem.W.Frag} {mg : Str → Option Value} {base : Heap} (T : Tx K mg) : Has P w K mg base 6 "law" ["_law_script"] g_law :=
  T.r_law.has sc_law rfl fun f cdv A outer s H E hr => (qs_cons (qset (i := 1) sc_law.nd rfl (qcall (q__law_hand T) (hr.mono (by decide)) takesQ (by rfl) (qa_cons (qv 0) qa_nil)))
    (qs_cons (qfor (vs := [2, 3, 4, 5, 6, 7, 8]) passesQ rfl (qi_range1 (by rfl) T.b_range (qa_cons qint qa_nil)) (qg_name (i := 2) sc_law.nd rfl) (qs_cons (qset (i := 3) sc_law.nd rfl (qcall (q__law_names T) (hr.mono (by decide)) takesQ (by rfl) (qa_cons (qv 1) (qa_cons (qadd qint (qcall (q__law_draw T) (hr.mono (by decide)) takesQ (by rfl) (qa_cons (qv 1) (qa_cons qint qa_nil)))) qa_nil))))
    (qs_cons (qset (i := 4) sc_law.nd rfl (qcall (q__law_record T) (hr.mono (by decide)) takesQ (by rfl) (qa_cons (qv 1) (qa_cons (qv 3) (qa_cons qint qa_nil)))))
    (qs_cons (qpar (i := 5) (j := 6) rfl sc_law.nd rfl rfl (by decide) (qa_cons (qcall (q__law_due T) (hr.mono (by decide)) takesQ (by rfl) (qa_cons (qv 4) qa_nil)) (qa_cons (qlist (by rfl) T.b_list (qa_cons (qv 4) qa_nil)) qa_nil)))
    (qs_cons (qfor (vs := [7]) passesQ rfl (qi_range1 (by rfl) T.b_range (qa_cons qint qa_nil)) (qg_name (i := 7) sc_law.nd rfl) (qs_one (qif (qt_w (qw_or (qt_not (qt_val (qcall (q__law_alike T) (hr.mono (by decide)) takesQ (by rfl) (qa_cons (qcall (q_first_bad T) (hr.mono (by decide)) takesQ (by rfl) (qa_cons (qv 6) qa_nil)) (qa_cons (qv 5) qa_nil))))) (qw_or1 (tNe hr.units (qv 6) (qv 4))))) (qs_one (qret qbl)) qs_nil)))
    (qs_one (qif (tisnot (qv 5) qnon) (qs_cons (qset (i := 8) sc_law.nd rfl (qadd (qv 4) (qcall (q__law_record T) (hr.mono (by decide)) takesQ (by rfl) (qa_cons (qv 1) (qa_cons (qv 3) (qa_cons qint qa_nil))))))
    (qs_cons (qif (qt_w (qw_or (qt_not (qt_val (qcall (q__law_alike T) (hr.mono (by decide)) takesQ (by rfl) (qa_cons (qcall (q_first_bad T) (hr.mono (by decide)) takesQ (by rfl) (qa_cons (qv 8) qa_nil)) (qa_cons (qv 5) qa_nil))))) (qw_or1 (qt_not (qt_val (qcall (q__law_alike T) (hr.mono (by decide)) takesQ (by rfl) (qa_cons (qcall (q_first_bad T) (hr.mono (by decide)) takesQ (by rfl) (qa_cons (qsl (qv 4) qo_none (qo_some (qadd (qv 5) qint))) qa_nil)) (qa_cons (qv 5) qa_nil)))))))) (qs_one (qret qbl)) qs_nil)
    (qs_one (qif (tisnot (qcall (q_first_bad T) (hr.mono (by decide)) takesQ (by rfl) (qa_cons (qsl (qv 4) qo_none (qo_some (qv 5))) qa_nil)) qnon) (qs_one (qret qbl)) qs_nil)))) qs_nil)))))))
    (qs_one (qret (qis (qcall (q_first_bad T) (hr.mono (by decide)) takesQ (by rfl) (qa_cons (qlst qa_nil) qa_nil)) qnon)))))
end QL
end
section
set_option Elab.async false
set_option linter.all false
set_option maxRecDepth 100000
set_option maxHeartbeats 4000000
set_option autoImplicit false
/-! HHand: what the law's hand of numbers does. -/
namespace QL
open PySem PySem.Spec L2
open Classical
/-- the hand: its cells, five numbers -/
def HD (c : List Int) (a1 a2 a3 a4 a5 : Int) : MO := .lst [.lst (c.map D.int), .int a1, .int a2, .int a3, .int a4, .int a5]
section
variable {M : Mem} {h : Nat} {c : List Int} {a1 a2 a3 a4 a5 x : Int}
theorem set_self {X : MO} (hM : M[h]? = some X) : M.set h X = M := by
  apply List.ext_getElem?
  intro i
  rw [List.getElem?_set]
  split
  · rename_i e
    subst e
    rw [if_pos (List.getElem?_eq_some_iff.mp hM).1, hM]
  · rfl
theorem getset {X : MO} (hh : h < M.length) : (M.set h X)[h]? = some X := List.getElem?_set_self hh
theorem ixh {i : Int} {d : D} (hh : h < M.length) (hd : L2.atI [.lst (c.map D.int), .int a1, .int a2, .int a3, .int a4, .int a5] i = some d) : fIxA (.ptr h) (.int i) (M.set h (HD c a1 a2 a3 a4 a5)) = .ok d (M.set h (HD c a1 a2 a3 a4 a5)) := by
  have hM := getset (X := HD c a1 a2 a3 a4 a5) hh
  unfold HD at hM ⊢
  simp [fIxA, or2, orR, fDIx, look, asK, asTt, fIx, asL, hM, hd]
theorem ixh0 (hh : h < M.length) : fIxA (.ptr h) (.int 0) (M.set h (HD c a1 a2 a3 a4 a5)) = .ok (.lst (c.map D.int)) (M.set h (HD c a1 a2 a3 a4 a5)) := ixh hh rfl
theorem ixh1 (hh : h < M.length) : fIxA (.ptr h) (.int 1) (M.set h (HD c a1 a2 a3 a4 a5)) = .ok (.int a1) (M.set h (HD c a1 a2 a3 a4 a5)) := ixh hh rfl
theorem ixh2 (hh : h < M.length) : fIxA (.ptr h) (.int 2) (M.set h (HD c a1 a2 a3 a4 a5)) = .ok (.int a2) (M.set h (HD c a1 a2 a3 a4 a5)) := ixh hh rfl
theorem ixh3 (hh : h < M.length) : fIxA (.ptr h) (.int 3) (M.set h (HD c a1 a2 a3 a4 a5)) = .ok (.int a3) (M.set h (HD c a1 a2 a3 a4 a5)) := ixh hh rfl
theorem ixh4 (hh : h < M.length) : fIxA (.ptr h) (.int 4) (M.set h (HD c a1 a2 a3 a4 a5)) = .ok (.int a4) (M.set h (HD c a1 a2 a3 a4 a5)) := ixh hh rfl
theorem ixh5 (hh : h < M.length) : fIxA (.ptr h) (.int 5) (M.set h (HD c a1 a2 a3 a4 a5)) = .ok (.int a5) (M.set h (HD c a1 a2 a3 a4 a5)) := ixh hh rfl
theorem seth {i : Int} {n : Nat} {d : D} {ds : List D} (hh : h < M.length) (hn : ixN ds.length i = some n) : lset (.ptr h) (.int i) d (M.set h (.lst ds)) = some (M.set h (.lst (ds.set n d))) := by
  simp [lset, getset hh, hn]
theorem seth1 (hh : h < M.length) : lset (.ptr h) (.int 1) (.int x) (M.set h (HD c a1 a2 a3 a4 a5)) = some (M.set h (HD c x a2 a3 a4 a5)) := by unfold HD; exact seth (n := 1) hh rfl
theorem seth2 (hh : h < M.length) : lset (.ptr h) (.int 2) (.int x) (M.set h (HD c a1 a2 a3 a4 a5)) = some (M.set h (HD c a1 x a3 a4 a5)) := by unfold HD; exact seth (n := 2) hh rfl
theorem seth3 (hh : h < M.length) : lset (.ptr h) (.int 3) (.int x) (M.set h (HD c a1 a2 a3 a4 a5)) = some (M.set h (HD c a1 a2 x a4 a5)) := by unfold HD; exact seth (n := 3) hh rfl
theorem seth4 (hh : h < M.length) : lset (.ptr h) (.int 4) (.int x) (M.set h (HD c a1 a2 a3 a4 a5)) = some (M.set h (HD c a1 a2 a3 x a5)) := by unfold HD; exact seth (n := 4) hh rfl
theorem seth5 (hh : h < M.length) : lset (.ptr h) (.int 5) (.int x) (M.set h (HD c a1 a2 a3 a4 a5)) = some (M.set h (HD c a1 a2 a3 a4 x)) := by unfold HD; exact seth (n := 5) hh rfl
theorem asLh (hh : h < M.length) : asL (M.set h (HD c a1 a2 a3 a4 a5)) (.ptr h) = some [.lst (c.map D.int), .int a1, .int a2, .int a3, .int a4, .int a5] := by
  simp [asL, getset hh, HD]
theorem log_le {z : Int} {k : Nat} (h0 : 0 ≤ z) (h1 : z < 2 ^ k) (hk : 0 < k) : z.natAbs.log2 < k := by
  by_cases z0 : z.natAbs = 0
  · rw [z0]; simpa using hk
  · refine (Nat.log2_lt z0).mpr ?_
    have e : ((z.natAbs : Nat) : Int) = z := Int.natAbs_of_nonneg h0
    have : ((z.natAbs : Nat) : Int) < ((2 ^ k : Nat) : Int) := by rw [e]; push_cast; exact h1
    exact Int.ofNat_lt.mp this
theorem mulW {u v : Int} {k l : Nat} (hu : 0 ≤ u ∧ u < 2 ^ k) (hv : 0 ≤ v ∧ v < 2 ^ l) (hk : 0 < k) (hl : 0 < l) (hkl : k + l ≤ 1000000) : CMulW u v := by
  have := log_le hu.1 hu.2 hk
  have := log_le hv.1 hv.2 hl
  unfold CMulW
  omega
theorem step_eq (hh : h < M.length) (h4 : 0 ≤ a4 ∧ a4 < 2 ^ 32) (h5 : 0 ≤ a5 ∧ a5 < 2 ^ 32) :
    g__law_step [.ptr h] (M.set h (HD c a1 a2 a3 a4 a5)) = .ok (.int (a4 * 48271 % 2147483647 + a5 * 40692 % 2147483399)) (M.set h (HD c a1 a2 a3 (a4 * 48271 % 2147483647) (a5 * 40692 % 2147483399))) := by
  have m4 : CMulW a4 48271 := mulW (k := 32) (l := 32) h4 (by decide) (by decide) (by decide) (by decide)
  have m5 : CMulW a5 40692 := mulW (k := 32) (l := 32) h5 (by decide) (by decide) (by decide) (by decide)
  simp [g__law_step, runF_ap, t__law_step, ixh4 hh, ixh5 hh, seth4 hh, seth5 hh, fMul_i m4, fMul_i m5, fMod_i, settle_ok]
/-- what holds of the five numbers -/
def Hok (a1 a2 a3 a4 a5 : Int) : Prop := 0 ≤ a1 ∧ 0 ≤ a2 ∧ 0 ≤ a3 ∧ (0 ≤ a4 ∧ a4 < 2 ^ 32) ∧ (0 ≤ a5 ∧ a5 < 2 ^ 32)
theorem take1 (hh : h < M.length) (h1 : 0 ≤ a1) : ∃ cell : Int, 0 ≤ cell ∧ t__law_take_1 [some (.ptr h), some (.int 0)] (M.set h (HD c a1 a2 a3 a4 a5)) = .nx [some (.ptr h), some (.int cell)] (M.set h (HD c a1 a2 a3 a4 a5)) := by
  unfold t__law_take_1
  by_cases hl : a1 < c.length
  · obtain ⟨n, rfl⟩ := Int.eq_ofNat_of_zero_le h1
    have hn : n < c.length := by exact_mod_cast hl
    have e : (c.map D.int)[n]? = some (.int c[n]) := by simp [hn]
    refine ⟨if c[n] < 0 then -c[n] else c[n], by split <;> omega, ?_⟩
    simp [ixh0 hh, ixh1 hh, hn, fIxA_l e, bAbs]
  · refine ⟨0, by omega, ?_⟩
    simp [ixh0 hh, ixh1 hh, hl]
theorem take2 (hh : h < M.length) {cell : Int} (h2 : 0 ≤ a2) (h3 : 0 ≤ a3) : ∃ b2 b3 : Int, 0 ≤ b2 ∧ 0 ≤ b3 ∧ (0 < b2 ∨ 0 < b3) ∧ t__law_take_2 [some (.ptr h), some (.int cell)] (M.set h (HD c a1 a2 a3 a4 a5)) = .nx [some (.ptr h), some (.int cell)] (M.set h (HD c a1 b2 b3 a4 a5)) := by
  unfold t__law_take_2
  by_cases hl : (10 : Int) ^ 18 ≤ cell
  · refine ⟨cell, a3, by omega, h3, .inl (by omega), ?_⟩
    have hl' : (1000000000000000000 : Int) ≤ cell := by omega
    simp [fPow, hl', seth2 hh]
  · refine ⟨a2, 7, h2, by omega, .inr (by omega), ?_⟩
    have hl' : ¬ (1000000000000000000 : Int) ≤ cell := by omega
    simp [fPow, hl', seth3 hh]
theorem atI1 {d : D} : L2.atI [d, .int a1, .int a2, .int a3, .int a4, .int a5] 1 = some (.int a1) := rfl
theorem atI3 {d : D} : L2.atI [d, .int a1, .int a2, .int a3, .int a4, .int a5] 3 = some (.int a3) := rfl
theorem aug1 {S : Sl} (hh : h < M.length) (hS : S[0]? = some (some (.ptr h))) : kLAug (eVar 0) (eC (.int 1)) (eC (.int x)) (fun i j => i + j) S (M.set h (HD c a1 a2 a3 a4 a5)) = .nx S (M.set h (HD c (a1 + x) a2 a3 a4 a5)) := by
  rw [kLAug_at (d := .ptr h) (j := 1) (by simp [hS]) rfl (asLh hh) atI1]
  simp [seth1 hh]
theorem aug3 {S : Sl} (hh : h < M.length) (hS : S[0]? = some (some (.ptr h))) : kLAug (eVar 0) (eC (.int 3)) (eC (.int x)) (fun i j => i - j) S (M.set h (HD c a1 a2 a3 a4 a5)) = .nx S (M.set h (HD c a1 a2 (a3 - x) a4 a5)) := by
  rw [kLAug_at (d := .ptr h) (j := 3) (by simp [hS]) rfl (asLh hh) atI3]
  simp [seth3 hh]
theorem take_eq (hh : h < M.length) (ok : Hok a1 a2 a3 a4 a5) :
    ∃ b1 b2 b3 b4 b5, g__law_take [.ptr h] (M.set h (HD c a1 a2 a3 a4 a5)) = .ok .non (M.set h (HD c b1 b2 b3 b4 b5)) ∧ Hok b1 b2 b3 b4 b5 ∧ (0 < b2 ∨ 0 < b3) := by
  obtain ⟨h1, h2, h3, h4, h5⟩ := ok
  obtain ⟨cell, hc0, e1⟩ := take1 (a2 := a2) (a3 := a3) (a4 := a4) (a5 := a5) (c := c) hh h1
  obtain ⟨b2, b3, k2, k3, k23, e2'⟩ := take2 (a1 := a1 + 1) (a4 := a4) (a5 := a5) (c := c) (cell := cell) hh h2 h3
  have u4 : 0 ≤ (a4 + cell % 2147483587) % 2147483646 + 1 ∧ (a4 + cell % 2147483587) % 2147483646 + 1 < 2 ^ 32 := by omega
  have u5 : 0 ≤ (a5 * 3 + cell % 1000003) % 2147483398 + 1 ∧ (a5 * 3 + cell % 1000003) % 2147483398 + 1 < 2 ^ 32 := by omega
  have m5 : CMulW a5 3 := mulW (k := 32) (l := 32) h5 (by decide) (by decide) (by decide) (by decide)
  have s1 := step_eq (a1 := a1 + 1) (a2 := b2) (a3 := b3) (c := c) hh u4 u5
  have v4 : 0 ≤ ((a4 + cell % 2147483587) % 2147483646 + 1) * 48271 % 2147483647 ∧ ((a4 + cell % 2147483587) % 2147483646 + 1) * 48271 % 2147483647 < 2 ^ 32 := by omega
  have v5 : 0 ≤ ((a5 * 3 + cell % 1000003) % 2147483398 + 1) * 40692 % 2147483399 ∧ ((a5 * 3 + cell % 1000003) % 2147483398 + 1) * 40692 % 2147483399 < 2 ^ 32 := by omega
  have s2 := step_eq (a1 := a1 + 1) (a2 := b2) (a3 := b3) (c := c) hh v4 v5
  refine ⟨a1 + 1, b2, b3, ((a4 + cell % 2147483587) % 2147483646 + 1) * 48271 % 2147483647 * 48271 % 2147483647, ((a5 * 3 + cell % 1000003) % 2147483398 + 1) * 40692 % 2147483399 * 40692 % 2147483399, ?_, ⟨by omega, k2, k3, by omega, by omega⟩, k23⟩
  simp [g__law_take, runF_ap, t__law_take, e1, aug1 hh, e2', ixh4 hh, ixh5 hh, seth4 hh, seth5 hh, fMul_i m5, fMod_i, s1, s2, settle_ok]
theorem draw4 {n0 : Nat} {t v z : Int} {d : Option D} {N : Mem} (h : t ≤ z) : t__law_draw_4 [some (.ptr n0), some (.int t), d, some (.int v), some (.int z)] N = .nx [some (.ptr n0), some (.int t), d, some (.int v), some (.int z)] N := by
  unfold t__law_draw_4
  rw [kWhile_eq]
  have e : decide (z < t) = false := decide_eq_false (by omega)
  simp [e, Res.thn]
theorem draw1 (hh : h < M.length) (ok : Hok a1 a2 a3 a4 a5) {S : Sl} (hS : S[0]? = some (some (.ptr h))) :
    ∃ b1 b2 b3 b4 b5, t__law_draw_1 S (M.set h (HD c a1 a2 a3 a4 a5)) = .nx S (M.set h (HD c b1 b2 b3 b4 b5)) ∧ Hok b1 b2 b3 b4 b5 ∧ (0 < b2 ∨ 0 < b3) := by
  unfold t__law_draw_1
  by_cases e2' : a2 = 0
  · by_cases e3 : a3 = 0
    · subst e2'
      subst e3
      obtain ⟨b1, b2, b3, b4, b5, q, ok', k⟩ := take_eq (c := c) hh ok
      exact ⟨b1, b2, b3, b4, b5, by simp [hS, ixh2 hh, ixh3 hh, q], ok', k⟩
    · exact ⟨a1, a2, a3, a4, a5, by simp [hS, ixh2 hh, ixh3 hh, e2', e3], ok, .inr (by have := ok.2.2.1; omega)⟩
  · exact ⟨a1, a2, a3, a4, a5, by simp [hS, ixh2 hh, ixh3 hh, e2'], ok, .inl (by have := ok.2.1; omega)⟩
/-- a draw of one of t, t at most 2 ** 32 -/
theorem draw_HD (hh : h < M.length) (ok : Hok a1 a2 a3 a4 a5) {t : Int} (t0 : 0 < t) (t1 : t ≤ 4294967296) :
    ∃ r b1 b2 b3 b4 b5, g__law_draw [.ptr h, .int t] (M.set h (HD c a1 a2 a3 a4 a5)) = .ok (.int r) (M.set h (HD c b1 b2 b3 b4 b5)) ∧ Hok b1 b2 b3 b4 b5 ∧ 0 ≤ r ∧ r < t := by
  obtain ⟨b1, b2, b3, b4, b5, e1, ⟨k1, k2, k3, k4, k5⟩, k⟩ := draw1 (c := c) hh ok (S := [some (.ptr h), some (.int t), none, none, none]) rfl
  have dv : CDivW b2 t := ⟨t0, by have := log_le (z := t) (k := 64) (by omega) (by omega) (by decide); omega⟩
  by_cases p2 : 0 < b2
  · refine ⟨b2 % t, b1, b2 / t, b3, b4, b5, ?_, ⟨k1, Int.ediv_nonneg k2 (by omega), k3, k4, k5⟩, Int.emod_nonneg _ (by omega), Int.emod_lt_of_pos _ t0⟩
    simp [g__law_draw, runF_ap, t__law_draw, e1, t__law_draw_2, ixh2 hh, p2, fMod_i t0, fDiv_i dv, seth2 hh, settle_ok]
  · have z2 : b2 = 0 := by omega
    have s1 := step_eq (a1 := b1) (a2 := 0) (a3 := b3 - 1) (c := c) hh k4 k5
    refine ⟨(b4 * 48271 % 2147483647 + b5 * 40692 % 2147483399) % t, b1, 0, b3 - 1, b4 * 48271 % 2147483647, b5 * 40692 % 2147483399, ?_, ⟨k1, Int.le_refl _, by omega, by omega, by omega⟩, Int.emod_nonneg _ (by omega), Int.emod_lt_of_pos _ t0⟩
    subst z2
    simp [g__law_draw, runF_ap, t__law_draw, e1, t__law_draw_2, ixh2 hh, aug3 hh, s1, draw4 t1, fMod_i t0, settle_ok]
/-- a hand that stands well -/
def Hand (mo : MO) : Prop := ∃ c a1 a2 a3 a4 a5, mo = HD c a1 a2 a3 a4 a5 ∧ Hok a1 a2 a3 a4 a5
theorem draw_eq {mo : MO} (hh : h < M.length) (hm : Hand mo) {t : Int} (t0 : 0 < t) (t1 : t ≤ 4294967296) :
    ∃ r mo', Hand mo' ∧ 0 ≤ r ∧ r < t ∧ g__law_draw [.ptr h, .int t] (M.set h mo) = .ok (.int r) (M.set h mo') := by
  obtain ⟨c, a1, a2, a3, a4, a5, rfl, ok⟩ := hm
  obtain ⟨r, b1, b2, b3, b4, b5, e, ok', r0, r1⟩ := draw_HD (c := c) hh ok t0 t1
  exact ⟨r, _, ⟨c, b1, b2, b3, b4, b5, rfl, ok'⟩, r0, r1, e⟩
end
end QL
end
section
set_option Elab.async false
set_option linter.all false
set_option maxRecDepth 100000
set_option maxHeartbeats 4000000
set_option autoImplicit false
/-! HNames: the law's names. -/
namespace QL
open PySem PySem.Spec L2
open Classical
def ltr (n : Nat) : Str := ⟨#[97 + n]⟩
theorem ltrs_eq : ("abcdefghijklmnopqrstuvwxyz" : Str).cps.toList = (List.range 26).map (97 + ·) := by decide +kernel
theorem ix_ltr {M : Mem} {n : Nat} (h : n < 26) : fIxA (.str "abcdefghijklmnopqrstuvwxyz") (.int (n : Nat)) M = .ok (.str (ltr n)) M := by
  have e : L2.atI ("abcdefghijklmnopqrstuvwxyz" : Str).cps.toList ((n : Nat) : Int) = some (97 + n) := by
    rw [ltrs_eq]
    unfold L2.atI ixN
    rw [if_pos (Int.natCast_nonneg n), if_pos (by simp; omega)]
    simp [h]
  have z : ("abcdefghijklmnopqrstuvwxyz" : Str).length ≤ sizeLine := small (by decide)
  simp [fIxA, or2, orR, fDIx, look, asK, asTt, fIx, z, e, ltr]
def WORDS : List Str := ["join", "give", "wish", "withdraw", "meet", "undo", "redo", "purses", "lot", "choices", "plan", "room", "left", "could", "yes", "no", "ok", "a", "b", "ab", "ba", "aa", "z", "zz"]
theorem words_eq : Txt.split (("join give wish withdraw meet undo redo purses lot choices plan room left could yes no ok" : Str) ++ (" a b ab ba aa z zz" : Str)) " " = WORDS := by decide +kernel
/-- a name: one to eight small letters -/
def NmOk (x : Str) : Prop := 1 ≤ x.length ∧ x.length ≤ 8 ∧ ∀ c ∈ x.cps.toList, 97 ≤ c ∧ c < 123
theorem words_ok : ∀ x ∈ WORDS, NmOk x := by
  have h : ∀ x ∈ WORDS, (1 ≤ x.length ∧ x.length ≤ 8) ∧ (x.cps.toList.all fun c => decide (97 ≤ c) && decide (c < 123)) = true := by decide +kernel
  intro x hx
  obtain ⟨⟨h1, h2⟩, h3⟩ := h x hx
  refine ⟨h1, h2, fun c hc => ?_⟩
  have := List.all_eq_true.mp h3 c hc
  simpa using this
theorem words_nd : WORDS.Nodup := by decide +kernel
theorem cps_app (a b : Str) : (a ++ b).cps.toList = a.cps.toList ++ b.cps.toList := by
  show (a.cps ++ b.cps).toList = _
  rw [Array.toList_append]
theorem len_cps (a : Str) : a.length = a.cps.toList.length := by simp [Str.length]
theorem join_len {bs : List Str} (h : ∀ b ∈ bs, b.length = 1) : (Txt.join "" bs).length = bs.length := by
  have e : (bs.map (·.length)).sum = bs.length := by
    induction bs with
    | nil => rfl
    | cons b r ih =>
      rw [List.map_cons, List.sum_cons, h b List.mem_cons_self, ih fun x hx => h x (List.mem_cons_of_mem _ hx), List.length_cons]
      omega
  show (Builtin.Str.glued "" bs).length = _
  rw [size_glued, e]
  show bs.length + (bs.length - 1) * 0 = bs.length
  omega
theorem join_mem {c : Nat} : ∀ {bs : List Str}, c ∈ (Txt.join "" bs).cps.toList → ∃ b ∈ bs, c ∈ b.cps.toList := by
  intro bs
  rw [show Txt.join "" bs = Str.join "" bs from StrLaws.glued_eq_join "" bs]
  induction bs with
  | nil => intro h; exact absurd h (by simp [Str.join, Str.empty])
  | cons x r ih =>
    intro h
    cases r with
    | nil => exact ⟨x, List.mem_cons_self, h⟩
    | cons y r =>
      have h' : c ∈ (x ++ "" ++ Str.join "" (y :: r)).cps.toList := h
      rw [cps_app, cps_app, List.mem_append, List.mem_append] at h'
      rcases h' with (h' | h') | h'
      · exact ⟨x, List.mem_cons_self, h'⟩
      · exact absurd h' (by simp [show ("" : Str).cps.toList = [] from rfl])
      · obtain ⟨b, hb, hc⟩ := ih h'
        exact ⟨b, List.mem_cons_of_mem _ hb, hc⟩
section
variable {M : Mem} {h : Nat}
/-- the first comprehension: one to seven letters -/
theorem base_eq {mo : MO} (hh : h < M.length) (hm : Hand mo) {many way turn : D} {ws : D} : ∃ (bs : List Str) (mo' : MO), Hand mo' ∧ 1 ≤ bs.length ∧ bs.length ≤ 7 ∧ (∀ b ∈ bs, ∃ n, n < 26 ∧ b = ltr n) ∧
    e__law_names_1 [some (.ptr h), some many, some (.str "abcdefghijklmnopqrstuvwxyz"), some ws, some way, some turn, none, none, none] (M.set h mo) = .ok (.lst (bs.map D.str)) (M.set h mo') := by
  obtain ⟨r, mo1, hm1, r0, r1, e1⟩ := draw_eq hh hm (t := 7) (by decide) (by decide)
  obtain ⟨n, rfl⟩ := Int.eq_ofNat_of_zero_le r0
  have n7 : n < 7 := by exact_mod_cast r1
  obtain ⟨ys, mo2, hm2, l2, y2, e2⟩ := lcL_at (gd := fun _ => True) (fun _ => trivial) (g := gN 8) (b := bYes) (e := e2 fIxA (eVar 2) (eCall g__law_draw (aCons (eVar 0) (aCons (eC (.int 26)) aNil))))
    (S0 := [some (.ptr h), some many, some (.str "abcdefghijklmnopqrstuvwxyz"), some ws, some way, some turn, none, none, none]) (P := Hand) (Y := fun d => ∃ n, n < 26 ∧ d = .str (ltr n)) (M := M) (h := h)
    (rangeD 0 (1 + n)) [] mo1 (by rw [rangeD_len]; exact small (by simp; omega)) hm1 (fun d _ mo hm => by
      obtain ⟨r, mo', hm', r0, r1, e⟩ := draw_eq hh hm (t := 26) (by decide) (by decide)
      obtain ⟨k, rfl⟩ := Int.eq_ofNat_of_zero_le r0
      have k26 : k < 26 := by exact_mod_cast r1
      exact ⟨_, .str (ltr k), mo', hm', ⟨k, k26, rfl⟩, rfl, rfl, by simp [e, ix_ltr k26]⟩)
  have fs : ∀ ys : List D, (∀ y ∈ ys, ∃ n, n < 26 ∧ y = D.str (ltr n)) → ∃ bs : List Str, ys = bs.map D.str ∧ ∀ b ∈ bs, ∃ n, n < 26 ∧ b = ltr n := by
    intro ys
    induction ys with
    | nil => exact fun _ => ⟨[], rfl, by simp⟩
    | cons y r ih =>
      intro hy
      obtain ⟨n, hn, e⟩ := hy y List.mem_cons_self
      obtain ⟨bs, e', hb⟩ := ih fun z hz => hy z (List.mem_cons_of_mem _ hz)
      refine ⟨ltr n :: bs, by rw [e, e']; rfl, fun b hb' => ?_⟩
      rcases List.mem_cons.mp hb' with q | q
      · exact ⟨n, hn, q⟩
      · exact hb b q
  obtain ⟨bs, rfl, hb⟩ := fs ys y2
  rw [List.length_map, rangeD_len] at l2
  refine ⟨bs, mo2, hm2, by omega, by omega, hb, ?_⟩
  unfold e__law_names_1
  have tn : ((1 : Int) + (n : Int)).toNat = 1 + n := by omega
  rw [eLc_ap]
  simp only [iRange1_ap, aCons_ap, e2_ap, eC_ap, s2_ok, eCall_ap, eVar_ap, List.getElem?_cons_zero, vR_some, c1_ok, c2_ok, aNil_ap, cR_ok, e1, s3_ok, fAdd_i]
  rw [i1R_ok (by omega) (by omega), lcR_ok, tn]
  have e2' := e2
  simp only [List.nil_append] at e2'
  show lcE (lcL (fun _ => True) (gN 8) bYes _ (kl [8] _) _ [] _) = _
  simp only [kl_cons, kl_nil, List.set_cons_succ, List.set_cons_zero]
  rw [e2']
  rfl
def jnR (v : EF) (S : Sl) (r : Res D) : Res D := r.bind fun d M1 => match d with
  | .str x => (v S M1).bind fun y M2 => match seqOf M2 y with
    | some ds => match strsOf ds with
      | some ys => if (ys.map (·.length)).sum + ys.length * x.length ≤ 16777216 then .ok (.str (Txt.join x ys)) M2 else .bad
      | none => .bad
    | none => .bad
  | _ => .bad
theorem eJoin_ap {o v : EF} {S : Sl} {M : Mem} : eJoin o v S M = jnR v S (o S M) := rfl
theorem eJoin_at {o v : EF} {S : Sl} {M M1 M2 : Mem} {x : Str} {ys : List Str} (h1 : o S M = .ok (.str x) M1) (h2 : v S M1 = .ok (.lst (ys.map D.str)) M2) (h3 : (ys.map (·.length)).sum + ys.length * x.length ≤ 16777216) : eJoin o v S M = .ok (.str (Txt.join x ys)) M2 := by
  rw [eJoin_ap, h1]
  show (v S M1).bind _ = _
  rw [h2]
  simp [Res.bind, seqOf, asL, strsOf_map, h3]
theorem eSplit_at {o v : EF} {S : Sl} {M M1 M2 : Mem} {x b : Str} (h1 : o S M = .ok (.str x) M1) (h2 : v S M1 = .ok (.str b) M2) (h3 : (b.length == 0) = false) (h4 : x.length + 2 ≤ sizeLine) : eSplit o v S M = .ok (.lst ((Txt.split x b).map D.str)) M2 := by
  unfold eSplit
  rw [h1]
  show (v S M1).bind _ = _
  rw [h2]
  show (if (b.length == 0) = false ∧ x.length + 2 ≤ sizeLine then _ else _) = _
  rw [if_pos ⟨h3, h4⟩]
theorem words_at {S : Sl} {M : Mem} (hS : S[3]? = some (some (.str "join give wish withdraw meet undo redo purses lot choices plan room left could yes no ok"))) :
    eSplit (e2 fAdd (eVar 3) (eC (.str " a b ab ba aa z zz"))) (eC (.str " ")) S M = .ok (.lst (WORDS.map D.str)) M := by
  have z : ("join give wish withdraw meet undo redo purses lot choices plan room left could yes no ok" : Str).length + (" a b ab ba aa z zz" : Str).length ≤ sizeLine := by rw [sizeLine_eq]; decide +kernel
  rw [eSplit_at (x := ("join give wish withdraw meet undo redo purses lot choices plan room left could yes no ok" : Str) ++ (" a b ab ba aa z zz" : Str)) (b := " ") (M1 := M) (M2 := M) (by simp [hS, z]) rfl (by decide +kernel) (by rw [sizeLine_eq]; decide +kernel), words_eq]
theorem map_ranges {m : Nat} (F : Nat → Str) : (rangeD 0 m).filterMap (fun d => match d with | .int i => some (D.str (F i.toNat)) | _ => none) = ((List.range m).map F).map D.str := by
  unfold rangeD
  rw [List.filterMap_map, List.map_map, ← List.filterMap_eq_map]
  congr 1
  funext x
  simp
theorem nodup_map {m : Nat} {F : Nat → Str} (h : ∀ i j, i < m → j < m → F i = F j → i = j) : ((List.range m).map F).Nodup := by
  refine List.pairwise_map.mpr ((List.nodup_range (n := m)).imp_of_mem fun {a b} ha hb ne e => ne (h a b (List.mem_range.mp ha) (List.mem_range.mp hb) e))
theorem mem_rangeD {m : Nat} {d : D} (h : d ∈ rangeD 0 m) : ∃ k, k < m ∧ d = .int (k : Nat) := by
  unfold rangeD at h
  obtain ⟨k, hk, e⟩ := List.mem_map.mp h
  exact ⟨k, List.mem_range.mp hk, by rw [← e]; simp⟩
section
variable {M : Mem} {S : Sl}
/-- way 1: single letters -/
theorem way1_eq {m tn : Nat} (hm : m ≤ 26) (ht : tn < 24) (h1 : S[1]? = some (some (.int (m : Nat)))) (h2 : S[2]? = some (some (.str "abcdefghijklmnopqrstuvwxyz"))) (h5 : S[5]? = some (some (.int (tn : Nat)))) (h8 : S.length = 9) :
    e__law_names_3 S M = .ok (.lst (((List.range m).map fun k => ltr ((tn + 3 * k) % 26)).map D.str)) M := by
  unfold e__law_names_3
  rw [eLc_ap]
  simp only [iRange1_ap, aCons_ap, eVar_ap, h1, vR_some, c1_ok, c2_ok, aNil_ap]
  rw [i1R_ok (by omega) (by omega), lcR_ok, Int.toNat_natCast]
  have g1 : ∀ (o : Option D) (i : Nat), i ≠ 8 → (S.set 8 o)[i]? = S[i]? := fun o i hi => by rw [List.getElem?_set_ne (Ne.symm hi)]
  rw [lcL_map (gd := Its.gd ⟨rangeD 0 m, none⟩) trivial (fun d => match d with | .int i => some (D.str (ltr ((tn + 3 * i.toNat) % 26))) | _ => none) (rangeD 0 m) [] (by rw [rangeD_len]; exact small (by simp; omega)) fun d hd => by
    obtain ⟨k, hk, rfl⟩ := mem_rangeD hd
    refine ⟨(kl [8] S).set 8 (some (.int (k : Nat))), rfl, rfl, ?_⟩
    have mm : CMulW 3 (k : Int) := mulW (k := 8) (l := 8) (by decide) (by constructor <;> omega) (by decide) (by decide) (by decide)
    have e8 : ((kl [8] S).set 8 (some (D.int (k : Nat))))[8]? = some (some (D.int (k : Nat))) := List.getElem?_set_self (by simp [h8])
    have e2 : ((kl [8] S).set 8 (some (D.int (k : Nat))))[2]? = some (some (.str "abcdefghijklmnopqrstuvwxyz")) := by simp [h2]
    have e5 : ((kl [8] S).set 8 (some (D.int (k : Nat))))[5]? = some (some (.int (tn : Nat))) := by simp [h5]
    have en : ((tn : Int) + 3 * (k : Int)) % 26 = (((tn + 3 * k) % 26 : Nat) : Int) := by omega
    have lt : (tn + 3 * k) % 26 < 26 := by omega
    simp only [e2_ap, eVar_ap, e2, e5, e8, vR_some, s2_ok, s3_ok, eC_ap, fMul_i mm, fAdd_i, fMod_i (show (0 : Int) < 26 by decide), en, ix_ltr lt]
    simp]
  rw [List.nil_append, map_ranges fun k => ltr ((tn + 3 * k) % 26)]
  rfl
theorem ltr_inj {a b : Nat} (h : ltr a = ltr b) : a = b := by
  unfold ltr at h
  injection h with h
  have := congrArg Array.toList h
  simp at this
  omega
theorem way1_nd {m tn : Nat} (hm : m ≤ 26) : ((List.range m).map fun k => ltr ((tn + 3 * k) % 26)).Nodup := nodup_map fun i j hi hj e => by
  have := ltr_inj e
  omega
def nm (b : Str) (at_ n : Nat) : Str := cutS b none (some (at_ : Int)) ++ ltr n ++ cutS b (some (at_ : Int)) none
theorem nm_cps (b : Str) (a n : Nat) : (nm b a n).cps.toList = b.cps.toList.take a ++ [97 + n] ++ b.cps.toList.drop a := by
  unfold nm
  rw [cps_app, cps_app, cutS_take (Int.natCast_nonneg a), cutS_drop (Int.natCast_nonneg a), Int.toNat_natCast]
  rfl
theorem nm_inj {b : Str} {a n k : Nat} (h : nm b a n = nm b a k) : n = k := by
  have e := congrArg (fun z => z.cps.toList) h
  simp only [nm_cps, List.append_assoc] at e
  have e2 := List.append_cancel_left e
  simp at e2
  exact e2
theorem nm_len (b : Str) (a n : Nat) : (nm b a n).length = b.length + 1 := by
  rw [len_cps, nm_cps, len_cps b]
  simp only [List.length_append, List.length_take, List.length_drop, List.length_singleton]
  omega
/-- way 2, 3: a letter within the base -/
theorem way2_eq {m tn a : Nat} {b : Str} (hm : m ≤ 26) (ht : tn < 24) (hb : b.length ≤ 7) (h1 : S[1]? = some (some (.int (m : Nat)))) (h2 : S[2]? = some (some (.str "abcdefghijklmnopqrstuvwxyz"))) (h5 : S[5]? = some (some (.int (tn : Nat)))) (h6 : S[6]? = some (some (.str b))) (h7 : S[7]? = some (some (.int (a : Nat)))) (h8 : S.length = 9) :
    e__law_names_5 S M = .ok (.lst (((List.range m).map fun k => nm b a ((tn + 3 * k) % 26)).map D.str)) M := by
  unfold e__law_names_5
  rw [eLc_ap]
  simp only [iRange1_ap, aCons_ap, eVar_ap, h1, vR_some, c1_ok, c2_ok, aNil_ap]
  rw [i1R_ok (by omega) (by omega), lcR_ok, Int.toNat_natCast]
  have zb : b.length ≤ sizeLine := small (by omega)
  rw [lcL_map (gd := Its.gd ⟨rangeD 0 m, none⟩) trivial (fun d => match d with | .int i => some (D.str (nm b a ((tn + 3 * i.toNat) % 26))) | _ => none) (rangeD 0 m) [] (by rw [rangeD_len]; exact small (by simp; omega)) fun d hd => by
    obtain ⟨k, hk, rfl⟩ := mem_rangeD hd
    refine ⟨(kl [8] S).set 8 (some (.int (k : Nat))), rfl, rfl, ?_⟩
    have mm : CMulW 3 (k : Int) := mulW (k := 8) (l := 8) (by decide) (by constructor <;> omega) (by decide) (by decide) (by decide)
    have e8 : ((kl [8] S).set 8 (some (D.int (k : Nat))))[8]? = some (some (D.int (k : Nat))) := List.getElem?_set_self (by simp [h8])
    have e2 : ((kl [8] S).set 8 (some (D.int (k : Nat))))[2]? = some (some (.str "abcdefghijklmnopqrstuvwxyz")) := by simp [h2]
    have e5 : ((kl [8] S).set 8 (some (D.int (k : Nat))))[5]? = some (some (.int (tn : Nat))) := by simp [h5]
    have e6 : ((kl [8] S).set 8 (some (D.int (k : Nat))))[6]? = some (some (.str b)) := by simp [h6]
    have e7 : ((kl [8] S).set 8 (some (D.int (k : Nat))))[7]? = some (some (.int (a : Nat))) := by simp [h7]
    have en : ((tn : Int) + 3 * (k : Int)) % 26 = (((tn + 3 * k) % 26 : Nat) : Int) := by omega
    have lt : (tn + 3 * k) % 26 < 26 := by omega
    have l1 : (cutS b none (some (a : Int))).length ≤ 7 := by
      rw [len_cps, cutS_take (Int.natCast_nonneg a), List.length_take, ← len_cps]
      omega
    have l2 : (cutS b (some (a : Int)) none).length ≤ 7 := by
      rw [len_cps, cutS_drop (Int.natCast_nonneg a), List.length_drop, ← len_cps]
      omega
    have l3 : (cutS b none (some (a : Int)) ++ ltr ((tn + 3 * k) % 26)).length ≤ 8 := by
      rw [len_cps, cps_app, List.length_append, ← len_cps, ← len_cps]
      have : (ltr ((tn + 3 * k) % 26)).length = 1 := rfl
      omega
    have z1 : (cutS b none (some (a : Int))).length + (ltr ((tn + 3 * k) % 26)).length ≤ sizeLine := small (by have : (ltr ((tn + 3 * k) % 26)).length = 1 := rfl; omega)
    have z2 : (cutS b none (some (a : Int)) ++ ltr ((tn + 3 * k) % 26)).length + (cutS b (some (a : Int)) none).length ≤ sizeLine := small (by omega)
    have f1 : ∀ lo hi, fSl (.str b) lo hi M = .ok (.str (cutS b lo hi)) M := fun lo hi => if_pos zb
    simp only [e2_ap, eVar_ap, e2, e5, e6, e7, e8, vR_some, s2_ok, s3_ok, eC_ap, fMul_i mm, fAdd_i, fMod_i (show (0 : Int) < 26 by decide), en, ix_ltr lt, eSl_ap, sl1_ok, sl2_ok, sl3_ok, oNone_ap, oSome_ap, soR_ok, f1, fAdd_s, if_pos z1, if_pos z2]
    simp [nm]]
  rw [List.nil_append, map_ranges fun k => nm b a ((tn + 3 * k) % 26)]
  rfl
theorem way2_nd {m tn a : Nat} {b : Str} (hm : m ≤ 26) : ((List.range m).map fun k => nm b a ((tn + 3 * k) % 26)).Nodup := nodup_map fun i j hi hj e => by
  have := nm_inj e
  omega
end
section
variable {M : Mem} {h : Nat}
/-- the slots behind the draws -/
def nS (h m : Nat) (way : Int) (tn : Nat) (b : Str) (an : Nat) : Sl := [some (.ptr h), some (.int (m : Nat)), some (.str "abcdefghijklmnopqrstuvwxyz"), some (.lst (WORDS.map D.str)), some (.int way), some (.int (tn : Nat)), some (.str b), some (.int (an : Nat)), none]
theorem names_pre {mo : MO} (hh : h < M.length) (hm : Hand mo) {m : Nat} : ∃ (way : Int) (tn an : Nat) (b : Str) (mo' : MO), Hand mo' ∧ tn < 24 ∧ 1 ≤ b.length ∧ b.length ≤ 7 ∧ (∀ c ∈ b.cps.toList, 97 ≤ c ∧ c < 123) ∧
    g__law_names [.ptr h, .int (m : Nat)] (M.set h mo) = fnR (M.set h mo).length ((kSeq t__law_names_2 (kSeq t__law_names_4 (kRet e__law_names_5))) (nS h m way tn b an) (M.set h mo')) := by
  obtain ⟨way, mo1, hm1, w0, w1, e1⟩ := draw_eq hh hm (t := 4) (by decide) (by decide)
  obtain ⟨turn, mo2, hm2, t0, t1, e2'⟩ := draw_eq hh hm1 (t := 24) (by decide) (by decide)
  obtain ⟨bs, mo3, hm3, b1, b7, hb, e3⟩ := base_eq hh hm2 (many := .int (m : Nat)) (way := .int way) (turn := .int turn) (ws := .lst (WORDS.map D.str))
  have one : ∀ b ∈ bs, b.length = 1 := fun b hb' => by obtain ⟨n, _, e⟩ := hb b hb'; rw [e]; rfl
  have jl := join_len one
  obtain ⟨at_, mo4, hm4, a0, a1, e4⟩ := draw_eq hh hm3 (t := ((Txt.join "" bs).length : Int) + 1) (by omega) (by rw [jl]; omega)
  obtain ⟨tn, rfl⟩ := Int.eq_ofNat_of_zero_le t0
  obtain ⟨an, rfl⟩ := Int.eq_ofNat_of_zero_le a0
  have tn24 : tn < 24 := by exact_mod_cast t1
  have sums : (bs.map (·.length)).sum = bs.length := by
    have := size_glued "" bs
    have e : (Builtin.Str.glued "" bs).length = bs.length := jl
    rw [e] at this
    have z : (bs.length - 1) * ("" : Str).length = 0 := by show (bs.length - 1) * 0 = 0; omega
    omega
  have ej := eJoin_at (o := eC (.str "")) (v := e__law_names_1) (x := "") (ys := bs) (M := M.set h mo2) (M1 := M.set h mo2) rfl e3 (by rw [sums]; show bs.length + bs.length * 0 ≤ 16777216; omega)
  have zb : (Txt.join "" bs).length ≤ sizeLine := small (by omega)
  have el : ∀ N : Mem, bLenA [.str (Txt.join "" bs)] N = .ok (.int ((Txt.join "" bs).length : Nat)) N := fun N => by
    show orR (if (Txt.join "" bs).length ≤ sizeLine then _ else _) _ = _
    rw [if_pos zb]
    rfl
  have ew := words_at (M := M.set h mo) (S := [some (.ptr h), some (.int (m : Nat)), some (.str "abcdefghijklmnopqrstuvwxyz"), some (.str "join give wish withdraw meet undo redo purses lot choices plan room left could yes no ok"), none, none, none, none, none]) rfl
  have bc : ∀ c ∈ (Txt.join "" bs).cps.toList, 97 ≤ c ∧ c < 123 := fun c hc => by
    obtain ⟨b, hb', hc'⟩ := join_mem hc
    obtain ⟨n, hn, e⟩ := hb b hb'
    rw [e] at hc'
    have hc2 : c ∈ [97 + n] := hc'
    have := List.mem_singleton.mp hc2
    omega
  refine ⟨way, tn, an, Txt.join "" bs, mo4, hm4, tn24, by omega, by omega, bc, ?_⟩
  unfold g__law_names
  rw [runF_ap (show [D.ptr h, D.int (m : Nat)].length = 2 from rfl)]
  congr 1
  unfold t__law_names nS
  simp only [kSeq_ap, kAsg_ap, eC_ap, asR_ok, gN_ap, stR_ok, thn_nx, List.map_cons, List.map_nil, List.replicate, List.cons_append, List.nil_append, List.set_cons_succ, List.set_cons_zero, ew]
  simp only [kSeq_ap, kAsg_ap, eTup_ap, aCons_ap, eCall_ap, eVar_ap, List.getElem?_cons_zero, vR_some, c1_ok, eC_ap, c2_ok, aNil_ap, cR_ok, e1, e2', tpR_2, asR_ok, gTupF_2, gConsF_ap, gN_ap, gcR_ok, gNilF_ap, stR_ok, thn_nx, List.set_cons_succ, List.set_cons_zero, ej, List.getElem?_cons_succ, el, e2_ap, s2_ok, s3_ok, fAdd_i, e4]
theorem names_w0 {m tn an : Nat} {b : Str} {N : Mem} (ht : tn < 24) : (kSeq t__law_names_2 (kSeq t__law_names_4 (kRet e__law_names_5))) (nS h m 0 tn b an) N = .rt (.lst (((WORDS.drop tn ++ WORDS.take tn).take m).map D.str)) N := by
  have zz : WORDS.length - tn + min tn WORDS.length ≤ sizeLine := small (by
    have : WORDS.length = 24 := rfl
    omega)
  unfold t__law_names_2 nS
  simp [cutD_take, cutD_drop, zz]
theorem names_w1 {m tn an : Nat} {b : Str} {N : Mem} (hm : m ≤ 24) (ht : tn < 24) : (kSeq t__law_names_2 (kSeq t__law_names_4 (kRet e__law_names_5))) (nS h m 1 tn b an) N = .rt (.lst (((List.range m).map fun k => ltr ((tn + 3 * k) % 26)).map D.str)) N := by
  have q := way1_eq (M := N) (S := nS h m 1 tn b an) (m := m) (tn := tn) (by omega) ht rfl rfl rfl rfl
  generalize e__law_names_5 = e5
  unfold t__law_names_2 t__law_names_4
  unfold nS at q ⊢
  simp only [kSeq_ap, kIf_ap, bV_ap, e2_ap, eVar_ap, List.getElem?_cons_succ, List.getElem?_cons_zero, vR_some, s2_ok, eC_ap, s3_ok, fEqA_i, show decide ((1 : Int) = 0) = false from rfl, decide_true, bR_ok, ifR_f, kNil_ap, thn_nx, ifR_t, kRet_ap, q, rtR_ok, thn_rt]
theorem names_w2 {m tn an : Nat} {b : Str} {N : Mem} {way : Int} (hm : m ≤ 24) (ht : tn < 24) (hb : b.length ≤ 7) (w0 : way ≠ 0) (w1 : way ≠ 1) : (kSeq t__law_names_2 (kSeq t__law_names_4 (kRet e__law_names_5))) (nS h m way tn b an) N = .rt (.lst (((List.range m).map fun k => nm b an ((tn + 3 * k) % 26)).map D.str)) N := by
  have q := way2_eq (M := N) (S := nS h m way tn b an) (m := m) (tn := tn) (a := an) (b := b) (by omega) ht hb rfl rfl rfl rfl rfl rfl
  unfold t__law_names_2 t__law_names_4
  unfold nS at q ⊢
  simp only [kSeq_ap, kIf_ap, bV_ap, e2_ap, eVar_ap, List.getElem?_cons_succ, List.getElem?_cons_zero, vR_some, s2_ok, eC_ap, s3_ok, fEqA_i, decide_eq_false w0, decide_eq_false w1, bR_ok, ifR_f, kNil_ap, thn_nx, kRet_ap, q, rtR_ok]
/-- THE NAMES: m different ones -/
theorem names_eq {mo : MO} (hh : h < M.length) (hm : Hand mo) {m : Nat} (m24 : m ≤ 24) : ∃ (ns : List Str) (mo' : MO), Hand mo' ∧ ns.length = m ∧ ns.Nodup ∧ (∀ x ∈ ns, NmOk x) ∧
    g__law_names [.ptr h, .int (m : Nat)] (M.set h mo) = .ok (.lst (ns.map D.str)) (M.set h mo') := by
  obtain ⟨way, tn, an, b, mo', hm', ht, b1, b7, bc, e⟩ := names_pre (m := m) hh hm
  have fin : ∀ d : D, fnR (M.set h mo).length (.rt d (M.set h mo')) = .ok d (M.set h mo') := fun d => by
    rw [fnR_rt]
    exact settle_ok (by rw [List.length_set, List.length_set]; exact Nat.le_refl _)
  by_cases w : way = 0
  · refine ⟨((WORDS.drop tn ++ WORDS.take tn).take m), mo', hm', ?_, ?_, ?_, ?_⟩
    · simp only [List.length_take, List.length_append, List.length_drop]
      have : WORDS.length = 24 := rfl
      omega
    · have p : (WORDS.drop tn ++ WORDS.take tn).Perm WORDS := List.perm_append_comm.trans (by rw [List.take_append_drop])
      exact (p.nodup_iff.mpr words_nd).sublist (List.take_sublist _ _)
    · intro x hx
      have := List.mem_of_mem_take hx
      rcases List.mem_append.mp this with q | q
      · exact words_ok x (List.mem_of_mem_drop q)
      · exact words_ok x (List.mem_of_mem_take q)
    · rw [e, w, names_w0 ht]
      exact fin _
  · by_cases w2 : way = 1
    · refine ⟨(List.range m).map fun k => ltr ((tn + 3 * k) % 26), mo', hm', by simp, way1_nd (by omega), fun x hx => ?_, ?_⟩
      · obtain ⟨k, _, rfl⟩ := List.mem_map.mp hx
        refine ⟨Nat.le_refl 1, by show 1 ≤ 8; omega, fun c hc => ?_⟩
        have hc2 : c ∈ [97 + (tn + 3 * k) % 26] := hc
        have := List.mem_singleton.mp hc2
        omega
      · rw [e, w2, names_w1 m24 ht]
        exact fin _
    · refine ⟨(List.range m).map fun k => nm b an ((tn + 3 * k) % 26), mo', hm', by simp, way2_nd (by omega), fun x hx => ?_, ?_⟩
      · obtain ⟨k, _, rfl⟩ := List.mem_map.mp hx
        refine ⟨by rw [nm_len]; omega, by rw [nm_len]; omega, fun c hc => ?_⟩
        rw [nm_cps] at hc
        rcases List.mem_append.mp hc with q | q
        · rcases List.mem_append.mp q with q | q
          · exact bc c (List.mem_of_mem_take q)
          · have := List.mem_singleton.mp q
            omega
        · exact bc c (List.mem_of_mem_drop q)
      · rw [e, names_w2 m24 ht b7 w w2]
        exact fin _
end
end
end QL
end
section
set_option Elab.async false
set_option linter.all false
set_option maxRecDepth 100000
set_option maxHeartbeats 4000000
set_option autoImplicit false
/-! HRec: two different names; a drawn record. -/
namespace QL
open PySem PySem.Spec L2
open Classical
theorem ixs {ns : List Str} {M : Mem} {n : Nat} (hn : n < ns.length) : fIxA (.lst (ns.map D.str)) (.int (n : Nat)) M = .ok (.str ns[n]) M := fIxA_l (by simp [hn])
theorem filt_strs {P : Str → Bool} : ∀ ns : List Str, (ns.map D.str).filterMap (fun d => match d with | .str x => if P x = true then some (D.str x) else none | _ => none) = (ns.filter P).map D.str
  | [] => rfl
  | x :: r => by
    rw [List.map_cons]
    by_cases h : P x = true
    · rw [List.filterMap_cons_some (b := D.str x) (by simp [h]), filt_strs r, List.filter_cons, if_pos h]
      rfl
    · rw [List.filterMap_cons_none (by simp [h]), filt_strs r, List.filter_cons, if_neg h]
section
variable {M : Mem} {h : Nat}
theorem two_eq {mo : MO} (hh : h < M.length) (hm : Hand mo) {ns : List Str} (nd : ns.Nodup) (h2 : 2 ≤ ns.length) (h64 : ns.length ≤ 64) : ∃ (a b : Str) (mo' : MO), Hand mo' ∧ a ∈ ns ∧ b ∈ ns ∧ a ≠ b ∧
    g__law_two [.ptr h, .lst (ns.map D.str)] (M.set h mo) = .ok (.tup [.str a, .str b]) (M.set h mo') := by
  obtain ⟨r, mo1, hm1, r0, r1, e1⟩ := draw_eq hh hm (t := (ns.length : Int)) (by omega) (by omega)
  obtain ⟨i, rfl⟩ := Int.eq_ofNat_of_zero_le r0
  have hi : i < ns.length := by exact_mod_cast r1
  generalize ea : ns[i] = a
  have ha : a ∈ ns := by rw [← ea]; exact List.getElem_mem hi
  have hl : 1 ≤ (ns.filter fun x => decide (x ≠ a)).length := by
    rcases Nat.eq_zero_or_pos (ns.filter fun x => decide (x ≠ a)).length with z | z
    · exfalso
      have hz := List.length_eq_zero_iff.mp z
      have al : ∀ x ∈ ns, x = a := fun x hx => by
        rcases Classical.em (x = a) with q | q
        · exact q
        · have : x ∈ ns.filter fun x => decide (x ≠ a) := List.mem_filter.mpr ⟨hx, by simp [q]⟩
          rw [hz] at this
          cases this
      match ns, nd, h2 with
      | x :: y :: t, nd, _ =>
        have hx := al x List.mem_cons_self
        have hy := al y (List.mem_cons_of_mem _ List.mem_cons_self)
        have := (List.nodup_cons.mp nd).1
        rw [hx, hy] at this
        exact this List.mem_cons_self
    · exact z
  have hf : (ns.filter fun x => decide (x ≠ a)).length ≤ ns.length := List.length_filter_le _ _
  obtain ⟨q, mo2, hm2, q0, q1, e2'⟩ := draw_eq hh hm1 (t := ((ns.filter fun x => decide (x ≠ a)).length : Int)) (by omega) (by omega)
  obtain ⟨j, rfl⟩ := Int.eq_ofNat_of_zero_le q0
  have hj : j < (ns.filter fun x => decide (x ≠ a)).length := by exact_mod_cast q1
  have hb := List.getElem_mem hj
  generalize eb : (ns.filter fun x => decide (x ≠ a))[j] = b at hb
  obtain ⟨hb1, hb2⟩ := List.mem_filter.mp hb
  refine ⟨a, b, mo2, hm2, ha, hb1, fun z => (of_decide_eq_true hb2) z.symm, ?_⟩
  have ec : e__law_two_1 [some (.ptr h), some (.lst (ns.map D.str)), some (.str a), none, none] (M.set h mo1) = .ok (.lst ((ns.filter fun x => decide (x ≠ a)).map D.str)) (M.set h mo1) := by
    unfold e__law_two_1
    rw [eLc_ap]
    simp only [iSeq_ap, eVar_ap, List.getElem?_cons_succ, List.getElem?_cons_zero, vR_some, isR_l]
    rw [lcR_ok, lcL_map (gd := Its.gd ⟨ns.map D.str, none⟩) trivial (fun d => match d with | .str x => if decide (x ≠ a) = true then some (D.str x) else none | _ => none) (ns.map D.str) [] (by simp; exact small h64) fun d hd => by
      obtain ⟨x, hx, rfl⟩ := List.mem_map.mp hd
      refine ⟨[some (.ptr h), some (.lst (ns.map D.str)), some (.str a), none, some (.str x)], rfl, ?_⟩
      by_cases z : x = a
      · simp [z]
      · simp [z]]
    rw [List.nil_append, filt_strs]
    rfl
  unfold g__law_two
  rw [runF_ap (show [D.ptr h, D.lst (ns.map D.str)].length = 2 from rfl)]
  have i1 := ixs (M := M.set h mo1) hi
  rw [ea] at i1
  have i2 := ixs (M := M.set h mo2) hj
  rw [eb] at i2
  unfold t__law_two
  simp only [kSeq_ap, kAsg_ap, e2_ap, eVar_ap, List.map_cons, List.map_nil, List.replicate, List.cons_append, List.nil_append, List.getElem?_cons_succ, List.getElem?_cons_zero, vR_some, s2_ok, eCall_ap, aCons_ap, c1_ok, aNil_ap, c2_ok, cR_ok, bLenA_l, List.length_map, e1, s3_ok, i1, asR_ok, gN_ap, stR_ok, thn_nx, List.set_cons_succ, List.set_cons_zero, ec, kRet_ap, eTup_ap, e2', i2, tpR_2, rtR_ok, fnR_rt]
  exact settle_ok (by simp)
end
/-! ### events -/
inductive Ev where
  | met (a b : Str) | ref (a b : Str) | gift (a : Str) (n : Int)
def encE : Ev → D
  | .met a b => .tup [.str "met", .str a, .str b]
  | .ref a b => .tup [.str "refused", .str a, .str b]
  | .gift a n => .tup [.str "gift", .str a, .int n]
/-- an event of these names -/
def EvOk (ns : List Str) : Ev → Prop
  | .met a b => a ∈ ns ∧ b ∈ ns ∧ a ≠ b
  | .ref a b => a ∈ ns ∧ b ∈ ns ∧ a ≠ b
  | .gift a n => a ∈ ns ∧ 1 ≤ n ∧ n ≤ 9
theorem eApp_at {o v : EF} {S : Sl} {M M1 M2 : Mem} {k : Nat} {ds0 ds : List D} {y : D} (h1 : o S M = .ok (.ptr k) M1) (h2 : asL M1 (.ptr k) = some ds0) (h3 : v S M1 = .ok y M2) (h4 : M2[k]? = some (.lst ds)) (hz : ds.length < sizeLine) : eApp o v S M = .ok .non (M2.set k (.lst (ds ++ [y]))) := by
  unfold eApp
  rw [h1]
  show (match asL M1 (.ptr k) with | some _ => _ | none => _) = _
  rw [h2]
  show (v S M1).bind _ = _
  rw [h3]
  show (match M2[k]? with | some (.lst ds) => _ | _ => _) = _
  rw [h4]
  exact if_pos hz
theorem eFrz_l {e : EF} {S : Sl} {M M1 : Mem} {k : Nat} {ds : List D} (h1 : e S M = .ok (.ptr k) M1) (h2 : M1[k]? = some (.lst ds)) : eFrz e S M = .ok (.lst ds) (M1.set k .gone) := by
  have e1 : frz (.ptr k) M1 = some (.lst ds, M1.set k .gone) := by simp [frz, h2]
  unfold eFrz
  rw [h1]
  show (match frz (.ptr k) M1 with | some (d', M2) => _ | none => _) = _
  rw [e1]
/-- no place of the store is named -/
def NoP (M : Mem) : Prop := ∀ n, lowM n M = true
theorem settle_cut {n : Nat} {d : D} {M : Mem} (h : n < M.length) (h1 : lowD n d = true) (h2 : lowM n (M.take n) = true) : settle n (.ok d M) = .ok d (M.take n) := by
  have h3 : ¬ M.length ≤ n := by omega
  simp [settle, h1, h2, h3]
theorem NoP.set {M : Mem} {h : Nat} {mo : MO} (hM : NoP M) (hm : ∀ n, lowO n mo = true) : NoP (M.set h mo) := fun n => by
  unfold lowM
  rw [List.all_eq_true]
  intro x hx
  rcases List.mem_or_eq_of_mem_set hx with q | q
  · exact List.all_eq_true.mp (hM n) x q
  · rw [q]; exact hm n
theorem lowDs_map {α : Type} {n : Nat} {f : α → D} (h : ∀ x, lowD n (f x) = true) : ∀ l : List α, lowDs n (l.map f) = true
  | [] => rfl
  | x :: r => by
    show (lowD n (f x) && lowDs n (r.map f)) = true
    rw [h x, lowDs_map h r]
    rfl
theorem Hand.low {mo : MO} (hm : Hand mo) (n : Nat) : lowO n mo = true := by
  obtain ⟨c, a1, a2, a3, a4, a5, rfl, _⟩ := hm
  show (lowDs n (c.map D.int) && lowDs n [.int a1, .int a2, .int a3, .int a4, .int a5]) = true
  rw [lowDs_map (fun _ => rfl)]
  rfl
/-- a loop with an invariant, by what of the list is done -/
theorem forL_pre {gd : Mem → Prop} {g : GF} {t : TF} {vs : List Nat} {J : List D → Sl → Mem → Prop} {full : List D} (hg : ∀ l S M, J l S M → gd M)
    (hs : ∀ l d r S M, full = l ++ d :: r → J l S M → ∃ S1 M1 S2 M2, g d S M = .ok S1 M1 ∧ t S1 M1 = .nx S2 M2 ∧ J (l ++ [d]) (kl vs S2) M2) :
    ∀ (ds l : List D) (S : Sl) (M : Mem), full = l ++ ds → J l S M → ∃ S' M', forL gd g t vs ds S M = .nx S' M' ∧ J full S' M'
  | [], l, S, M, e, h => ⟨S, M, by unfold forL; rw [if_pos (hg _ _ _ h)], by rw [e, List.append_nil]; exact h⟩
  | d :: r, l, S, M, e, h => by
    obtain ⟨S1, M1, S2, M2, e1, e2, h2⟩ := hs l d r S M e h
    obtain ⟨S', M', e3, h3⟩ := forL_pre hg hs r (l ++ [d]) _ _ (by rw [List.append_assoc]; exact e) h2
    refine ⟨S', M', ?_, h3⟩
    unfold forL
    rw [if_pos (hg _ _ _ h), e1]
    show (match t S1 M1 with
      | .nx S2 M2 => forL gd g t vs r (kl vs S2) M2
      | .ct S2 M2 => forL gd g t vs r (kl vs S2) M2
      | .bk S2 M2 => .nx S2 M2
      | r => r) = _
    rw [e2]
    exact e3
section
variable {M : Mem} {h : Nat}
theorem app_set {x : MO} {mo : MO} (hh : h < M.length) : (M ++ [x]).set h mo = M.set h mo ++ [x] := by rw [List.set_append_left _ _ hh]
theorem last_get {x : MO} {mo : MO} (hh : h < M.length) : ((M ++ [x]).set h mo)[M.length]? = some x := by
  rw [app_set hh, List.getElem?_append_right (by simp), List.length_set, Nat.sub_self]
  rfl
theorem last_set {x y : MO} {mo : MO} (hh : h < M.length) : ((M ++ [x]).set h mo).set M.length y = (M ++ [y]).set h mo := by
  rw [app_set hh, app_set hh, List.set_append_right _ _ (by simp), List.length_set, Nat.sub_self]
  rfl
theorem gift_at {mo : MO} (hh : h < M.length) (hm : Hand mo) {S : Sl} (hS : S[0]? = some (some (.ptr h))) : ∃ (n : Int) (mo' : MO), Hand mo' ∧ 1 ≤ n ∧ n ≤ 9 ∧
    e2 fIxA (eLst (aCons (eC (.int 1)) (aCons (eC (.int 1)) (aCons (eC (.int 2)) (aCons (eC (.int 3)) (aCons (e2 fAdd (eC (.int 4)) (eCall g__law_draw (aCons (eVar 0) (aCons (eC (.int 6)) aNil)))) aNil)))))) (eCall g__law_draw (aCons (eVar 0) (aCons (eC (.int 5)) aNil))) S (M.set h mo) = .ok (.int n) (M.set h mo') := by
  obtain ⟨r, mo1, hm1, r0, r1, e1⟩ := draw_eq hh hm (t := 6) (by decide) (by decide)
  obtain ⟨q, mo2, hm2, q0, q1, e2'⟩ := draw_eq hh hm1 (t := 5) (by decide) (by decide)
  obtain ⟨j, rfl⟩ := Int.eq_ofNat_of_zero_le q0
  have hj : j < 5 := by exact_mod_cast q1
  have ex : ∃ n : Int, ([D.int 1, .int 1, .int 2, .int 3, .int (4 + r)])[j]? = some (.int n) ∧ 1 ≤ n ∧ n ≤ 9 := by
    match j, hj with
    | 0, _ => exact ⟨1, rfl, by omega, by omega⟩
    | 1, _ => exact ⟨1, rfl, by omega, by omega⟩
    | 2, _ => exact ⟨2, rfl, by omega, by omega⟩
    | 3, _ => exact ⟨3, rfl, by omega, by omega⟩
    | 4, _ => exact ⟨4 + r, rfl, by omega, by omega⟩
  obtain ⟨n, en, n1, n9⟩ := ex
  refine ⟨n, mo2, hm2, n1, n9, ?_⟩
  simp only [e2_ap, eLst_ap, aCons_ap, eC_ap, c1_ok, s2_ok, eCall_ap, eVar_ap, hS, vR_some, aNil_ap, c2_ok, cR_ok, e1, s3_ok, fAdd_i, lsR_5, e2', fIxA_l en]
/-- one more event -/
theorem rec_body {mo : MO} (hh : h < M.length) (hm : Hand mo) {ns : List Str} (nd : ns.Nodup) (h2 : 2 ≤ ns.length) (h64 : ns.length ≤ 64) {evs : List Ev} (he : evs.length < 1000) {lim k : D} :
    ∃ (ev : Ev) (mo' : MO) (a b w : D), Hand mo' ∧ EvOk ns ev ∧ b__law_record_3 [some (.ptr h), some (.lst (ns.map D.str)), some lim, some (.ptr M.length), some k, none, none, none] ((M ++ [MO.lst (evs.map encE)]).set h mo) =
      .nx [some (.ptr h), some (.lst (ns.map D.str)), some lim, some (.ptr M.length), some k, some a, some b, some w] ((M ++ [MO.lst ((evs ++ [ev]).map encE)]).set h mo') := by
  have hh' : h < (M ++ [MO.lst (evs.map encE)]).length := by rw [List.length_append]; omega
  obtain ⟨a, b, mo1, hm1, ha, hb, ab, e1⟩ := two_eq hh' hm nd h2 h64
  obtain ⟨r, mo2, hm2, r0, r1, e2'⟩ := draw_eq hh' hm1 (t := 8) (by decide) (by decide)
  have zs : (evs.map encE).length < sizeLine := by rw [List.length_map, sizeLine_eq]; omega
  have aL : ∀ mo, asL ((M ++ [MO.lst (evs.map encE)]).set h mo) (.ptr M.length) = some (evs.map encE) := fun mo => by simp only [asL, last_get hh]
  have pre : ∀ r', t__law_record_2 [some (.ptr h), some (.lst (ns.map D.str)), some lim, some (.ptr M.length), some k, some (.str a), some (.str b), some (.int r)] ((M ++ [MO.lst (evs.map encE)]).set h mo2) = r' → b__law_record_3 [some (.ptr h), some (.lst (ns.map D.str)), some lim, some (.ptr M.length), some k, none, none, none] ((M ++ [MO.lst (evs.map encE)]).set h mo) = r' := fun r' hr => by
    unfold b__law_record_3
    simp only [kSeq_ap, kAsg_ap, eCall_ap, aCons_ap, eVar_ap, List.getElem?_cons_succ, List.getElem?_cons_zero, vR_some, c1_ok, aNil_ap, c2_ok, cR_ok, e1, asR_ok, gTupF_2, gConsF_ap, gN_ap, gcR_ok, gNilF_ap, stR_ok, thn_nx, List.set_cons_succ, List.set_cons_zero, eC_ap, e2', hr]
  have app : ∀ (ev : Ev) (v : EF) (N : Mem) (mo' : MO), v [some (.ptr h), some (.lst (ns.map D.str)), some lim, some (.ptr M.length), some k, some (.str a), some (.str b), some (.int r)] ((M ++ [MO.lst (evs.map encE)]).set h mo2) = .ok (encE ev) ((M ++ [MO.lst (evs.map encE)]).set h mo') →
      eApp (eVar 3) v [some (.ptr h), some (.lst (ns.map D.str)), some lim, some (.ptr M.length), some k, some (.str a), some (.str b), some (.int r)] ((M ++ [MO.lst (evs.map encE)]).set h mo2) = .ok .non ((M ++ [MO.lst ((evs ++ [ev]).map encE)]).set h mo') := fun ev v N mo' hv => by
    rw [eApp_at (o := eVar 3) (k := M.length) (M1 := (M ++ [MO.lst (evs.map encE)]).set h mo2) rfl (aL mo2) hv (last_get hh) zs, last_set hh, List.map_append]
    rfl
  by_cases w1 : r < 4
  · refine ⟨.met a b, mo2, .str a, .str b, .int r, hm2, ⟨ha, hb, ab⟩, pre _ ?_⟩
    unfold t__law_record_2
    simp only [kIf_ap, bV_ap, e2_ap, eVar_ap, List.getElem?_cons_succ, List.getElem?_cons_zero, vR_some, s2_ok, eC_ap, s3_ok, fLt_i, decide_eq_true w1, bR_ok, ifR_t, kDrop_ap]
    rw [app (.met a b) _ [] mo2 (by simp [encE])]
    rfl
  · by_cases w2 : r < 7
    · refine ⟨.ref a b, mo2, .str a, .str b, .int r, hm2, ⟨ha, hb, ab⟩, pre _ ?_⟩
      unfold t__law_record_2 t__law_record_1
      simp only [kIf_ap, bV_ap, e2_ap, eVar_ap, List.getElem?_cons_succ, List.getElem?_cons_zero, vR_some, s2_ok, eC_ap, s3_ok, fLt_i, decide_eq_false w1, decide_eq_true w2, bR_ok, ifR_t, ifR_f, kDrop_ap]
      rw [app (.ref a b) _ [] mo2 (by simp [encE])]
      rfl
    · obtain ⟨n, mo3, hm3, n1, n9, e3⟩ := gift_at hh' hm2 (S := [some (.ptr h), some (.lst (ns.map D.str)), some lim, some (.ptr M.length), some k, some (.str a), some (.str b), some (.int r)]) rfl
      refine ⟨.gift a n, mo3, .str a, .str b, .int r, hm3, ⟨ha, n1, n9⟩, pre _ ?_⟩
      unfold t__law_record_2 t__law_record_1
      simp only [kIf_ap, bV_ap, e2_ap, eVar_ap, List.getElem?_cons_succ, List.getElem?_cons_zero, vR_some, s2_ok, eC_ap, s3_ok, fLt_i, decide_eq_false w1, decide_eq_false w2, bR_ok, ifR_f, kDrop_ap]
      rw [app (.gift a n) _ [] mo3 (by
        rw [eTup_ap, aCons_ap, eC_ap, c1_ok, aCons_ap, eVar_ap]
        simp only [List.getElem?_cons_succ, List.getElem?_cons_zero, vR_some, c1_ok]
        rw [aCons_ap, e3]
        simp [encE])]
      rfl
/-- THE RECORD -/
theorem record_eq {mo : MO} (hh : h < M.length) (hM : NoP M) (hm : Hand mo) {ns : List Str} (nd : ns.Nodup) (h2 : 2 ≤ ns.length) (h64 : ns.length ≤ 64) {lim : Nat} (hl : lim ≤ 900) :
    ∃ (evs : List Ev) (mo' : MO), Hand mo' ∧ evs.length ≤ lim ∧ (∀ e ∈ evs, EvOk ns e) ∧ g__law_record [.ptr h, .lst (ns.map D.str), .int (lim : Nat)] (M.set h mo) = .ok (.lst (evs.map encE)) (M.set h mo') := by
  have hh' : h < (M ++ [MO.lst []]).length := by rw [List.length_append]; omega
  obtain ⟨r, mo1, hm1, r0, r1, e1⟩ := draw_eq hh' hm (t := (lim : Int) + 1) (by omega) (by omega)
  obtain ⟨n, rfl⟩ := Int.eq_ofNat_of_zero_le r0
  have hn : n ≤ lim := by have : (n : Int) < (lim : Int) + 1 := r1; omega
  obtain ⟨S', M', e3, evs, mo', hm', eS, eM, el, ok⟩ := forL_pre (gd := Its.gd ⟨rangeD 0 n, none⟩) (g := gN 4) (t := b__law_record_3) (vs := [4, 5, 6, 7]) (full := rangeD 0 n)
    (J := fun l S N => ∃ (evs : List Ev) (mo' : MO), Hand mo' ∧ S = [some (.ptr h), some (.lst (ns.map D.str)), some (.int (lim : Nat)), some (.ptr M.length), none, none, none, none] ∧ N = (M ++ [MO.lst (evs.map encE)]).set h mo' ∧ evs.length = l.length ∧ ∀ e ∈ evs, EvOk ns e)
    (fun _ _ _ _ => trivial) (fun l d r S N e ⟨evs, mo', hm', eS, eN, el, ok⟩ => by
      have ll : l.length < n := by
        have := congrArg List.length e
        rw [rangeD_len, List.length_append, List.length_cons] at this
        omega
      obtain ⟨ev, mo2, a, b, w, hm2, ok2, eb⟩ := rec_body hh hm' nd h2 h64 (evs := evs) (by omega) (lim := .int (lim : Nat)) (k := d)
      refine ⟨_, N, _, _, ?_, (by rw [eN]; exact eb), evs ++ [ev], mo2, hm2, rfl, rfl, by rw [List.length_append, List.length_append, el]; rfl, fun e he => ?_⟩
      · rw [eS]
        rfl
      · rcases List.mem_append.mp he with q | q
        · exact ok e q
        · rw [List.mem_singleton.mp q]; exact ok2) (rangeD 0 n) [] [some (.ptr h), some (.lst (ns.map D.str)), some (.int (lim : Nat)), some (.ptr M.length), none, none, none, none] ((M ++ [MO.lst []]).set h mo1) rfl ⟨[], mo1, hm1, rfl, rfl, rfl, by simp⟩
  rw [rangeD_len] at el
  refine ⟨evs, mo', hm', by omega, ok, ?_⟩
  have ef : t__law_record_4 [some (.ptr h), some (.lst (ns.map D.str)), some (.int (lim : Nat)), some (.ptr M.length), none, none, none, none] ((M ++ [MO.lst []]).set h mo) = .nx S' M' := by
    unfold t__law_record_4
    rw [kFor_ap, iRange1_ap]
    simp only [aCons_ap, eCall_ap, eVar_ap, List.getElem?_cons_succ, List.getElem?_cons_zero, vR_some, c1_ok, e2_ap, s2_ok, eC_ap, s3_ok, fAdd_i, aNil_ap, c2_ok, cR_ok, e1]
    rw [i1R_ok (by omega) (by omega), foR_ok, Int.toNat_natCast]
    exact e3
  unfold g__law_record
  rw [runF_ap (show [D.ptr h, D.lst (ns.map D.str), D.int (lim : Nat)].length = 3 from rfl)]
  unfold t__law_record
  have s0 : M.set h mo ++ [MO.lst []] = (M ++ [MO.lst []]).set h mo := (app_set hh).symm
  have fz : eFrz (eVar 3) S' M' = .ok (.lst (evs.map encE)) ((M ++ [MO.gone]).set h mo') := by
    rw [eFrz_l (k := M.length) (ds := evs.map encE) (M1 := M') (by rw [eS]; rfl) (by rw [eM]; exact last_get hh), eM, last_set hh]
  simp only [kSeq_ap, kAsg_ap, eLstP_ap, aNil_ap, lpR_0, asR_ok, gN_ap, stR_ok, thn_nx, List.map_cons, List.map_nil, List.replicate, List.cons_append, List.nil_append, List.set_cons_succ, List.set_cons_zero, List.length_set, s0, ef, kRet_ap, fz, rtR_ok, fnR_rt]
  have tk : ((M ++ [MO.gone]).set h mo').take M.length = M.set h mo' := by rw [app_set hh, List.take_append_of_le_length (by simp), List.take_of_length_le (by simp)]
  have lw : lowD M.length (D.lst (evs.map encE)) = true := lowDs_map (fun e => by cases e <;> rfl) evs
  rw [settle_cut (by simp) lw (by rw [tk]; exact hM.set (Hand.low hm') _), tk]
end
end QL
end
section
set_option Elab.async false
set_option linter.all false
set_option maxRecDepth 100000
set_option maxHeartbeats 4000000
set_option autoImplicit false
/-! HRun: records in plain words. -/
namespace QL
open PySem
open Classical
abbrev Fn := Str → Int
noncomputable def fu (f : Fn) (a : Str) (v : Int) : Fn := fun x => if x = a then v else f x
theorem fu_same {f : Fn} {a : Str} {v : Int} : fu f a v a = v := if_pos rfl
theorem fu_ne {f : Fn} {a x : Str} {v : Int} (h : x ≠ a) : fu f a v x = f x := if_neg h
def okE (f : Fn) : Ev → Prop
  | .met a b => 0 < f a ∧ 0 < f b
  | .ref a b => ¬ (0 < f a ∧ 0 < f b)
  | .gift _ _ => True
noncomputable def stE (f : Fn) : Ev → Fn
  | .met a _ => fu f a (f a - 1)
  | .ref _ _ => f
  | .gift a n => fu f a (f a + n)
noncomputable def run : List Ev → Fn → Option Fn
  | [], f => some f
  | e :: r, f => if okE f e then run r (stE f e) else none
/-- the tickets that are needed, n so far, c the change so far -/
noncomputable def ltE (n c : Fn) : Ev → Fn
  | .met a b => fu (fu n a (max (n a) (1 - c a))) b (max (fu n a (max (n a) (1 - c a)) b) (1 - c b))
  | _ => n
noncomputable def ltR : List Ev → Fn → Fn → Fn
  | [], n, _ => n
  | e :: r, n, c => ltR r (ltE n c e) (stE c e)
theorem stE_add (f c : Fn) (e : Ev) : stE (fun x => f x + c x) e = fun x => f x + stE c e x := by
  funext x
  cases e with
  | met a b =>
    show fu (fun x => f x + c x) a (f a + c a - 1) x = f x + fu c a (c a - 1) x
    by_cases h : x = a
    · subst h; rw [fu_same, fu_same]; omega
    · rw [fu_ne h, fu_ne h]
  | ref a b => rfl
  | gift a n =>
    show fu (fun x => f x + c x) a (f a + c a + n) x = f x + fu c a (c a + n) x
    by_cases h : x = a
    · subst h; rw [fu_same, fu_same]; omega
    · rw [fu_ne h, fu_ne h]
theorem ltE_ge (n c : Fn) (e : Ev) (x : Str) : n x ≤ ltE n c e x := by
  cases e with
  | met a b =>
    show n x ≤ fu (fu n a _) b _ x
    by_cases h : x = b
    · subst h
      rw [fu_same]
      by_cases h2 : x = a
      · subst h2; rw [fu_same]; omega
      · rw [fu_ne h2]; omega
    · rw [fu_ne h]
      by_cases h2 : x = a
      · subst h2; rw [fu_same]; omega
      · rw [fu_ne h2]; exact Int.le_refl _
  | ref a b => exact Int.le_refl _
  | gift a n => exact Int.le_refl _
theorem ltR_ge : ∀ (r : List Ev) (n c : Fn) (x : Str), n x ≤ ltR r n c x
  | [], n, c, x => Int.le_refl _
  | e :: r, n, c, x => Int.le_trans (ltE_ge n c e x) (ltR_ge r _ _ x)
theorem ltE_le {n c f : Fn} {e : Ev} (hn : ∀ x, n x ≤ f x) (ok : okE (fun x => f x + c x) e) (x : Str) : ltE n c e x ≤ f x := by
  cases e with
  | met a b =>
    obtain ⟨h1, h2⟩ := (show 0 < f a + c a ∧ 0 < f b + c b from ok)
    have na := hn a
    have nb := hn b
    have nx := hn x
    show fu (fu n a _) b _ x ≤ f x
    have q : fu n a (max (n a) (1 - c a)) x ≤ f x := by
      by_cases h : x = a
      · subst h; rw [fu_same]; omega
      · rw [fu_ne h]; exact nx
    by_cases h : x = b
    · subst h
      rw [fu_same]
      omega
    · rw [fu_ne h]
      exact q
  | ref a b => exact hn x
  | gift a n => exact hn x
theorem ltR_le : ∀ (r : List Ev) (n c f : Fn), (∀ x, n x ≤ f x) → (run r (fun x => f x + c x)).isSome = true → ∀ x, ltR r n c x ≤ f x
  | [], n, c, f, hn, _, x => hn x
  | e :: r, n, c, f, hn, h, x => by
    unfold run at h
    by_cases ok : okE (fun x => f x + c x) e
    · rw [if_pos ok, stE_add] at h
      exact ltR_le r _ _ f (ltE_le hn ok) h x
    · rw [if_neg ok] at h
      cases h
theorem ltE_met {n c : Fn} {a b : Str} : 1 - c a ≤ ltE n c (.met a b) a ∧ 1 - c b ≤ ltE n c (.met a b) b := by
  constructor
  · show 1 - c a ≤ fu (fu n a _) b _ a
    by_cases h : a = b
    · subst h; rw [fu_same]; omega
    · rw [fu_ne h, fu_same]; omega
  · show 1 - c b ≤ fu (fu n a _) b _ b
    rw [fu_same]; omega
theorem run_low : ∀ (r : List Ev) (n c f L : Fn), (∀ x, L x ≤ f x) → (∀ x, ltR r n c x ≤ L x) → (run r (fun x => f x + c x)).isSome = true → (run r (fun x => L x + c x)).isSome = true
  | [], _, _, _, _, _, _, _ => rfl
  | e :: r, n, c, f, L, h1, h2, h => by
    unfold run at h ⊢
    by_cases ok : okE (fun x => f x + c x) e
    · rw [if_pos ok, stE_add] at h
      have ok' : okE (fun x => L x + c x) e := by
        cases e with
        | met a b =>
          have q := ltE_met (n := n) (c := c) (a := a) (b := b)
          have qa := Int.le_trans (ltR_ge r (ltE n c (.met a b)) (stE c (.met a b)) a) (h2 a)
          have qb := Int.le_trans (ltR_ge r (ltE n c (.met a b)) (stE c (.met a b)) b) (h2 b)
          exact ⟨by show 0 < L a + c a; omega, by show 0 < L b + c b; omega⟩
        | ref a b =>
          have := h1 a
          have := h1 b
          intro ⟨z1, z2⟩
          exact ok ⟨by show 0 < f a + c a; have : 0 < L a + c a := z1; omega, by show 0 < f b + c b; have : 0 < L b + c b := z2; omega⟩
        | gift a k => trivial
      rw [if_pos ok', stE_add]
      exact run_low r _ _ f L h1 h2 h
    · rw [if_neg ok] at h
      cases h
def zero : Fn := fun _ => 0
theorem add_zero_fn (f : Fn) : (fun x => f x + zero x) = f := by funext x; show f x + 0 = f x; omega
/-- the record can be -/
def CB (r : List Ev) : Prop := ∃ f : Fn, (∀ x, 0 ≤ f x) ∧ (run r f).isSome = true
noncomputable def least (r : List Ev) : Fn := ltR r zero zero
theorem least_nn (r : List Ev) (x : Str) : 0 ≤ least r x := ltR_ge r zero zero x
theorem cb_iff (r : List Ev) : CB r ↔ (run r (least r)).isSome = true := by
  constructor
  · rintro ⟨f, f0, h⟩
    have h' : (run r (fun x => f x + zero x)).isSome = true := by rw [add_zero_fn]; exact h
    have hl := ltR_le r zero zero f f0 h'
    have := run_low r zero zero f (least r) hl (fun x => Int.le_refl _) h'
    rw [add_zero_fn] at this
    exact this
  · exact fun h => ⟨least r, least_nn r, h⟩
theorem run_app : ∀ (p q : List Ev) (f : Fn), run (p ++ q) f = (run p f).bind (run q)
  | [], q, f => rfl
  | e :: p, q, f => by
    show (if okE f e then run (p ++ q) (stE f e) else none) = (if okE f e then run p (stE f e) else none).bind (run q)
    by_cases h : okE f e
    · rw [if_pos h, if_pos h, run_app p q]
    · rw [if_neg h, if_neg h]; rfl
theorem cb_pre {p q : List Ev} (h : CB (p ++ q)) : CB p := by
  obtain ⟨f, f0, h⟩ := h
  refine ⟨f, f0, ?_⟩
  rw [run_app] at h
  cases e : run p f with
  | none => rw [e] at h; cases h
  | some g => rfl
theorem cb_take {r : List Ev} {n m : Nat} (hn : n ≤ m) (h : CB (r.take m)) : CB (r.take n) := by
  have e : r.take m = r.take n ++ (r.drop n).take (m - n) := by
    rw [← List.take_append_drop n (r.take m), List.take_take, Nat.min_eq_left hn, List.drop_take]
  rw [e] at h
  exact cb_pre h
theorem cb_nil : CB [] := ⟨zero, fun _ => Int.le_refl _, rfl⟩
/-- the names of an event -/
def nmE : Ev → List Str
  | .met a b => [a, b]
  | .ref a b => [a, b]
  | .gift a _ => [a]
def nms (r : List Ev) : List Str := r.flatMap nmE
theorem run_cong : ∀ (r : List Ev) (f g : Fn), (∀ x ∈ nms r, f x = g x) → (run r f).isSome = (run r g).isSome
  | [], _, _, _ => rfl
  | e :: r, f, g, h => by
    have hE : ∀ x ∈ nmE e, f x = g x := fun x hx => h x (by show x ∈ (e :: r).flatMap nmE; rw [List.flatMap_cons]; exact List.mem_append_left _ hx)
    have hR : ∀ x ∈ nms r, f x = g x := fun x hx => h x (by show x ∈ (e :: r).flatMap nmE; rw [List.flatMap_cons]; exact List.mem_append_right _ hx)
    have ok : okE f e ↔ okE g e := by
      cases e with
      | met a b =>
        have := hE a List.mem_cons_self
        have := hE b (List.mem_cons_of_mem _ List.mem_cons_self)
        show (0 < f a ∧ 0 < f b) ↔ (0 < g a ∧ 0 < g b)
        rw [‹f a = g a›, ‹f b = g b›]
      | ref a b =>
        have := hE a List.mem_cons_self
        have := hE b (List.mem_cons_of_mem _ List.mem_cons_self)
        show ¬ (0 < f a ∧ 0 < f b) ↔ ¬ (0 < g a ∧ 0 < g b)
        rw [‹f a = g a›, ‹f b = g b›]
      | gift a n => exact Iff.rfl
    have hs : ∀ x ∈ nms r, stE f e x = stE g e x := fun x hx => by
      have hx' := hR x hx
      cases e with
      | met a b =>
        have := hE a List.mem_cons_self
        show fu f a _ x = fu g a _ x
        by_cases z : x = a
        · subst z; rw [fu_same, fu_same, this]
        · rw [fu_ne z, fu_ne z]; exact hx'
      | ref a b => exact hx'
      | gift a n =>
        have := hE a List.mem_cons_self
        show fu f a _ x = fu g a _ x
        by_cases z : x = a
        · subst z; rw [fu_same, fu_same, this]
        · rw [fu_ne z, fu_ne z]; exact hx'
    unfold run
    by_cases q : okE f e
    · rw [if_pos q, if_pos (ok.mp q)]
      exact run_cong r _ _ hs
    · rw [if_neg q, if_neg (fun z => q (ok.mpr z))]
def mets : List Ev → Nat
  | [] => 0
  | .met _ _ :: r => mets r + 1
  | _ :: r => mets r
def giftsOk : List Ev → Prop := fun r => ∀ a n, Ev.gift a n ∈ r → 0 ≤ n
theorem ltR_bd : ∀ (r : List Ev) (n c : Fn) (k : Int), giftsOk r → (∀ x, -k ≤ c x) → (∀ x, n x ≤ k) → 0 ≤ k → ∀ x, ltR r n c x ≤ k + mets r
  | [], n, c, k, _, _, hn, _, x => by show n x ≤ k + 0; have := hn x; omega
  | e :: r, n, c, k, hg, hc, hn, hk, x => by
    have hg' : giftsOk r := fun a n h => hg a n (List.mem_cons_of_mem _ h)
    cases e with
    | met a b =>
      have ih := ltR_bd r (ltE n c (.met a b)) (stE c (.met a b)) (k + 1) hg' (fun y => by
        show -(k + 1) ≤ fu c a _ y
        have := hc y
        by_cases h : y = a
        · subst h; rw [fu_same]; omega
        · rw [fu_ne h]; omega) (fun y => by
        show fu (fu n a _) b _ y ≤ k + 1
        have h1 := hn y
        have h2 := hc y
        have h3 : fu n a (max (n a) (1 - c a)) y ≤ k + 1 := by
          by_cases h : y = a
          · subst h; rw [fu_same]; omega
          · rw [fu_ne h]; omega
        by_cases h : y = b
        · subst h; rw [fu_same]; omega
        · rw [fu_ne h]; exact h3) (by omega) x
      show ltR r _ _ x ≤ k + ((mets r + 1 : Nat) : Int)
      omega
    | ref a b => exact ltR_bd r n c k hg' hc hn hk x
    | gift a m =>
      have m0 := hg a m List.mem_cons_self
      exact ltR_bd r n (stE c (.gift a m)) k hg' (fun y => by
        show -k ≤ fu c a _ y
        have := hc y
        by_cases h : y = a
        · subst h; rw [fu_same]; omega
        · rw [fu_ne h]; omega) hn hk x
theorem least_bd {r : List Ev} (hg : giftsOk r) (x : Str) : least r x ≤ mets r := by
  have := ltR_bd r zero zero 0 hg (fun _ => by show -0 ≤ (0 : Int); omega) (fun _ => Int.le_refl 0) (Int.le_refl 0) x
  unfold least
  omega
/-- the first bad place -/
def isFB (r : List Ev) (n : Nat) : Prop := n < r.length ∧ CB (r.take n) ∧ ¬ CB (r.take (n + 1))
theorem fb_uniq {r : List Ev} {n m : Nat} (h : isFB r n) (h' : isFB r m) : n = m := by
  rcases Nat.lt_trichotomy n m with q | q | q
  · exact absurd (cb_take (by omega) h'.2.1) h.2.2
  · exact q
  · exact absurd (cb_take (by omega) h.2.1) h'.2.2
theorem fb_notCB {r : List Ev} {n : Nat} (h : isFB r n) : ¬ CB r := fun z => h.2.2 (by
  have : CB (r.take r.length) := by rw [List.take_length]; exact z
  exact cb_take (by have := h.1; omega) this)
theorem fb_app {r q : List Ev} {n : Nat} (h : isFB r n) : isFB (r ++ q) n := by
  have := h.1
  refine ⟨by rw [List.length_append]; omega, ?_, ?_⟩
  · rw [List.take_append_of_le_length (by omega)]; exact h.2.1
  · rw [List.take_append_of_le_length (by omega)]; exact h.2.2
theorem fb_take {r : List Ev} {n : Nat} (h : isFB r n) : isFB (r.take (n + 1)) n := by
  have := h.1
  refine ⟨by rw [List.length_take]; omega, ?_, ?_⟩
  · rw [List.take_take, Nat.min_eq_left (by omega)]; exact h.2.1
  · rw [List.take_take, Nat.min_eq_left (Nat.le_refl _)]; exact h.2.2
end QL
end
section
set_option Elab.async false
set_option linter.all false
set_option maxRecDepth 100000
set_option maxHeartbeats 4000000
set_option autoImplicit false
/-! HTab: dicts with texts as keys, in the store. -/
namespace QL
open PySem PySem.Spec L2
open Classical
/-- a dict with the keys ks -/
def TE (ks : List Str) (v : Str → D) : List (Key × D) := ks.map fun x => (Sum.inr x, v x)
theorem te_len (ks : List Str) (v : Str → D) : (TE ks v).length = ks.length := List.length_map _
theorem te_cong {ks : List Str} {v w : Str → D} (h : ∀ x ∈ ks, v x = w x) : TE ks v = TE ks w := List.map_congr_left fun x hx => by rw [h x hx]
theorem te_val {v : Str → D} {x : Str} : ∀ {ks : List Str}, x ∈ ks → valD (TE ks v) (.inr x) = some (v x)
  | y :: r, h => by
    by_cases e : y = x
    · subst e
      simp [valD, TE, List.find?_cons]
    · rcases List.mem_cons.mp h with q | q
      · exact absurd q.symm e
      · have ih := te_val (v := v) q
        unfold valD TE at ih ⊢
        rw [List.map_cons, List.find?_cons]
        simp only [Sum.inr.injEq, e, decide_false]
        exact ih
theorem te_any {v : Str → D} {x : Str} {ks : List Str} : ((TE ks v).any fun kv => decide (kv.1 = (Sum.inr x : Key))) = decide (x ∈ ks) := by
  induction ks with
  | nil => simp [TE]
  | cons y r ih =>
    have ih' : (r.map fun x => ((Sum.inr x : Key), v x)).any (fun kv => decide (kv.1 = (Sum.inr x : Key))) = decide (x ∈ r) := ih
    unfold TE
    rw [List.map_cons, List.any_cons, ih']
    by_cases e : y = x
    · simp [e]
    · have e' : ¬ x = y := fun z => e z.symm
      simp [e, e']
theorem te_put {v : Str → D} {x : Str} {d : D} {ks : List Str} (h : x ∈ ks) : putKD (TE ks v) (.inr x) d = TE ks (fun y => if y = x then d else v y) := by
  unfold putKD
  rw [te_any, decide_eq_true h, if_pos rfl]
  unfold TE
  rw [List.map_map]
  apply List.map_congr_left
  intro y _
  by_cases e : y = x
  · simp [e]
  · simp [e]
theorem te_new {v : Str → D} {x : Str} {d : D} {ks : List Str} (h : x ∉ ks) : putKD (TE ks v) (.inr x) d = TE (ks ++ [x]) (fun y => if y = x then d else v y) := by
  unfold putKD
  rw [te_any, decide_eq_false h, if_neg Bool.false_ne_true]
  unfold TE
  rw [List.map_append]
  have : (ks.map fun y => ((Sum.inr y : Key), v y)) = ks.map fun y => ((Sum.inr y : Key), if y = x then d else v y) := List.map_congr_left fun y hy => by
    have : y ≠ x := fun e => h (e ▸ hy)
    simp [this]
  rw [this]
  simp
/-! ### places of the store -/
section
variable {M : Mem} {x y z : MO} {l : Mem}
theorem g0 : (M ++ x :: l)[M.length]? = some x := by simp
theorem s0 : (M ++ x :: l).set M.length y = M ++ y :: l := by simp
theorem g1 : (M ++ x :: y :: l)[M.length + 1]? = some y := by
  rw [List.getElem?_append_right (by omega)]
  simp
theorem s1 : (M ++ x :: y :: l).set (M.length + 1) z = M ++ x :: z :: l := by
  rw [List.set_append_right _ _ (by omega)]
  simp
end
section
variable {N N1 N2 N3 : Mem} {k : Nat} {ks : List Str} {v : Str → D} {x : Str} {d : D} {S : Sl} {o i e : EF} {kvs : List (Key × D)}
theorem look_at' (h : N[k]? = some (.dK kvs)) : look N (.ptr k) (.str x) = some (valD kvs (.inr x)) := by
  simp [look, asK, h, keyOf]
theorem ixT (h : N[k]? = some (.dK (TE ks v))) (hx : x ∈ ks) : fIxA (.ptr k) (.str x) N = .ok (v x) N := by
  have e : fDIx (.ptr k) (.str x) N = .ok (v x) N := by
    unfold fDIx
    rw [look_at' h, te_val hx]
  simp [fIxA, or2, e, orR]
theorem dput_at' (h : N[k]? = some (.dK kvs)) (hl : kvs.length < sizeLine) : dput k (.str x) d N = some (N.set k (.dK (putKD kvs (.inr x) d))) := by
  simp [dput, h, keyOf, hl]
theorem kDPut_at (h1 : e S N = .ok d N1) (h2 : o S N1 = .ok (.ptr k) N2) (h3 : i S N2 = .ok (.str x) N3) (h4 : N3[k]? = some (.dK kvs)) (hl : kvs.length < sizeLine) : kDPut o i e S N = .nx S (N3.set k (.dK (putKD kvs (.inr x) d))) := by
  unfold kDPut
  rw [h1]
  show (o S N1).thn S _ = _
  rw [h2]
  show (i S N2).thn S _ = _
  rw [h3]
  show (match dput k (.str x) d N3 with | some M4 => SR.nx S M4 | none => SR.bad) = _
  rw [dput_at' h4 hl]
theorem kDAug_at {op : Int → Int → Int} {a b : Int} (h1 : o S N = .ok (.ptr k) N1) (h2 : i S N1 = .ok (.str x) N2) (h3 : N2[k]? = some (.dK kvs)) (h4 : valD kvs (.inr x) = some (.int a)) (h5 : e S N2 = .ok (.int b) N3) (h6 : N3[k]? = some (.dK kvs)) (hl : kvs.length < sizeLine) :
    kDAug o i e op S N = .nx S (N3.set k (.dK (putKD kvs (.inr x) (.int (op a b))))) := by
  unfold kDAug
  rw [h1]
  show (i S N1).thn S _ = _
  rw [h2]
  show (match look N2 (.ptr k) (.str x) with | some (some (.int a)) => _ | _ => SR.bad) = _
  rw [look_at' h3, h4]
  show (e S N2).thn S _ = _
  rw [h5]
  show (match dput k (.str x) (.int (op a b)) N3 with | some M4 => SR.nx S M4 | none => SR.bad) = _
  rw [dput_at' h6 hl]
theorem bDictK_k {kvs : List (Key × D)} : bDictK [.dK kvs] N = .ok (.ptr N.length) (N ++ [.dK kvs]) := (rfl)
theorem bDictK_p (h : N[k]? = some (.dK kvs)) : bDictK [.ptr k] N = .ok (.ptr N.length) (N ++ [.dK kvs]) := by simp [bDictK, asK, h]
theorem eFrz_k (h1 : e S N = .ok (.ptr k) N1) (h2 : N1[k]? = some (.dK kvs)) : eFrz e S N = .ok (.dK kvs) (N1.set k .gone) := by
  have e1 : frz (.ptr k) N1 = some (.dK kvs, N1.set k .gone) := by simp [frz, h2]
  unfold eFrz
  rw [h1]
  show (match frz (.ptr k) N1 with | some (d', M2) => _ | none => _) = _
  rw [e1]
end
/-- a dict of ints -/
def TI (ks : List Str) (f : Fn) : List (Key × D) := TE ks fun x => .int (f x)
theorem ti_put {ks : List Str} {f : Fn} {x : Str} {v : Int} (h : x ∈ ks) : putKD (TI ks f) (.inr x) (.int v) = TI ks (fu f x v) := by
  unfold TI
  rw [te_put h]
  exact te_cong fun y _ => by unfold fu; split <;> rfl
theorem ti_new {ks : List Str} {f : Fn} {x : Str} {v : Int} (h : x ∉ ks) : putKD (TI ks f) (.inr x) (.int v) = TI (ks ++ [x]) (fu f x v) := by
  unfold TI
  rw [te_new h]
  exact te_cong fun y _ => by unfold fu; split <;> rfl
theorem ti_cong {ks : List Str} {f g : Fn} (h : ∀ x ∈ ks, f x = g x) : TI ks f = TI ks g := te_cong fun x hx => by rw [h x hx]
theorem lowK_ti {n : Nat} : ∀ {ks : List Str} {f : Fn}, lowK n (TI ks f) = true
  | [], _ => rfl
  | x :: r, f => by
    show (true && lowK n (TI r f)) = true
    rw [lowK_ti]
    rfl
theorem set_fail {d : D} {M : Mem} {l : Mem} (hM : NoP M) (h1 : lowD M.length d = true) (hl : l ≠ []) : settle M.length (.ok d (M ++ l)) = .ok d M := by
  have : 0 < l.length := List.length_pos_iff.mpr hl
  rw [settle_cut (by rw [List.length_append]; omega) h1 (by rw [List.take_left]; exact hM _), List.take_left]
end QL
end
section
set_option Elab.async false
set_option linter.all false
set_option maxRecDepth 100000
set_option maxHeartbeats 4000000
set_option autoImplicit false
/-! HProg: what the program's defs make of a record. -/
namespace QL
open PySem PySem.Spec L2
open Classical
theorem d1 : decide (("met" : Str) = "gift") = false := by decide +kernel
theorem d2 : decide (("refused" : Str) = "gift") = false := by decide +kernel
theorem d3 : decide (("refused" : Str) = "met") = false := by decide +kernel
theorem d4 : decide (("gift" : Str) = "met") = false := by decide +kernel
theorem d5 : decide (("gift" : Str) = "gift") = true := by decide +kernel
theorem d6 : decide (("met" : Str) = "met") = true := by decide +kernel
/-- the parts of an event -/
def p1 : Ev → D
  | .met _ _ => .str "met"
  | .ref _ _ => .str "refused"
  | .gift _ _ => .str "gift"
def p2 : Ev → Str
  | .met a _ => a
  | .ref a _ => a
  | .gift a _ => a
def p3 : Ev → D
  | .met _ b => .str b
  | .ref _ b => .str b
  | .gift _ n => .int n
theorem enc_p (e : Ev) : encE e = .tup [p1 e, .str (p2 e), p3 e] := by cases e <;> rfl
section
variable {M : Mem} {ks : List Str} {f : Fn} {r t w o : D} {a b : Str} {n : Int}
theorem zl (hl : ks.length ≤ 64) : (TI ks f).length < sizeLine := by rw [TI, te_len, sizeLine_eq]; omega
theorem aug_sub (ha : a ∈ ks) (hl : ks.length ≤ 64) : kDAug (eVar 2) (eVar 4) (eC (.int 1)) (fun i j => i - j) [some r, some t, some (.ptr M.length), some w, some (.str a), some o] (M ++ [MO.dK (TI ks f)]) = .nx [some r, some t, some (.ptr M.length), some w, some (.str a), some o] (M ++ [MO.dK (TI ks (fu f a (f a - 1)))]) := by
  rw [kDAug_at (k := M.length) (x := a) (N1 := M ++ [MO.dK (TI ks f)]) (N2 := M ++ [MO.dK (TI ks f)]) (N3 := M ++ [MO.dK (TI ks f)]) (a := f a) (b := 1) (by simp) (by simp) g0 (te_val ha) (by simp) g0 (zl hl), s0, ti_put ha]
theorem aug_add (ha : a ∈ ks) (hl : ks.length ≤ 64) : kDAug (eVar 2) (eVar 4) (eVar 5) (fun i j => i + j) [some r, some t, some (.ptr M.length), some w, some (.str a), some (.int n)] (M ++ [MO.dK (TI ks f)]) = .nx [some r, some t, some (.ptr M.length), some w, some (.str a), some (.int n)] (M ++ [MO.dK (TI ks (fu f a (f a + n)))]) := by
  rw [kDAug_at (k := M.length) (x := a) (N1 := M ++ [MO.dK (TI ks f)]) (N2 := M ++ [MO.dK (TI ks f)]) (N3 := M ++ [MO.dK (TI ks f)]) (a := f a) (b := n) (by simp) (by simp) g0 (te_val ha) (by simp) g0 (zl hl), s0, ti_put ha]
theorem ixI (ha : a ∈ ks) : fIxA (.ptr M.length) (.str a) (M ++ [MO.dK (TI ks f)]) = .ok (.int (f a)) (M ++ [MO.dK (TI ks f)]) := ixT g0 ha
theorem mem1 {e : Ev} (hk : ∀ x ∈ nmE e, x ∈ ks) : p2 e ∈ ks := hk _ (by cases e <;> exact List.mem_cons_self)
theorem end_body {e : Ev} (hk : ∀ x ∈ nmE e, x ∈ ks) (hl : ks.length ≤ 64) : b_end_of_4 [some r, some t, some (.ptr M.length), some (p1 e), some (.str (p2 e)), some (p3 e)] (M ++ [MO.dK (TI ks f)]) =
    if okE f e then .nx [some r, some t, some (.ptr M.length), some (p1 e), some (.str (p2 e)), some (p3 e)] (M ++ [MO.dK (TI ks (stE f e))]) else .rt .non (M ++ [MO.dK (TI ks f)]) := by
  unfold b_end_of_4 t_end_of_3
  cases e with
  | gift a n =>
    have ha : a ∈ ks := mem1 hk
    rw [if_pos (show okE f (.gift a n) from trivial)]
    simp [p1, p2, p3, aug_add ha hl, stE]
  | met a b =>
    have ha : a ∈ ks := mem1 hk
    have hb : b ∈ ks := hk b (List.mem_cons_of_mem _ List.mem_cons_self)
    have ok : okE f (.met a b) ↔ 0 < f a ∧ 0 < f b := Iff.rfl
    unfold t_end_of_2 t_end_of_1
    by_cases q1 : 0 < f a
    · by_cases q2 : 0 < f b
      · rw [if_pos (ok.mpr ⟨q1, q2⟩)]
        simp [p1, p2, p3, d1, ixI ha, ixI hb, q1, q2, aug_sub ha hl, stE]
      · rw [if_neg (fun z => q2 (ok.mp z).2)]
        simp [p1, p2, p3, d1, ixI ha, ixI hb, q1, q2]
    · rw [if_neg (fun z => q1 (ok.mp z).1)]
      simp [p1, p2, p3, d1, ixI ha, ixI hb, q1]
  | ref a b =>
    have ha : a ∈ ks := mem1 hk
    have hb : b ∈ ks := hk b (List.mem_cons_of_mem _ List.mem_cons_self)
    have ok : okE f (.ref a b) ↔ ¬ (0 < f a ∧ 0 < f b) := Iff.rfl
    unfold t_end_of_2 t_end_of_1
    by_cases q1 : 0 < f a
    · by_cases q2 : 0 < f b
      · rw [if_neg (fun z => (ok.mp z) ⟨q1, q2⟩)]
        simp [p1, p2, p3, d2, d3, ixI ha, ixI hb, q1, q2]
      · rw [if_pos (ok.mpr fun z => q2 z.2)]
        simp [p1, p2, p3, d2, d3, ixI ha, ixI hb, q1, q2, stE]
    · rw [if_pos (ok.mpr fun z => q1 z.1)]
      simp [p1, p2, p3, d2, d3, ixI ha, ixI hb, q1, stE]
theorem lend_body {e : Ev} (hk : ∀ x ∈ nmE e, x ∈ ks) (hl : ks.length ≤ 64) : b__law_end_5 [some r, some t, some (.ptr M.length), some (p1 e), some (.str (p2 e)), some (p3 e)] (M ++ [MO.dK (TI ks f)]) =
    if okE f e then .nx [some r, some t, some (.ptr M.length), some (p1 e), some (.str (p2 e)), some (p3 e)] (M ++ [MO.dK (TI ks (stE f e))]) else .rt .non (M ++ [MO.dK (TI ks f)]) := by
  unfold b__law_end_5 t__law_end_4
  cases e with
  | gift a n =>
    have ha : a ∈ ks := mem1 hk
    rw [if_pos (show okE f (.gift a n) from trivial)]
    simp [p1, p2, p3, aug_add ha hl, stE]
  | met a b =>
    have ha : a ∈ ks := mem1 hk
    have hb : b ∈ ks := hk b (List.mem_cons_of_mem _ List.mem_cons_self)
    have ok : okE f (.met a b) ↔ 0 < f a ∧ 0 < f b := Iff.rfl
    unfold t__law_end_3 t__law_end_1
    by_cases q1 : 0 < f a
    · have q1' : ¬ f a < 1 := by omega
      by_cases q2 : 0 < f b
      · have q2' : ¬ f b < 1 := by omega
        rw [if_pos (ok.mpr ⟨q1, q2⟩)]
        simp [p1, p2, p3, d1, ixI ha, ixI hb, q1', q2', aug_sub ha hl, stE]
      · have q2' : f b < 1 := by omega
        rw [if_neg (fun z => q2 (ok.mp z).2)]
        simp [p1, p2, p3, d1, ixI ha, ixI hb, q1', q2']
    · have q1' : f a < 1 := by omega
      rw [if_neg (fun z => q1 (ok.mp z).1)]
      simp [p1, p2, p3, d1, ixI ha, ixI hb, q1']
  | ref a b =>
    have ha : a ∈ ks := mem1 hk
    have hb : b ∈ ks := hk b (List.mem_cons_of_mem _ List.mem_cons_self)
    have ok : okE f (.ref a b) ↔ ¬ (0 < f a ∧ 0 < f b) := Iff.rfl
    unfold t__law_end_3 t__law_end_2
    by_cases q1 : 0 < f a
    · by_cases q2 : 0 < f b
      · rw [if_neg (fun z => (ok.mp z) ⟨q1, q2⟩)]
        simp [p1, p2, p3, d2, d3, ixI ha, ixI hb, q1, q2]
      · rw [if_pos (ok.mpr fun z => q2 z.2)]
        simp [p1, p2, p3, d2, d3, ixI ha, ixI hb, q1, q2, stE]
    · rw [if_pos (ok.mpr fun z => q1 z.1)]
      simp [p1, p2, p3, d2, d3, ixI ha, ixI hb, q1, stE]
/-- both loops -/
theorem end_loop {B : TF} (hB : ∀ (e : Ev) (f : Fn), (∀ x ∈ nmE e, x ∈ ks) → B [some r, some t, some (.ptr M.length), some (p1 e), some (.str (p2 e)), some (p3 e)] (M ++ [MO.dK (TI ks f)]) =
    if okE f e then .nx [some r, some t, some (.ptr M.length), some (p1 e), some (.str (p2 e)), some (p3 e)] (M ++ [MO.dK (TI ks (stE f e))]) else .rt .non (M ++ [MO.dK (TI ks f)])) {gd : Mem → Prop} (hg : ∀ M, gd M) :
    ∀ (es : List Ev) (f : Fn), (∀ x ∈ nms es, x ∈ ks) → match run es f with
      | some f' => forL gd (gTupF 3 (gConsF (gN 3) (gConsF (gN 4) (gConsF (gN 5) gNilF)))) B [3, 4, 5] (es.map encE) [some r, some t, some (.ptr M.length), none, none, none] (M ++ [MO.dK (TI ks f)]) = .nx [some r, some t, some (.ptr M.length), none, none, none] (M ++ [MO.dK (TI ks f')])
      | none => ∃ f', forL gd (gTupF 3 (gConsF (gN 3) (gConsF (gN 4) (gConsF (gN 5) gNilF)))) B [3, 4, 5] (es.map encE) [some r, some t, some (.ptr M.length), none, none, none] (M ++ [MO.dK (TI ks f)]) = .rt .non (M ++ [MO.dK (TI ks f')])
  | [], f, _ => by
    show forL _ _ _ _ [] _ _ = _
    unfold forL
    rw [if_pos (hg _)]
  | e :: es, f, hn => by
    have hE : ∀ x ∈ nmE e, x ∈ ks := fun x hx => hn x (by show x ∈ (e :: es).flatMap nmE; rw [List.flatMap_cons]; exact List.mem_append_left _ hx)
    have hR : ∀ x ∈ nms es, x ∈ ks := fun x hx => hn x (by show x ∈ (e :: es).flatMap nmE; rw [List.flatMap_cons]; exact List.mem_append_right _ hx)
    have b1 := hB e f hE
    have one : ∀ rest, forL gd (gTupF 3 (gConsF (gN 3) (gConsF (gN 4) (gConsF (gN 5) gNilF)))) B [3, 4, 5] (encE e :: rest) [some r, some t, some (.ptr M.length), none, none, none] (M ++ [MO.dK (TI ks f)]) =
        match B [some r, some t, some (.ptr M.length), some (p1 e), some (.str (p2 e)), some (p3 e)] (M ++ [MO.dK (TI ks f)]) with
        | .nx S2 M2 => forL gd (gTupF 3 (gConsF (gN 3) (gConsF (gN 4) (gConsF (gN 5) gNilF)))) B [3, 4, 5] rest (kl [3, 4, 5] S2) M2
        | .ct S2 M2 => forL gd (gTupF 3 (gConsF (gN 3) (gConsF (gN 4) (gConsF (gN 5) gNilF)))) B [3, 4, 5] rest (kl [3, 4, 5] S2) M2
        | .bk S2 M2 => .nx S2 M2
        | r => r := fun rest => by
      rw [enc_p]
      conv => lhs; unfold forL
      rw [if_pos (hg _)]
      rfl
    rw [List.map_cons, one, b1]
    unfold run
    by_cases ok : okE f e
    · rw [if_pos ok, if_pos ok]
      exact end_loop hB hg es (stE f e) hR
    · rw [if_neg ok, if_neg ok]
      exact ⟨f, rfl⟩
end
end QL
end
section
set_option Elab.async false
set_option linter.all false
set_option maxRecDepth 100000
set_option maxHeartbeats 4000000
set_option autoImplicit false
/-! HProg2: end_of, players_of, least_tickets, can_be. -/
namespace QL
open PySem PySem.Spec L2
open Classical
section
variable {M : Mem} {ks : List Str} {f : Fn} {es : List Ev}
theorem low_ti {n : Nat} : lowD n (.dK (TI ks f)) = true := lowK_ti
theorem end_of_eq (hM : NoP M) (hn : ∀ x ∈ nms es, x ∈ ks) (hl : ks.length ≤ 64) : match run es f with
    | some f' => g_end_of [.lst (es.map encE), .dK (TI ks f)] M = .ok (.dK (TI ks f')) M
    | none => g_end_of [.lst (es.map encE), .dK (TI ks f)] M = .ok .non M := by
  have lp := end_loop (M := M) (r := .lst (es.map encE)) (t := .dK (TI ks f)) (B := b_end_of_4) (fun e g h => end_body h hl) (gd := Its.gd ⟨es.map encE, none⟩) (fun _ => trivial) es f hn
  have gb := runF_ap (m := 4) (t := t_end_of) (M := M) (show [D.lst (es.map encE), D.dK (TI ks f)].length = 2 from rfl)
  have tf : ∀ N, t_end_of_5 [some (.lst (es.map encE)), some (.dK (TI ks f)), some (.ptr M.length), none, none, none] N = forL (Its.gd ⟨es.map encE, none⟩) (gTupF 3 (gConsF (gN 3) (gConsF (gN 4) (gConsF (gN 5) gNilF)))) b_end_of_4 [3, 4, 5] (es.map encE) [some (.lst (es.map encE)), some (.dK (TI ks f)), some (.ptr M.length), none, none, none] N := fun N => by
    unfold t_end_of_5
    rw [kFor_ap, iSeq_ap]
    simp only [eVar_ap, List.getElem?_cons_zero, vR_some, isR_l, foR_ok]
  cases e : run es f with
  | some f' =>
    rw [e] at lp
    unfold g_end_of
    rw [gb]
    unfold t_end_of
    have fz : eFrz (eVar 2) [some (.lst (es.map encE)), some (.dK (TI ks f)), some (.ptr M.length), none, none, none] (M ++ [MO.dK (TI ks f')]) = .ok (.dK (TI ks f')) (M ++ [MO.gone]) := by
      rw [eFrz_k (k := M.length) (N1 := M ++ [MO.dK (TI ks f')]) (by simp) g0, s0]
    simp only [kSeq_ap, kAsg_ap, eCall_ap, aCons_ap, eVar_ap, List.map_cons, List.map_nil, List.replicate, List.cons_append, List.nil_append, List.getElem?_cons_succ, List.getElem?_cons_zero, vR_some, c1_ok, aNil_ap, c2_ok, cR_ok, bDictK_k, asR_ok, gN_ap, stR_ok, thn_nx, List.set_cons_succ, List.set_cons_zero, tf, lp, kRet_ap, fz, rtR_ok, fnR_rt]
    exact set_fail hM low_ti (by simp)
  | none =>
    rw [e] at lp
    obtain ⟨f', lp⟩ := lp
    unfold g_end_of
    rw [gb]
    unfold t_end_of
    simp only [kSeq_ap, kAsg_ap, eCall_ap, aCons_ap, eVar_ap, List.map_cons, List.map_nil, List.replicate, List.cons_append, List.nil_append, List.getElem?_cons_succ, List.getElem?_cons_zero, vR_some, c1_ok, aNil_ap, c2_ok, cR_ok, bDictK_k, asR_ok, gN_ap, stR_ok, thn_nx, List.set_cons_succ, List.set_cons_zero, tf, lp, thn_rt, fnR_rt]
    exact set_fail hM rfl (by simp)
theorem law_end_eq (hM : NoP M) (hn : ∀ x ∈ nms es, x ∈ ks) (hl : ks.length ≤ 64) : match run es f with
    | some f' => g__law_end [.lst (es.map encE), .dK (TI ks f)] M = .ok (.dK (TI ks f')) M
    | none => g__law_end [.lst (es.map encE), .dK (TI ks f)] M = .ok .non M := by
  have lp := end_loop (M := M) (r := .lst (es.map encE)) (t := .dK (TI ks f)) (B := b__law_end_5) (fun e g h => lend_body h hl) (gd := Its.gd ⟨es.map encE, none⟩) (fun _ => trivial) es f hn
  have gb := runF_ap (m := 4) (t := t__law_end) (M := M) (show [D.lst (es.map encE), D.dK (TI ks f)].length = 2 from rfl)
  have tf : ∀ N, t__law_end_6 [some (.lst (es.map encE)), some (.dK (TI ks f)), some (.ptr M.length), none, none, none] N = forL (Its.gd ⟨es.map encE, none⟩) (gTupF 3 (gConsF (gN 3) (gConsF (gN 4) (gConsF (gN 5) gNilF)))) b__law_end_5 [3, 4, 5] (es.map encE) [some (.lst (es.map encE)), some (.dK (TI ks f)), some (.ptr M.length), none, none, none] N := fun N => by
    unfold t__law_end_6
    rw [kFor_ap, iSeq_ap]
    simp only [eVar_ap, List.getElem?_cons_zero, vR_some, isR_l, foR_ok]
  cases e : run es f with
  | some f' =>
    rw [e] at lp
    unfold g__law_end
    rw [gb]
    unfold t__law_end
    have fz : eFrz (eVar 2) [some (.lst (es.map encE)), some (.dK (TI ks f)), some (.ptr M.length), none, none, none] (M ++ [MO.dK (TI ks f')]) = .ok (.dK (TI ks f')) (M ++ [MO.gone]) := by
      rw [eFrz_k (k := M.length) (N1 := M ++ [MO.dK (TI ks f')]) (by simp) g0, s0]
    simp only [kSeq_ap, kAsg_ap, eCall_ap, aCons_ap, eVar_ap, List.map_cons, List.map_nil, List.replicate, List.cons_append, List.nil_append, List.getElem?_cons_succ, List.getElem?_cons_zero, vR_some, c1_ok, aNil_ap, c2_ok, cR_ok, bDictK_k, asR_ok, gN_ap, stR_ok, thn_nx, List.set_cons_succ, List.set_cons_zero, tf, lp, kRet_ap, fz, rtR_ok, fnR_rt]
    exact set_fail hM low_ti (by simp)
  | none =>
    rw [e] at lp
    obtain ⟨f', lp⟩ := lp
    unfold g__law_end
    rw [gb]
    unfold t__law_end
    simp only [kSeq_ap, kAsg_ap, eCall_ap, aCons_ap, eVar_ap, List.map_cons, List.map_nil, List.replicate, List.cons_append, List.nil_append, List.getElem?_cons_succ, List.getElem?_cons_zero, vR_some, c1_ok, aNil_ap, c2_ok, cR_ok, bDictK_k, asR_ok, gN_ap, stR_ok, thn_nx, List.set_cons_succ, List.set_cons_zero, tf, lp, thn_rt, fnR_rt]
    exact set_fail hM rfl (by simp)
end
/-! ### players_of -/
def addK (ks : List Str) (x : Str) : List Str := if x ∈ ks then ks else ks ++ [x]
def addE (ks : List Str) (e : Ev) : List Str := (nmE e).foldl addK ks
theorem addK_nd {ks : List Str} {x : Str} (h : ks.Nodup) : (addK ks x).Nodup := by
  unfold addK
  split
  · exact h
  · rename_i hx
    rw [List.nodup_append]
    refine ⟨h, by simp, fun a ha b hb e => ?_⟩
    rw [List.mem_singleton.mp hb] at e
    exact hx (e ▸ ha)
theorem addK_mem {ks : List Str} {x y : Str} : y ∈ addK ks x ↔ y = x ∨ y ∈ ks := by
  unfold addK
  split
  · rename_i hx
    exact ⟨.inr, fun z => z.elim (fun e => e ▸ hx) id⟩
  · rw [List.mem_append, List.mem_singleton]
    exact Or.comm
theorem fold_addK_nd : ∀ (l ks : List Str), ks.Nodup → (l.foldl addK ks).Nodup
  | [], _, h => h
  | x :: r, _, h => fold_addK_nd r _ (addK_nd h)
theorem fold_addK_mem {y : Str} : ∀ (l ks : List Str), y ∈ l.foldl addK ks ↔ y ∈ l ∨ y ∈ ks
  | [], ks => by simp
  | x :: r, ks => by
    show y ∈ r.foldl addK (addK ks x) ↔ _
    rw [fold_addK_mem r, addK_mem, List.mem_cons]
    exact ⟨fun z => by rcases z with z | z | z; exact .inl (.inr z); exact .inl (.inl z); exact .inr z, fun z => by rcases z with (z | z) | z; exact .inr (.inl z); exact .inl z; exact .inr (.inr z)⟩
/-- a list without doubles is not longer than one that holds it -/
theorem len_sub {α : Type} [DecidableEq α] : ∀ {l m : List α}, l.Nodup → (∀ x ∈ l, x ∈ m) → l.length ≤ m.length
  | [], _, _, _ => Nat.zero_le _
  | a :: t, m, n, s => by
    obtain ⟨na, nt⟩ := List.nodup_cons.mp n
    have ha := s a List.mem_cons_self
    have p : m.Perm (a :: m.erase a) := List.perm_cons_erase ha
    have ih := len_sub (l := t) (m := m.erase a) nt (fun x hx => (List.mem_erase_of_ne (fun e : x = a => na (by rw [← e]; exact hx))).mpr (s x (List.mem_cons_of_mem _ hx)))
    have := p.length_eq
    simp only [List.length_cons] at this ⊢
    omega
abbrev TT (ks : List Str) : List (Key × D) := TE ks fun _ => .bl true
theorem tt_put {ks : List Str} {x : Str} : putKD (TT ks) (.inr x) (.bl true) = TT (addK ks x) := by
  unfold addK
  split
  · rename_i h
    rw [te_put h]
    exact te_cong fun y _ => by split <;> rfl
  · rename_i h
    rw [te_new h]
    exact te_cong fun y _ => by split <;> rfl
/-- the players of a record, in order -/
def pl (es : List Ev) : List Str := srt ((nms es).foldl addK [])
theorem pl_nd (es : List Ev) : (pl es).Nodup := (srt_perm _).nodup_iff.mpr (fold_addK_nd _ [] List.nodup_nil)
theorem pl_mem {es : List Ev} {x : Str} : x ∈ pl es ↔ x ∈ nms es := by
  unfold pl
  rw [(srt_perm _).mem_iff, fold_addK_mem]
  simp
theorem txts_te {v : Str → D} : ∀ ks : List Str, txts (TE ks v) = some ks
  | [] => rfl
  | x :: r => by
    show (txts (TE r v)).map (x :: ·) = _
    rw [txts_te r]
    rfl
section
variable {M : Mem} {ks ns : List Str} {es : List Ev} {r : D}
theorem pl_body {e : Ev} (hl : ks.length < 1000) : b_players_of_2 [some r, some (.ptr M.length), some (p1 e), some (.str (p2 e)), some (p3 e)] (M ++ [MO.dK (TT ks)]) =
    .nx [some r, some (.ptr M.length), some (p1 e), some (.str (p2 e)), some (p3 e)] (M ++ [MO.dK (TT (addE ks e))]) := by
  have zl : ∀ k : List Str, k.length ≤ 1001 → (TT k).length < sizeLine := fun k h => by rw [te_len, sizeLine_eq]; omega
  have al : ∀ (k : List Str) (x : Str), (addK k x).length ≤ k.length + 1 := fun k x => by unfold addK; split <;> simp
  have st : ∀ (k : List Str) (x : Str) (w o : D), k.length ≤ 1001 → kDPut (eVar 1) (eVar 3) (eC (.bl true)) [some r, some (.ptr M.length), some w, some (.str x), some o] (M ++ [MO.dK (TT k)]) = .nx [some r, some (.ptr M.length), some w, some (.str x), some o] (M ++ [MO.dK (TT (addK k x))]) := fun k x w o h => by
    rw [kDPut_at (d := .bl true) (k := M.length) (x := x) (N1 := M ++ [MO.dK (TT k)]) (N2 := M ++ [MO.dK (TT k)]) (N3 := M ++ [MO.dK (TT k)]) (by simp) (by simp) (by simp) g0 (zl k h), s0, tt_put]
  have st2 : ∀ (k : List Str) (x y : Str) (w : D), k.length ≤ 1001 → kDPut (eVar 1) (eVar 4) (eC (.bl true)) [some r, some (.ptr M.length), some w, some (.str x), some (.str y)] (M ++ [MO.dK (TT k)]) = .nx [some r, some (.ptr M.length), some w, some (.str x), some (.str y)] (M ++ [MO.dK (TT (addK k y))]) := fun k x y w h => by
    rw [kDPut_at (d := .bl true) (k := M.length) (x := y) (N1 := M ++ [MO.dK (TT k)]) (N2 := M ++ [MO.dK (TT k)]) (N3 := M ++ [MO.dK (TT k)]) (by simp) (by simp) (by simp) g0 (zl k h), s0, tt_put]
  unfold b_players_of_2 t_players_of_1
  cases e with
  | met a b =>
    have := al ks a
    simp [p1, p2, p3, st ks a (.str "met") (.str b) (by omega), d1, st2 (addK ks a) a b (.str "met") (by omega), addE, nmE]
  | ref a b =>
    have := al ks a
    simp [p1, p2, p3, st ks a (.str "refused") (.str b) (by omega), d2, st2 (addK ks a) a b (.str "refused") (by omega), addE, nmE]
  | gift a n =>
    simp [p1, p2, p3, st ks a (.str "gift") (.int n) (by omega), addE, nmE]
end
end QL
end
section
set_option Elab.async false
set_option linter.all false
set_option maxRecDepth 100000
set_option maxHeartbeats 4000000
set_option autoImplicit false
/-! HProg3: players_of, least_tickets, can_be. -/
namespace QL
open PySem PySem.Spec L2
open Classical
/-- one turn of a walk -/
theorem forL_step {gd : Mem → Prop} {g : GF} {t : TF} {vs : List Nat} {d : D} {r : List D} {S S1 : Sl} {M M1 : Mem} (hg : gd M) (e1 : g d S M = .ok S1 M1) : forL gd g t vs (d :: r) S M = match t S1 M1 with
    | .nx S2 M2 => forL gd g t vs r (kl vs S2) M2
    | .ct S2 M2 => forL gd g t vs r (kl vs S2) M2
    | .bk S2 M2 => .nx S2 M2
    | r => r := by
  conv => lhs; unfold forL
  rw [if_pos hg, e1]
  rfl
theorem forL_end {gd : Mem → Prop} {g : GF} {t : TF} {vs : List Nat} {S : Sl} {M : Mem} (hg : gd M) : forL gd g t vs [] S M = .nx S M := by
  unfold forL
  rw [if_pos hg]
section
variable {M : Mem} {ks ns : List Str} {es : List Ev} {r : D}
theorem pl_loop {gd : Mem → Prop} (hg : ∀ M, gd M) : ∀ (es : List Ev) (ks : List Str), ks.length + 2 * es.length < 1000 →
    forL gd (gTupF 3 (gConsF (gN 2) (gConsF (gN 3) (gConsF (gN 4) gNilF)))) b_players_of_2 [2, 3, 4] (es.map encE) [some r, some (.ptr M.length), none, none, none] (M ++ [MO.dK (TT ks)]) = .nx [some r, some (.ptr M.length), none, none, none] (M ++ [MO.dK (TT ((nms es).foldl addK ks))])
  | [], ks, _ => forL_end (hg _)
  | e :: es, ks, h => by
    rw [List.length_cons] at h
    have h2 : (addE ks e).length ≤ ks.length + 2 := by
      have al : ∀ (k : List Str) (x : Str), (addK k x).length ≤ k.length + 1 := fun k x => by unfold addK; split <;> simp
      unfold addE
      cases e with
      | met a b => have := al ks a; have := al (addK ks a) b; show (addK (addK ks a) b).length ≤ _; omega
      | ref a b => have := al ks a; have := al (addK ks a) b; show (addK (addK ks a) b).length ≤ _; omega
      | gift a n => have := al ks a; show (addK ks a).length ≤ _; omega
    rw [List.map_cons, enc_p, forL_step (S1 := [some r, some (.ptr M.length), some (p1 e), some (.str (p2 e)), some (p3 e)]) (M1 := M ++ [MO.dK (TT ks)]) (hg _) (by simp), pl_body (by omega)]
    show forL gd _ _ _ (es.map encE) [some r, some (.ptr M.length), none, none, none] _ = _
    rw [pl_loop hg es (addE ks e) (by omega)]
    unfold nms
    rw [List.flatMap_cons, List.foldl_append]
    rfl
theorem players_eq (hM : NoP M) (h1 : es.length < 400) (h64 : (pl es).length < 64) : g_players_of [.lst (es.map encE)] M = .ok (.lst ((pl es).map D.str)) M := by
  have lp := pl_loop (M := M) (r := .lst (es.map encE)) (gd := Its.gd ⟨es.map encE, none⟩) (fun _ => trivial) es [] (by simp; omega)
  unfold g_players_of
  rw [runF_ap (show [D.lst (es.map encE)].length = 1 from rfl)]
  unfold t_players_of
  have tf : ∀ N, t_players_of_3 [some (.lst (es.map encE)), some (.ptr M.length), none, none, none] N = forL (Its.gd ⟨es.map encE, none⟩) (gTupF 3 (gConsF (gN 2) (gConsF (gN 3) (gConsF (gN 4) gNilF)))) b_players_of_2 [2, 3, 4] (es.map encE) [some (.lst (es.map encE)), some (.ptr M.length), none, none, none] N := fun N => by
    unfold t_players_of_3
    rw [kFor_ap, iSeq_ap]
    simp only [eVar_ap, List.getElem?_cons_zero, vR_some, isR_l, foR_ok]
  have hk : ((nms es).foldl addK []).length < 64 := by
    have := (srt_perm ((nms es).foldl addK [])).length_eq
    have e : (pl es).length = (srt ((nms es).foldl addK [])).length := rfl
    omega
  have so : bSortA [.ptr M.length] (M ++ [MO.dK (TT ((nms es).foldl addK []))]) = .ok (.lst ((pl es).map D.str)) (M ++ [MO.dK (TT ((nms es).foldl addK []))]) := by
    have e1 : bSortS [.ptr M.length] (M ++ [MO.dK (TT ((nms es).foldl addK []))]) = .bad := by simp [bSortS, asL]
    have e2 : bSortD [.ptr M.length] (M ++ [MO.dK (TT ((nms es).foldl addK []))]) = .ok (.lst ((pl es).map D.str)) (M ++ [MO.dK (TT ((nms es).foldl addK []))]) := by
      simp [bSortD, asK, txts_te, hk, pl]
    show orR (bSortS _ _) (bSortD _ _) = _
    rw [e1, e2]
    rfl
  have e0 : eDnewKP [some (.lst (es.map encE)), none, none, none, none] M = .ok (.ptr M.length) (M ++ [MO.dK (TT [])]) := rfl
  simp only [kSeq_ap, kAsg_ap, List.map_cons, List.map_nil, List.replicate, List.cons_append, List.nil_append, e0, asR_ok, gN_ap, stR_ok, thn_nx, List.set_cons_succ, List.set_cons_zero, tf, lp, kRet_ap, eCall_ap, aCons_ap, eVar_ap, List.getElem?_cons_succ, List.getElem?_cons_zero, vR_some, c1_ok, aNil_ap, c2_ok, cR_ok, so, rtR_ok, fnR_rt]
  exact set_fail hM (lowDs_map (fun _ => rfl) _) (by simp)
/-! ### least_tickets -/
theorem dc_zero {gd : Mem → Prop} (hg : ∀ M, gd M) {S0 : Sl} (h0 : 1 < S0.length) : ∀ (l acc : List Str), (acc ++ l).Nodup → acc.length + l.length ≤ 64 →
    dcL gd (gN 1) bYes (eVar 1) (eC (.int 0)) S0 (l.map D.str) (TI acc zero) M = .ok (TI (acc ++ l) zero) M
  | [], acc, _, _ => by
    rw [List.map_nil, List.append_nil]
    unfold dcL
    rw [if_pos (hg _)]
  | x :: r, acc, nd, hl => by
    rw [List.length_cons] at hl
    have hx : x ∉ acc := by
      rw [List.nodup_append] at nd
      exact fun h => nd.2.2 x h x List.mem_cons_self rfl
    rw [List.map_cons]
    conv => lhs; unfold dcL
    rw [if_pos (hg _)]
    have ev : eVar 1 (S0.set 1 (some (.str x))) M = .ok (.str x) M := by
      rw [eVar_ap, List.getElem?_set_self h0]
      rfl
    simp only [gN_ap, bYes_ap, ev, keyOf, eC_ap]
    rw [if_pos (by rw [TI, te_len, sizeLine_eq]; omega), ti_new hx]
    have z : TI (acc ++ [x]) (fu zero x 0) = TI (acc ++ [x]) zero := ti_cong fun y _ => by unfold fu; split <;> rfl
    rw [z, dc_zero hg h0 r (acc ++ [x]) (by rw [List.append_assoc]; exact nd) (by rw [List.length_append, List.length_singleton]; omega), List.append_assoc]
    rfl
end
end QL
end
section
set_option Elab.async false
set_option linter.all false
set_option maxRecDepth 100000
set_option maxHeartbeats 4000000
set_option autoImplicit false
/-! HProg4: least_tickets, can_be. -/
namespace QL
open PySem PySem.Spec L2
open Classical
section
variable {M : Mem} {ks : List Str} {n c : Fn} {es : List Ev} {r w a' o' : D} {x a b : Str} {k : Int} {q : Option D}
theorem ix0 (hx : x ∈ ks) : fIxA (.ptr M.length) (.str x) (M ++ [MO.dK (TI ks n), MO.dK (TI ks c)]) = .ok (.int (n x)) (M ++ [MO.dK (TI ks n), MO.dK (TI ks c)]) := ixT g0 hx
theorem ix1 (hx : x ∈ ks) : fIxA (.ptr (M.length + 1)) (.str x) (M ++ [MO.dK (TI ks n), MO.dK (TI ks c)]) = .ok (.int (c x)) (M ++ [MO.dK (TI ks n), MO.dK (TI ks c)]) := ixT g1 hx
theorem need_step (hx : x ∈ ks) (hl : ks.length ≤ 64) : b_least_tickets_2 [some r, some (.str x), some (.ptr M.length), some (.ptr (M.length + 1)), some w, some a', some o'] (M ++ [MO.dK (TI ks n), MO.dK (TI ks c)]) =
    .nx [some r, some (.str x), some (.ptr M.length), some (.ptr (M.length + 1)), some w, some a', some o'] (M ++ [MO.dK (TI ks (fu n x (max (n x) (1 - c x)))), MO.dK (TI ks c)]) := by
  unfold b_least_tickets_2
  rw [kDPut_at (d := .int (max (n x) (1 - c x))) (k := M.length) (x := x) (N1 := M ++ [MO.dK (TI ks n), MO.dK (TI ks c)]) (N2 := M ++ [MO.dK (TI ks n), MO.dK (TI ks c)]) (N3 := M ++ [MO.dK (TI ks n), MO.dK (TI ks c)]) (by simp [ix0 hx, ix1 hx]) (by simp) (by simp) g0 (zl hl), s0, ti_put hx]
theorem need_two (ha : a ∈ ks) (hb : b ∈ ks) (hl : ks.length ≤ 64) : t_least_tickets_3 [some r, q, some (.ptr M.length), some (.ptr (M.length + 1)), some w, some (.str a), some (.str b)] (M ++ [MO.dK (TI ks n), MO.dK (TI ks c)]) =
    .nx [some r, some (.str b), some (.ptr M.length), some (.ptr (M.length + 1)), some w, some (.str a), some (.str b)] (M ++ [MO.dK (TI ks (ltE n c (.met a b))), MO.dK (TI ks c)]) := by
  unfold t_least_tickets_3
  rw [kFor_ap, iTupF_ap]
  simp only [eTup_ap, aCons_ap, eVar_ap, List.getElem?_cons_succ, List.getElem?_cons_zero, vR_some, c1_ok, aNil_ap, c2_ok, tpR_2, itR_t, foR_ok]
  rw [forL_step (S1 := [some r, some (.str a), some (.ptr M.length), some (.ptr (M.length + 1)), some w, some (.str a), some (.str b)]) (M1 := M ++ [MO.dK (TI ks n), MO.dK (TI ks c)]) trivial (by simp), need_step ha hl]
  simp only [kl_nil]
  rw [forL_step (S1 := [some r, some (.str b), some (.ptr M.length), some (.ptr (M.length + 1)), some w, some (.str a), some (.str b)]) (M1 := M ++ [MO.dK (TI ks (fu n a (max (n a) (1 - c a)))), MO.dK (TI ks c)]) trivial (by simp), need_step hb hl]
  simp only [kl_nil]
  rw [forL_end trivial]
  rfl
theorem chg_sub (ha : a ∈ ks) (hl : ks.length ≤ 64) : kDAug (eVar 3) (eVar 5) (eC (.int 1)) (fun i j => i - j) [some r, q, some (.ptr M.length), some (.ptr (M.length + 1)), some w, some (.str a), some o'] (M ++ [MO.dK (TI ks n), MO.dK (TI ks c)]) = .nx [some r, q, some (.ptr M.length), some (.ptr (M.length + 1)), some w, some (.str a), some o'] (M ++ [MO.dK (TI ks n), MO.dK (TI ks (fu c a (c a - 1)))]) := by
  rw [kDAug_at (k := M.length + 1) (x := a) (N1 := M ++ [MO.dK (TI ks n), MO.dK (TI ks c)]) (N2 := M ++ [MO.dK (TI ks n), MO.dK (TI ks c)]) (N3 := M ++ [MO.dK (TI ks n), MO.dK (TI ks c)]) (a := c a) (b := 1) (by simp) (by simp) g1 (te_val ha) (by simp) g1 (zl hl), s1, ti_put ha]
theorem chg_add (ha : a ∈ ks) (hl : ks.length ≤ 64) : kDAug (eVar 3) (eVar 5) (eVar 6) (fun i j => i + j) [some r, q, some (.ptr M.length), some (.ptr (M.length + 1)), some w, some (.str a), some (.int k)] (M ++ [MO.dK (TI ks n), MO.dK (TI ks c)]) = .nx [some r, q, some (.ptr M.length), some (.ptr (M.length + 1)), some w, some (.str a), some (.int k)] (M ++ [MO.dK (TI ks n), MO.dK (TI ks (fu c a (c a + k)))]) := by
  rw [kDAug_at (k := M.length + 1) (x := a) (N1 := M ++ [MO.dK (TI ks n), MO.dK (TI ks c)]) (N2 := M ++ [MO.dK (TI ks n), MO.dK (TI ks c)]) (N3 := M ++ [MO.dK (TI ks n), MO.dK (TI ks c)]) (a := c a) (b := k) (by simp) (by simp) g1 (te_val ha) (by simp) g1 (zl hl), s1, ti_put ha]
theorem lt_body {e : Ev} (hk : ∀ x ∈ nmE e, x ∈ ks) (hl : ks.length ≤ 64) : ∃ q', b_least_tickets_6 [some r, q, some (.ptr M.length), some (.ptr (M.length + 1)), some (p1 e), some (.str (p2 e)), some (p3 e)] (M ++ [MO.dK (TI ks n), MO.dK (TI ks c)]) =
    .nx [some r, q', some (.ptr M.length), some (.ptr (M.length + 1)), some (p1 e), some (.str (p2 e)), some (p3 e)] (M ++ [MO.dK (TI ks (ltE n c e)), MO.dK (TI ks (stE c e))]) := by
  have ha : p2 e ∈ ks := mem1 hk
  unfold b_least_tickets_6 t_least_tickets_5 t_least_tickets_4
  cases e with
  | met a b =>
    have ha : a ∈ ks := ha
    have hb : b ∈ ks := hk b (List.mem_cons_of_mem _ List.mem_cons_self)
    exact ⟨some (.str b), by simp [p1, p2, p3, need_two ha hb hl, chg_sub ha hl, stE]⟩
  | ref a b => exact ⟨q, by simp [p1, p2, p3, d2, d3, stE, ltE]⟩
  | gift a k =>
    have ha : a ∈ ks := ha
    exact ⟨q, by simp [p1, p2, p3, d4, chg_add ha hl, stE, ltE]⟩
theorem lt_loop {gd : Mem → Prop} (hg : ∀ M, gd M) (hl : ks.length ≤ 64) : ∀ (es : List Ev) (n c : Fn) (q : Option D), (∀ x ∈ nms es, x ∈ ks) → ∃ q' c',
    forL gd (gTupF 3 (gConsF (gN 4) (gConsF (gN 5) (gConsF (gN 6) gNilF)))) b_least_tickets_6 [4, 5, 6] (es.map encE) [some r, q, some (.ptr M.length), some (.ptr (M.length + 1)), none, none, none] (M ++ [MO.dK (TI ks n), MO.dK (TI ks c)]) =
      .nx [some r, q', some (.ptr M.length), some (.ptr (M.length + 1)), none, none, none] (M ++ [MO.dK (TI ks (ltR es n c)), MO.dK (TI ks c')])
  | [], n, c, q, _ => ⟨q, c, forL_end (hg _)⟩
  | e :: es, n, c, q, hn => by
    have hE : ∀ x ∈ nmE e, x ∈ ks := fun x hx => hn x (by show x ∈ (e :: es).flatMap nmE; rw [List.flatMap_cons]; exact List.mem_append_left _ hx)
    have hR : ∀ x ∈ nms es, x ∈ ks := fun x hx => hn x (by show x ∈ (e :: es).flatMap nmE; rw [List.flatMap_cons]; exact List.mem_append_right _ hx)
    obtain ⟨q1, e1⟩ := lt_body (M := M) (r := r) (q := q) (n := n) (c := c) hE hl
    obtain ⟨q2, c2, e2⟩ := lt_loop hg hl es (ltE n c e) (stE c e) q1 hR
    refine ⟨q2, c2, ?_⟩
    rw [List.map_cons, enc_p, forL_step (S1 := [some r, q, some (.ptr M.length), some (.ptr (M.length + 1)), some (p1 e), some (.str (p2 e)), some (p3 e)]) (M1 := M ++ [MO.dK (TI ks n), MO.dK (TI ks c)]) (hg _) (by simp), e1]
    exact e2
theorem least_eq (hM : NoP M) (h1 : es.length < 400) (h64 : (pl es).length < 64) : g_least_tickets [.lst (es.map encE)] M = .ok (.dK (TI (pl es) (least es))) M := by
  have hp := players_eq hM h1 h64
  obtain ⟨q', c', lp⟩ := lt_loop (M := M) (r := .lst (es.map encE)) (ks := pl es) (gd := Its.gd ⟨es.map encE, none⟩) (fun _ => trivial) (by omega) es zero zero none (fun x hx => pl_mem.mpr hx)
  have tf : ∀ N, t_least_tickets_7 [some (.lst (es.map encE)), none, some (.ptr M.length), some (.ptr (M.length + 1)), none, none, none] N = forL (Its.gd ⟨es.map encE, none⟩) (gTupF 3 (gConsF (gN 4) (gConsF (gN 5) (gConsF (gN 6) gNilF)))) b_least_tickets_6 [4, 5, 6] (es.map encE) [some (.lst (es.map encE)), none, some (.ptr M.length), some (.ptr (M.length + 1)), none, none, none] N := fun N => by
    unfold t_least_tickets_7
    rw [kFor_ap, iSeq_ap]
    simp only [eVar_ap, List.getElem?_cons_zero, vR_some, isR_l, foR_ok]
  have e1 : e_least_tickets_1 [some (.lst (es.map encE)), none, none, none, none, none, none] M = .ok (.ptr M.length) (M ++ [MO.dK (TI (pl es) zero)]) := by
    unfold e_least_tickets_1 eDc
    have i1 : iSeq (eCall g_players_of (aCons (eVar 0) aNil)) [some (.lst (es.map encE)), none, none, none, none, none, none] M = .ok ⟨(pl es).map D.str, none⟩ M := by
      rw [iSeq_ap]
      simp only [eCall_ap, aCons_ap, eVar_ap, List.getElem?_cons_zero, vR_some, c1_ok, aNil_ap, c2_ok, cR_ok, hp, isR_l]
    rw [i1]
    show (dcL (Its.gd ⟨(pl es).map D.str, none⟩) (gN 1) bYes (eVar 1) (eC (.int 0)) (kl [1] _) ((pl es).map D.str) (TI [] zero) M).bind _ = _
    rw [dc_zero (gd := Its.gd ⟨(pl es).map D.str, none⟩) (fun _ => trivial) (S0 := kl [1] [some (.lst (es.map encE)), none, none, none, none, none, none]) (by simp) (pl es) [] (by rw [List.nil_append]; exact pl_nd es) (by simp; omega), List.nil_append]
    rfl
  have e2 : bDictK [.ptr M.length] (M ++ [MO.dK (TI (pl es) zero)]) = .ok (.ptr (M.length + 1)) (M ++ [MO.dK (TI (pl es) zero), MO.dK (TI (pl es) zero)]) := by
    rw [bDictK_p g0, List.length_append, List.append_assoc]
    rfl
  unfold g_least_tickets
  rw [runF_ap (show [D.lst (es.map encE)].length = 1 from rfl)]
  unfold t_least_tickets
  have fz : eFrz (eVar 2) [some (.lst (es.map encE)), q', some (.ptr M.length), some (.ptr (M.length + 1)), none, none, none] (M ++ [MO.dK (TI (pl es) (ltR es zero zero)), MO.dK (TI (pl es) c')]) = .ok (.dK (TI (pl es) (least es))) (M ++ [MO.gone, MO.dK (TI (pl es) c')]) := by
    rw [eFrz_k (k := M.length) (N1 := M ++ [MO.dK (TI (pl es) (ltR es zero zero)), MO.dK (TI (pl es) c')]) (by simp) g0, s0]
    rfl
  simp only [kSeq_ap, kAsg_ap, List.map_cons, List.map_nil, List.replicate, List.cons_append, List.nil_append, e1, asR_ok, gN_ap, stR_ok, thn_nx, List.set_cons_succ, List.set_cons_zero, eCall_ap, aCons_ap, eVar_ap, List.getElem?_cons_succ, List.getElem?_cons_zero, vR_some, c1_ok, aNil_ap, c2_ok, cR_ok, e2, tf, lp, kRet_ap, fz, rtR_ok, fnR_rt]
  exact set_fail hM low_ti (by simp)
noncomputable def cb (es : List Ev) : Bool := decide (CB es)
theorem can_be_eq (hM : NoP M) (h1 : es.length < 400) (h64 : (pl es).length < 64) : g_can_be [.lst (es.map encE)] M = .ok (.bl (cb es)) M := by
  have hl := least_eq hM h1 h64
  have he := end_of_eq (M := M) (ks := pl es) (f := least es) (es := es) hM (fun x hx => pl_mem.mpr hx) (by omega)
  unfold g_can_be
  rw [runF_ap (show [D.lst (es.map encE)].length = 1 from rfl)]
  unfold t_can_be
  cases e : run es (least es) with
  | some f' =>
    rw [e] at he
    have : cb es = true := decide_eq_true ((cb_iff es).mpr (by rw [e]; rfl))
    simp [hl, he, this, settle_ok]
  | none =>
    rw [e] at he
    have : cb es = false := decide_eq_false (fun z => by have := (cb_iff es).mp z; rw [e] at this; cases this)
    simp [hl, he, this, settle_ok]
end
end QL
end
section
set_option Elab.async false
set_option linter.all false
set_option maxRecDepth 100000
set_option maxHeartbeats 4000000
set_option autoImplicit false
/-! HProg5: first_bad. -/
namespace QL
open PySem PySem.Spec L2
open Classical
/-- a record of at most 399 events, of fewer than 64 names -/
structure Rk (ns : List Str) (es : List Ev) : Prop where
  len : es.length < 400
  few : ns.length < 64
  nm : ∀ x ∈ nms es, x ∈ ns
theorem Rk.pl {ns : List Str} {es : List Ev} (k : Rk ns es) : (pl es).length < 64 := Nat.lt_of_le_of_lt (len_sub (pl_nd es) fun x hx => k.nm x (pl_mem.mp hx)) k.few
theorem Rk.take {ns : List Str} {es : List Ev} (k : Rk ns es) (m : Nat) : Rk ns (es.take m) := ⟨by have := k.len; rw [List.length_take]; omega, k.few, fun x hx => k.nm x (by
  unfold nms at hx ⊢
  obtain ⟨e, he, hx⟩ := List.mem_flatMap.mp hx
  exact List.mem_flatMap.mpr ⟨e, List.mem_of_mem_take he, hx⟩)⟩
section
variable {M : Mem} {ns : List Str} {es : List Ev}
theorem can_be_at (hM : NoP M) (k : Rk ns es) : g_can_be [.lst (es.map encE)] M = .ok (.bl (cb es)) M := can_be_eq hM k.len k.pl
theorem half {g b : Nat} (h : g < b) : CDivW ((g : Int) + (b : Int)) 2 := ⟨by decide, by decide⟩
theorem search (hM : NoP M) (k : Rk ns es) : ∀ (m g b : Nat), b - g ≤ m → g < b → b ≤ es.length → CB (es.take g) → ¬ CB (es.take b) →
    ∃ n b', isFB es n ∧ t_first_bad_4 [some (.lst (es.map encE)), some (.int (g : Nat)), some (.int (b : Nat)), none] M = .nx [some (.lst (es.map encE)), some (.int (n : Nat)), some b', none] M
  | m, g, b, hm, hgb, hb, h1, h2 => by
    by_cases one : b = g + 1
    · subst one
      refine ⟨g, .int ((g + 1 : Nat) : Int), ⟨by omega, h1, h2⟩, ?_⟩
      unfold t_first_bad_4
      rw [kWhile_eq]
      have z : ¬ (1 : Int) < ((g + 1 : Nat) : Int) - (g : Int) := by omega
      simp only [bV_ap, e2_ap, eVar_ap, List.getElem?_cons_succ, List.getElem?_cons_zero, vR_some, s2_ok, s3_ok, fSub_i, eC_ap, fGt_i, decide_eq_false z, bR_ok]
      rfl
    · have h12 : (1 : Int) < ((b : Nat) : Int) - (g : Int) := by omega
      have mid : ((g : Int) + (b : Int)) / 2 = (((g + b) / 2 : Nat) : Int) := by omega
      generalize em : (g + b) / 2 = mm at mid
      have m1 : g < mm := by omega
      have m2 : mm < b := by omega
      have cut : cutD (es.map encE) none (some ((mm : Nat) : Int)) = (es.take mm).map encE := by rw [cutD_take (Int.natCast_nonneg _), Int.toNat_natCast, List.map_take]
      have ch := can_be_at hM (k.take mm)
      have body : b_first_bad_3 [some (.lst (es.map encE)), some (.int (g : Nat)), some (.int (b : Nat)), none] M = .nx (if CB (es.take mm) then [some (.lst (es.map encE)), some (.int (mm : Nat)), some (.int (b : Nat)), some (.int (mm : Nat))] else [some (.lst (es.map encE)), some (.int (g : Nat)), some (.int (mm : Nat)), some (.int (mm : Nat))]) M := by
        unfold b_first_bad_3 t_first_bad_2
        simp only [kSeq_ap, kAsg_ap, e2_ap, eVar_ap, List.getElem?_cons_succ, List.getElem?_cons_zero, vR_some, s2_ok, s3_ok, fAdd_i, eC_ap, fDiv_i (half hgb), mid, asR_ok, gN_ap, stR_ok, thn_nx, List.set_cons_succ, List.set_cons_zero, kIf_ap, bV_ap, eCall_ap, aCons_ap, eSl_ap, sl1_ok, oNone_ap, sl2_ok, oSome_ap, soR_ok, sl3_ok, fSl_l, cut, c1_ok, aNil_ap, c2_ok, cR_ok, ch, bR_ok]
        by_cases q : CB (es.take mm)
        · rw [if_pos q, show cb (es.take mm) = true from decide_eq_true q]
          simp only [ifR_t, kAsg_ap, eVar_ap, List.getElem?_cons_succ, List.getElem?_cons_zero, vR_some, asR_ok, gN_ap, stR_ok, List.set_cons_succ, List.set_cons_zero]
        · rw [if_neg q, show cb (es.take mm) = false from decide_eq_false q]
          simp only [ifR_f, kAsg_ap, eVar_ap, List.getElem?_cons_succ, List.getElem?_cons_zero, vR_some, asR_ok, gN_ap, stR_ok, List.set_cons_succ, List.set_cons_zero]
      match m, hm with
      | 0, hm => omega
      | m + 1, hm =>
      have turn : ∀ S2, b_first_bad_3 [some (.lst (es.map encE)), some (.int (g : Nat)), some (.int (b : Nat)), none] M = .nx S2 M → t_first_bad_4 [some (.lst (es.map encE)), some (.int (g : Nat)), some (.int (b : Nat)), none] M = t_first_bad_4 (kl [3] S2) M := fun S2 h => by
        conv => lhs; unfold t_first_bad_4
        rw [kWhile_eq]
        simp only [bV_ap, e2_ap, eVar_ap, List.getElem?_cons_succ, List.getElem?_cons_zero, vR_some, s2_ok, s3_ok, fSub_i, eC_ap, fGt_i, decide_eq_true h12, bR_ok]
        show (match b_first_bad_3 _ M with | .nx S2 M2 => kWhile _ _ _ (kl [3] S2) M2 | .ct S2 M2 => kWhile _ _ _ (kl [3] S2) M2 | .bk S2 M2 => .nx S2 M2 | r => r) = _
        rw [h]
        rfl
      by_cases q : CB (es.take mm)
      · rw [if_pos q] at body
        obtain ⟨n, b', f, e⟩ := search hM k m mm b (by omega) m2 hb q h2
        exact ⟨n, b', f, by rw [turn _ body]; exact e⟩
      · rw [if_neg q] at body
        obtain ⟨n, b', f, e⟩ := search hM k m g mm (by omega) m1 (by omega) h1 q
        exact ⟨n, b', f, by rw [turn _ body]; exact e⟩
theorem first_bad_eq (hM : NoP M) (k : Rk ns es) : (CB es ∧ g_first_bad [.lst (es.map encE)] M = .ok .non M) ∨ ∃ n, isFB es n ∧ g_first_bad [.lst (es.map encE)] M = .ok (.int (n : Nat)) M := by
  have ch := can_be_at hM k
  unfold g_first_bad
  rw [runF_ap (show [D.lst (es.map encE)].length = 1 from rfl)]
  unfold t_first_bad t_first_bad_1
  by_cases q : CB es
  · refine .inl ⟨q, ?_⟩
    have z : cb es = true := decide_eq_true q
    simp [ch, z, settle_ok]
  · have z : cb es = false := decide_eq_false q
    have pos : 0 < es.length := by
      rcases Nat.eq_zero_or_pos es.length with y | y
      · exfalso
        rw [List.length_eq_zero_iff.mp y] at q
        exact q cb_nil
      · exact y
    obtain ⟨n, b', f, e⟩ := search hM k es.length 0 es.length (by omega) pos (Nat.le_refl _) (by rw [List.take_zero]; exact cb_nil) (by rw [List.take_length]; exact q)
    refine .inr ⟨n, f, ?_⟩
    have e' : t_first_bad_4 [some (.lst (es.map encE)), some (.int 0), some (.int (es.length : Nat)), none] M = .nx [some (.lst (es.map encE)), some (.int (n : Nat)), some b', none] M := e
    simp [ch, z, e', settle_ok]
end
end QL
end
section
set_option Elab.async false
set_option linter.all false
set_option maxRecDepth 100000
set_option maxHeartbeats 4000000
set_option autoImplicit false
/-! HLaw1: the law's own look at all starts. -/
namespace QL
open PySem PySem.Spec L2
open Classical
theorem set_any {d : D} {M : Mem} (l : Mem) (hM : NoP M) (h1 : lowD M.length d = true) : settle M.length (.ok d (M ++ l)) = .ok d M := by
  cases l with
  | nil => rw [List.append_nil]; exact settle_ok (Nat.le_refl _)
  | cons x r => exact set_fail hM h1 (by simp)
section
variable {M : Mem} {ns : List Str} {es : List Ev}
theorem seen_body {e : Ev} {L : List Str} {l : Mem} {r : D} (hl : L.length < 1000) : b__law_seen_1 [some r, some (.lst (L.map D.str)), some (p1 e), some (.str (p2 e)), some (p3 e)] (M ++ l) =
    .nx [some r, some (.lst ((L ++ nmE e).map D.str)), some (p1 e), some (.str (p2 e)), some (p3 e)] (M ++ (l ++ [MO.lst [p3 e]])) := by
  have z1 : (L.map D.str).length + 1 ≤ sizeLine := by rw [List.length_map, sizeLine_eq]; omega
  have z2 : (L.map D.str).length + 1 + 1 ≤ sizeLine := by rw [List.length_map, sizeLine_eq]; omega
  have s1' : (1 : Nat) ≤ sizeLine := small (by omega)
  unfold b__law_seen_1
  cases e with
  | met a b =>
    simp only [List.length_map] at z1 z2
    simp [p1, p2, p3, nmE, d1, z1, fRep, g0, s1', z2, List.append_assoc]
  | ref a b =>
    simp only [List.length_map] at z1 z2
    simp [p1, p2, p3, nmE, d2, z1, fRep, g0, s1', z2, List.append_assoc]
  | gift a n =>
    simp only [List.length_map] at z1 z2
    simp [p1, p2, p3, nmE, z1, fRep, g0, s1', z2, List.append_assoc]
theorem seen_loop {gd : Mem → Prop} (hg : ∀ M, gd M) {r : D} : ∀ (es : List Ev) (L : List Str) (l : Mem), L.length + 2 * es.length < 1000 → ∃ l',
    forL gd (gTupF 3 (gConsF (gN 2) (gConsF (gN 3) (gConsF (gN 4) gNilF)))) b__law_seen_1 [2, 3, 4] (es.map encE) [some r, some (.lst (L.map D.str)), none, none, none] (M ++ l) = .nx [some r, some (.lst ((L ++ nms es).map D.str)), none, none, none] (M ++ l')
  | [], L, l, _ => ⟨l, by rw [show L ++ nms [] = L from List.append_nil _]; exact forL_end (hg _)⟩
  | e :: es, L, l, h => by
    rw [List.length_cons] at h
    have h2 : (nmE e).length ≤ 2 := by cases e <;> simp [nmE]
    obtain ⟨l', ih⟩ := seen_loop hg (r := r) es (L ++ nmE e) (l ++ [MO.lst [p3 e]]) (by rw [List.length_append]; omega)
    refine ⟨l', ?_⟩
    rw [List.map_cons, enc_p, forL_step (S1 := [some r, some (.lst (L.map D.str)), some (p1 e), some (.str (p2 e)), some (p3 e)]) (M1 := M ++ l) (hg _) (by simp), seen_body (by omega)]
    show forL gd _ _ _ (es.map encE) [some r, some (.lst ((L ++ nmE e).map D.str)), none, none, none] _ = _
    rw [ih, List.append_assoc]
    rfl
/-- the names seen -/
def sn (es : List Ev) : List Str := srt (dedup (nms es))
theorem sn_nd (es : List Ev) : (sn es).Nodup := (srt_perm _).nodup_iff.mpr (dedup_nodup _)
theorem sn_mem {es : List Ev} {x : Str} : x ∈ sn es ↔ x ∈ nms es := by
  unfold sn
  rw [(srt_perm _).mem_iff, mem_dedup]
theorem Rk.sn (k : Rk ns es) : (QL.sn es).length ≤ ns.length := len_sub (sn_nd es) fun x hx => k.nm x (sn_mem.mp hx)
theorem nms_len : ∀ es : List Ev, (nms es).length ≤ 2 * es.length
  | [] => Nat.le_refl _
  | e :: es => by
    have ih := nms_len es
    have h2 : (nmE e).length ≤ 2 := by cases e <;> simp [nmE]
    have : nms (e :: es) = nmE e ++ nms es := by unfold nms; rw [List.flatMap_cons]
    rw [this, List.length_append, List.length_cons]
    omega
theorem seen_eq (hM : NoP M) (k : Rk ns es) : g__law_seen [.lst (es.map encE)] M = .ok (.lst ((sn es).map D.str)) M := by
  have kl := k.len
  obtain ⟨l', lp⟩ := seen_loop (M := M) (gd := Its.gd ⟨es.map encE, none⟩) (fun _ => trivial) (r := .lst (es.map encE)) es [] [] (by simp; omega)
  rw [List.append_nil] at lp
  have tf : ∀ N, t__law_seen_2 [some (.lst (es.map encE)), some (.lst []), none, none, none] N = forL (Its.gd ⟨es.map encE, none⟩) (gTupF 3 (gConsF (gN 2) (gConsF (gN 3) (gConsF (gN 4) gNilF)))) b__law_seen_1 [2, 3, 4] (es.map encE) [some (.lst (es.map encE)), some (.lst (([] : List Str).map D.str)), none, none, none] N := fun N => by
    unfold t__law_seen_2
    rw [kFor_ap, iSeq_ap]
    simp only [eVar_ap, List.getElem?_cons_zero, vR_some, isR_l, foR_ok]
    rfl
  have z1 : (nms es).length + 1 < scanBound := by have := nms_len es; unfold scanBound; omega
  have z2 : (dedup (nms es)).length < 64 := by
    have := (srt_perm (dedup (nms es))).length_eq
    have := k.sn
    have := k.few
    have e : (sn es).length = (srt (dedup (nms es))).length := rfl
    omega
  have so : ∀ N, ssR (.ok (.lst ((nms es).map D.str)) N) = .ok (.lst ((sn es).map D.str)) N := fun N => by
    simp [ssR, Res.bind, asL, strsOf_map, z1, z2, sn]
  unfold g__law_seen
  rw [runF_ap (show [D.lst (es.map encE)].length = 1 from rfl)]
  unfold t__law_seen
  simp only [kSeq_ap, kAsg_ap, eLst_ap, aNil_ap, lsR_0, asR_ok, gN_ap, stR_ok, thn_nx, List.map_cons, List.map_nil, List.replicate, List.cons_append, List.nil_append, List.set_cons_succ, List.set_cons_zero, tf, lp, kRet_ap, eSortSet, eVar_ap, List.getElem?_cons_succ, List.getElem?_cons_zero, vR_some, so, rtR_ok, fnR_rt]
  simp only [List.map_nil, List.nil_append] at lp
  simp only [lp, thn_nx, kRet_ap, eSortSet, eVar_ap, List.getElem?_cons_succ, List.getElem?_cons_zero, vR_some, so, rtR_ok, fnR_rt]
  exact set_any l' hM (lowDs_map (fun _ => rfl) _)
end
end QL
end
section
set_option Elab.async false
set_option linter.all false
set_option maxRecDepth 100000
set_option maxHeartbeats 4000000
set_option autoImplicit false
/-! HLaw2: all starts. -/
namespace QL
open PySem PySem.Spec L2
open Classical
def enc (p : List Str) (f : Fn) : D := .dK (TI p f)
/-- one more name: all its numbers below bd -/
noncomputable def growF (x : Str) (bd : Nat) (f : Fn) : List Fn := (List.range bd).map fun (m : Nat) => fu f x (m : Int)
noncomputable def grow (bd : Nat) : List Str → List Fn → List Fn
  | [], fs => fs
  | x :: r, fs => grow bd r (fs.flatMap (growF x bd))
theorem NoP.app {a b : Mem} (h1 : NoP a) (h2 : NoP b) : NoP (a ++ b) := fun n => by
  have e1 := h1 n
  have e2 := h2 n
  unfold lowM at e1 e2 ⊢
  rw [List.all_append, e1, e2]
  rfl
theorem NoP.gone : NoP [MO.gone] := fun _ => rfl
theorem NoP.nil : NoP [] := fun _ => rfl
section
variable {B M : Mem} {acc : List D} {g l : Mem} {p : List Str} {f : Fn} {x : Str} {rc bn st n8 n9 n10 : D} {o o5 q8 q9 q10 : Option D}
theorem many_step {m : Int} (hx : x ∉ p) (hp : p.length ≤ 64) (ha : acc.length ≤ 1000000) (hN : NoP g) : ∃ g' y, NoP g' ∧ b__law_all_starts_2 [some rc, some bn, some st, some (.str x), some (.ptr B.length), some (enc p f), some (.int m), none, q8, q9, q10] (B ++ MO.lst acc :: g) =
    .nx [some rc, some bn, some st, some (.str x), some (.ptr B.length), some (enc p f), some (.int m), some y, q8, q9, q10] (B ++ MO.lst (acc ++ [enc (p ++ [x]) (fu f x m)]) :: g') := by
  have e0 : ∀ y : MO, (B ++ MO.lst acc :: g) ++ [y] = B ++ MO.lst acc :: (g ++ [y]) := fun y => by simp
  refine ⟨g ++ [MO.gone], .ptr (B ++ MO.lst acc :: g).length, NoP.app hN NoP.gone, ?_⟩
  unfold b__law_all_starts_2 enc
  have kp : kDPut (eVar 7) (eVar 3) (eVar 6) [some rc, some bn, some st, some (.str x), some (.ptr B.length), some (D.dK (TI p f)), some (.int m), some (.ptr (B ++ MO.lst acc :: g).length), q8, q9, q10] ((B ++ MO.lst acc :: g) ++ [MO.dK (TI p f)]) = .nx [some rc, some bn, some st, some (.str x), some (.ptr B.length), some (D.dK (TI p f)), some (.int m), some (.ptr (B ++ MO.lst acc :: g).length), q8, q9, q10] ((B ++ MO.lst acc :: g) ++ [MO.dK (TI (p ++ [x]) (fu f x m))]) := by
    rw [kDPut_at (d := .int m) (k := (B ++ MO.lst acc :: g).length) (x := x) (N1 := (B ++ MO.lst acc :: g) ++ [MO.dK (TI p f)]) (N2 := (B ++ MO.lst acc :: g) ++ [MO.dK (TI p f)]) (N3 := (B ++ MO.lst acc :: g) ++ [MO.dK (TI p f)]) rfl rfl rfl g0 (zl hp), s0, ti_new hx]
  have fz : eFrz (eVar 7) [some rc, some bn, some st, some (.str x), some (.ptr B.length), some (D.dK (TI p f)), some (.int m), some (.ptr (B ++ MO.lst acc :: g).length), q8, q9, q10] ((B ++ MO.lst acc :: g) ++ [MO.dK (TI (p ++ [x]) (fu f x m))]) = .ok (.dK (TI (p ++ [x]) (fu f x m))) ((B ++ MO.lst acc :: g) ++ [MO.gone]) := by
    rw [eFrz_k (k := (B ++ MO.lst acc :: g).length) (N1 := (B ++ MO.lst acc :: g) ++ [MO.dK (TI (p ++ [x]) (fu f x m))]) rfl g0, s0]
  have ap : eApp (eVar 4) (eFrz (eVar 7)) [some rc, some bn, some st, some (.str x), some (.ptr B.length), some (D.dK (TI p f)), some (.int m), some (.ptr (B ++ MO.lst acc :: g).length), q8, q9, q10] ((B ++ MO.lst acc :: g) ++ [MO.dK (TI (p ++ [x]) (fu f x m))]) = .ok .non (B ++ MO.lst (acc ++ [.dK (TI (p ++ [x]) (fu f x m))]) :: (g ++ [MO.gone])) := by
    rw [eApp_at (k := B.length) (ds0 := acc) (ds := acc) (M1 := (B ++ MO.lst acc :: g) ++ [MO.dK (TI (p ++ [x]) (fu f x m))]) rfl (by rw [e0]; simp only [asL, g0]) fz (by rw [e0]; exact g0) (by rw [sizeLine_eq]; omega), e0, s0]
  simp only [kSeq_ap, kAsg_ap, eCall_ap, aCons_ap, eVar_ap, List.getElem?_cons_succ, List.getElem?_cons_zero, vR_some, c1_ok, aNil_ap, c2_ok, cR_ok, bDictK_k, asR_ok, gN_ap, stR_ok, thn_nx, List.set_cons_succ, List.set_cons_zero, kp, kDrop_ap, ap, drR_ok]
theorem many_loop {gd : Mem → Prop} (hg : ∀ M, gd M) (hx : x ∉ p) (hp : p.length ≤ 64) : ∀ (js : List Nat) (acc : List D) (g : Mem), acc.length + js.length ≤ 1000000 → NoP g → ∃ g', NoP g' ∧
    forL gd (gN 6) b__law_all_starts_2 [6, 7] (js.map fun (j : Nat) => D.int (j : Int)) [some rc, some bn, some st, some (.str x), some (.ptr B.length), some (enc p f), none, none, q8, q9, q10] (B ++ MO.lst acc :: g) =
      .nx [some rc, some bn, some st, some (.str x), some (.ptr B.length), some (enc p f), none, none, q8, q9, q10] (B ++ MO.lst (acc ++ (js.map fun (j : Nat) => enc (p ++ [x]) (fu f x (j : Int)))) :: g')
  | [], acc, g, _, hN => ⟨g, hN, by rw [List.map_nil, List.map_nil, List.append_nil]; exact forL_end (hg _)⟩
  | j :: js, acc, g, h, hN => by
    rw [List.length_cons] at h
    obtain ⟨g1, y, n1, e1⟩ := many_step (B := B) (acc := acc) (g := g) (f := f) (rc := rc) (bn := bn) (st := st) (q8 := q8) (q9 := q9) (q10 := q10) (m := (j : Int)) hx hp (by omega) hN
    obtain ⟨g2, n2, e2⟩ := many_loop hg hx hp js (acc ++ [enc (p ++ [x]) (fu f x (j : Int))]) g1 (by rw [List.length_append, List.length_singleton]; omega) n1
    refine ⟨g2, n2, ?_⟩
    rw [List.map_cons, forL_step (S1 := [some rc, some bn, some st, some (.str x), some (.ptr B.length), some (enc p f), some (.int (j : Int)), none, q8, q9, q10]) (M1 := B ++ MO.lst acc :: g) (hg _) (by simp), e1]
    show forL gd _ _ _ _ [some rc, some bn, some st, some (.str x), some (.ptr B.length), some (enc p f), none, none, q8, q9, q10] _ = _
    rw [e2, List.append_assoc]
    rfl
theorem rangeD_nat (n : Nat) : rangeD 0 n = (List.range n).map fun (j : Nat) => D.int (j : Int) := by
  unfold rangeD
  apply List.map_congr_left
  intro j _
  simp
theorem starts_loop {gd : Mem → Prop} (hg : ∀ M, gd M) (hx : x ∉ p) (hp : p.length ≤ 64) {bd : Nat} (hb : bd < 1000) : ∀ (fs : List Fn) (acc : List D) (g : Mem) (o : Option D), acc.length + fs.length * bd ≤ 1000000 → NoP g → ∃ g' o', NoP g' ∧
    forL gd (gN 5) b__law_all_starts_4 [6, 7] (fs.map (enc p)) [some rc, some (.int (bd : Nat)), some st, some (.str x), some (.ptr B.length), o, none, none, q8, q9, q10] (B ++ MO.lst acc :: g) =
      .nx [some rc, some (.int (bd : Nat)), some st, some (.str x), some (.ptr B.length), o', none, none, q8, q9, q10] (B ++ MO.lst (acc ++ ((fs.flatMap (growF x bd)).map (enc (p ++ [x])))) :: g')
  | [], acc, g, o, _, hN => ⟨g, o, hN, by rw [List.flatMap_nil, List.map_nil, List.map_nil, List.append_nil]; exact forL_end (hg _)⟩
  | f :: fs, acc, g, o, h, hN => by
    have h' : acc.length + (fs.length * bd + bd) ≤ 1000000 := by rw [List.length_cons, Nat.succ_mul] at h; exact h
    obtain ⟨g1, n1, e1⟩ := many_loop (B := B) (f := f) (rc := rc) (bn := .int (bd : Nat)) (st := st) (q8 := q8) (q9 := q9) (q10 := q10) (gd := Its.gd ⟨rangeD 0 bd, none⟩) (fun _ => trivial) hx hp (List.range bd) acc g (by rw [List.length_range]; omega) hN
    obtain ⟨g2, o2, n2, e2⟩ := starts_loop hg hx hp hb fs (acc ++ (growF x bd f).map (enc (p ++ [x]))) g1 (some (enc p f)) (by rw [List.length_append, List.length_map, growF, List.length_map, List.length_range]; omega) n1
    refine ⟨g2, o2, n2, ?_⟩
    have e3 : b__law_all_starts_4 [some rc, some (.int (bd : Nat)), some st, some (.str x), some (.ptr B.length), some (enc p f), none, none, q8, q9, q10] (B ++ MO.lst acc :: g) = .nx [some rc, some (.int (bd : Nat)), some st, some (.str x), some (.ptr B.length), some (enc p f), none, none, q8, q9, q10] (B ++ MO.lst (acc ++ (growF x bd f).map (enc (p ++ [x]))) :: g1) := by
      unfold b__law_all_starts_4 t__law_all_starts_3
      rw [kFor_ap, iRange1_ap]
      simp only [aCons_ap, eVar_ap, List.getElem?_cons_succ, List.getElem?_cons_zero, vR_some, c1_ok, aNil_ap, c2_ok]
      rw [i1R_ok (by omega) (by omega), foR_ok, Int.toNat_natCast]
      show forL (Its.gd ⟨rangeD 0 bd, none⟩) _ _ _ (rangeD 0 bd) _ _ = _
      conv => lhs; arg 5; rw [rangeD_nat]
      rw [e1]
      unfold growF
      rw [List.map_map]
      rfl
    rw [List.map_cons, forL_step (S1 := [some rc, some (.int (bd : Nat)), some st, some (.str x), some (.ptr B.length), some (enc p f), none, none, q8, q9, q10]) (M1 := B ++ MO.lst acc :: g) (hg _) (by simp), e3]
    show forL gd _ _ _ _ [some rc, some (.int (bd : Nat)), some st, some (.str x), some (.ptr B.length), some (enc p f), none, none, q8, q9, q10] _ = _
    rw [e2, List.append_assoc, List.flatMap_cons, List.map_append]
theorem names_loop {gd : Mem → Prop} (hg : ∀ M, gd M) {bd : Nat} (hb : bd < 1000) (hb1 : 1 ≤ bd) : ∀ (xs p : List Str) (fs : List Fn) (l : Mem) (o : Option D), (p ++ xs).Nodup → (p ++ xs).length ≤ 64 → fs.length * bd ^ xs.length ≤ 1000000 → NoP l → ∃ l' o', NoP l' ∧
    forL gd (gN 3) b__law_all_starts_6 [3, 4, 6, 7] (xs.map D.str) [some rc, some (.int (bd : Nat)), some (.lst (fs.map (enc p))), none, none, o, none, none, q8, q9, q10] (M ++ l) =
      .nx [some rc, some (.int (bd : Nat)), some (.lst ((grow bd xs fs).map (enc (p ++ xs)))), none, none, o', none, none, q8, q9, q10] (M ++ l')
  | [], p, fs, l, o, _, _, _, hN => ⟨l, o, hN, by rw [List.append_nil, List.map_nil]; exact forL_end (hg _)⟩
  | x :: xs, p, fs, l, o, nd, h64, h, hN => by
    have hx : x ∉ p := by
      rw [List.nodup_append] at nd
      exact fun z => nd.2.2 x z x List.mem_cons_self rfl
    have pw : 1 ≤ bd ^ xs.length := Nat.one_le_pow _ _ hb1
    have h1 : fs.length * bd * bd ^ xs.length ≤ 1000000 := by
      rw [List.length_cons, Nat.pow_succ] at h
      rw [Nat.mul_assoc, Nat.mul_comm bd]
      exact h
    have h2 : fs.length * bd ≤ 1000000 := Nat.le_trans (Nat.le_mul_of_pos_right _ pw) h1
    have lf : (fs.flatMap (growF x bd)).length = fs.length * bd := by
      rw [List.length_flatMap]
      have : ∀ l : List Fn, (l.map fun f => (growF x bd f).length).sum = l.length * bd := fun l => by
        induction l with
        | nil => simp
        | cons a r ih =>
          rw [List.map_cons, List.sum_cons, ih, List.length_cons, Nat.succ_mul, growF, List.length_map, List.length_range]
          omega
      exact this fs
    obtain ⟨g1, o1, n1, e1⟩ := starts_loop (B := M ++ l) (rc := rc) (st := .lst (fs.map (enc p))) (q8 := q8) (q9 := q9) (q10 := q10) (gd := Its.gd ⟨fs.map (enc p), none⟩) (fun _ => trivial) hx (by rw [List.length_append] at h64; omega) hb fs [] [] o (by simp; omega) NoP.nil
    obtain ⟨l2, o2, n2, e2⟩ := names_loop hg hb hb1 xs (p ++ [x]) (fs.flatMap (growF x bd)) (l ++ MO.gone :: g1) o1 (by rw [List.append_assoc]; exact nd) (by rw [List.append_assoc]; exact h64) (by rw [lf]; exact h1) (NoP.app hN (NoP.app NoP.gone n1))
    refine ⟨l2, o2, n2, ?_⟩
    have fz : eFrz (eVar 4) [some rc, some (.int (bd : Nat)), some (.lst (fs.map (enc p))), some (.str x), some (.ptr (M ++ l).length), o1, none, none, q8, q9, q10] ((M ++ l) ++ MO.lst ([] ++ (fs.flatMap (growF x bd)).map (enc (p ++ [x]))) :: g1) = .ok (.lst ((fs.flatMap (growF x bd)).map (enc (p ++ [x])))) ((M ++ l) ++ MO.gone :: g1) := by
      rw [eFrz_l (k := (M ++ l).length) (M1 := (M ++ l) ++ MO.lst ([] ++ (fs.flatMap (growF x bd)).map (enc (p ++ [x]))) :: g1) rfl g0, s0, List.nil_append]
    have tf : ∀ N, t__law_all_starts_5 [some rc, some (.int (bd : Nat)), some (.lst (fs.map (enc p))), some (.str x), some (.ptr (M ++ l).length), o, none, none, q8, q9, q10] N = forL (Its.gd ⟨fs.map (enc p), none⟩) (gN 5) b__law_all_starts_4 [6, 7] (fs.map (enc p)) [some rc, some (.int (bd : Nat)), some (.lst (fs.map (enc p))), some (.str x), some (.ptr (M ++ l).length), o, none, none, q8, q9, q10] N := fun N => by
      unfold t__law_all_starts_5
      rw [kFor_ap, iSeq_ap]
      simp only [eVar_ap, List.getElem?_cons_succ, List.getElem?_cons_zero, vR_some, isR_l, foR_ok]
    have body : b__law_all_starts_6 [some rc, some (.int (bd : Nat)), some (.lst (fs.map (enc p))), some (.str x), none, o, none, none, q8, q9, q10] (M ++ l) = .nx [some rc, some (.int (bd : Nat)), some (.lst ((fs.flatMap (growF x bd)).map (enc (p ++ [x])))), some (.str x), some (.ptr (M ++ l).length), o1, none, none, q8, q9, q10] (M ++ (l ++ MO.gone :: g1)) := by
      unfold b__law_all_starts_6
      have ee : M ++ (l ++ MO.gone :: g1) = (M ++ l) ++ MO.gone :: g1 := by simp
      rw [ee]
      simp only [kSeq_ap, kAsg_ap, eLstP_ap, aNil_ap, lpR_0, asR_ok, gN_ap, stR_ok, thn_nx, List.set_cons_succ, List.set_cons_zero, tf]
      rw [e1]
      simp only [thn_nx, kAsg_ap, fz, asR_ok, gN_ap, stR_ok, List.set_cons_succ, List.set_cons_zero]
    rw [List.map_cons, forL_step (S1 := [some rc, some (.int (bd : Nat)), some (.lst (fs.map (enc p))), some (.str x), none, o, none, none, q8, q9, q10]) (M1 := M ++ l) (hg _) (by simp), body]
    show forL gd _ _ _ _ [some rc, some (.int (bd : Nat)), some (.lst ((fs.flatMap (growF x bd)).map (enc (p ++ [x])))), none, none, o1, none, none, q8, q9, q10] _ = _
    rw [e2, List.append_assoc]
    rfl
end
end QL
end
section
set_option Elab.async false
set_option linter.all false
set_option maxRecDepth 100000
set_option maxHeartbeats 4000000
set_option autoImplicit false
/-! HLaw3: all starts, what is due. -/
namespace QL
open PySem PySem.Spec L2
open Classical
noncomputable def FM (d : D) : Option D := match d with
  | .tup [.str w, _, _] => if w = "met" then some (D.str w) else none
  | _ => none
theorem fm_len : ∀ es : List Ev, ((es.map encE).filterMap FM).length = mets es
  | [] => rfl
  | e :: es => by
    have ih := fm_len es
    cases e with
    | met a b =>
      rw [List.map_cons, List.filterMap_cons_some (b := D.str "met") (by simp [FM, encE]), List.length_cons, ih]
      rfl
    | ref a b =>
      rw [List.map_cons, List.filterMap_cons_none (by
        have : ¬ (("refused" : Str) = "met") := of_decide_eq_false d3
        simp [FM, encE, this]), ih]
      rfl
    | gift a n =>
      rw [List.map_cons, List.filterMap_cons_none (by
        have : ¬ (("gift" : Str) = "met") := of_decide_eq_false d4
        simp [FM, encE, this]), ih]
      rfl
theorem lowDs_all {n : Nat} : ∀ {l : List D}, (∀ d ∈ l, lowD n d = true) → lowDs n l = true
  | [], _ => rfl
  | x :: r, h => by
    show (lowD n x && lowDs n r) = true
    rw [h x List.mem_cons_self, lowDs_all fun d hd => h d (List.mem_cons_of_mem _ hd)]
    rfl
theorem ti_inj {ks : List Str} {f g : Fn} (h : TI ks f = TI ks g) {x : Str} (hx : x ∈ ks) : f x = g x := by
  have e1 : valD (TI ks f) (.inr x) = some (.int (f x)) := te_val hx
  have e2 : valD (TI ks g) (.inr x) = some (.int (g x)) := te_val hx
  rw [h, e2] at e1
  injection e1 with e1
  injection e1 with e1
  exact e1.symm
theorem grow_all {bd : Nat} : ∀ (xs : List Str) (fs : List Fn) (g f0 : Fn), xs.Nodup → (∀ x ∈ xs, 0 ≤ g x ∧ g x < bd) → f0 ∈ fs → ∃ f ∈ grow bd xs fs, (∀ x ∈ xs, f x = g x) ∧ ∀ y, y ∉ xs → f y = f0 y
  | [], fs, g, f0, _, _, h0 => ⟨f0, h0, by simp, fun _ _ => rfl⟩
  | x :: xs, fs, g, f0, nd, hg, h0 => by
    obtain ⟨nx, nd⟩ := List.nodup_cons.mp nd
    obtain ⟨b0, b1⟩ := hg x List.mem_cons_self
    obtain ⟨m, em⟩ := Int.eq_ofNat_of_zero_le b0
    have h1 : fu f0 x (g x) ∈ fs.flatMap (growF x bd) := List.mem_flatMap.mpr ⟨f0, h0, List.mem_map.mpr ⟨m, List.mem_range.mpr (by rw [em] at b1; exact_mod_cast b1), by rw [em]⟩⟩
    obtain ⟨f, hf, e1, e2⟩ := grow_all xs _ g _ nd (fun y hy => hg y (List.mem_cons_of_mem _ hy)) h1
    refine ⟨f, hf, fun y hy => ?_, fun y hy => ?_⟩
    · rcases List.mem_cons.mp hy with q | q
      · subst q
        rw [e2 _ nx, fu_same]
      · exact e1 y q
    · have n1 : y ≠ x := fun z => hy (by rw [z]; exact List.mem_cons_self)
      rw [e2 y fun z => hy (List.mem_cons_of_mem _ z), fu_ne n1]
theorem grow_nn {bd : Nat} : ∀ (xs : List Str) (fs : List Fn), (∀ f ∈ fs, ∀ y, 0 ≤ f y) → ∀ f ∈ grow bd xs fs, ∀ y, 0 ≤ f y
  | [], fs, h, f, hf, y => h f hf y
  | x :: xs, fs, h, f, hf, y => grow_nn xs (fs.flatMap (growF x bd)) (fun f' hf' y' => by
    obtain ⟨f0, h0, hf0⟩ := List.mem_flatMap.mp hf'
    obtain ⟨m, _, rfl⟩ := List.mem_map.mp hf0
    by_cases z : y' = x
    · subst z; rw [fu_same]; omega
    · rw [fu_ne z]; exact h f0 h0 y') f hf y
section
variable {M : Mem} {ns : List Str} {es : List Ev}
theorem starts_eq (hM : NoP M) (k : Rk ns es) (hg : giftsOk es) (h7 : mets es ≤ 97) (hp : (3 + mets es) ^ (sn es).length ≤ 1000000) : ∃ xs : List D, (∀ d ∈ xs, ∃ f, d = enc (sn es) f) ∧ (xs = [] ↔ ¬ CB es) ∧ g__law_all_starts [.lst (es.map encE)] M = .ok (.lst xs) M := by
  have kl := k.len
  have kf := k.few
  have ks := k.sn
  have hs := seen_eq hM k
  obtain ⟨l', o', nl, lp⟩ := names_loop (M := M) (rc := .lst (es.map encE)) (q8 := none) (q9 := none) (q10 := none) (gd := Its.gd ⟨(sn es).map D.str, none⟩) (fun _ => trivial) (bd := 3 + mets es) (by omega) (by omega) (sn es) [] [zero] [] none (by rw [List.nil_append]; exact sn_nd es) (by rw [List.nil_append]; omega) (by rw [List.length_singleton, Nat.one_mul]; exact hp) NoP.nil
  rw [List.nil_append, List.append_nil] at lp
  have hn : ∀ x ∈ nms es, x ∈ sn es := fun x hx => sn_mem.mpr hx
  -- the comprehensions
  have e1 : e__law_all_starts_1 [some (.lst (es.map encE)), none, none, none, none, none, none, none, none, none, none] M = .ok (.lst ((es.map encE).filterMap FM)) M := by
    unfold e__law_all_starts_1
    rw [eLc_ap, iSeq_ap]
    simp only [eVar_ap, List.getElem?_cons_zero, vR_some, isR_l]
    rw [lcR_ok, lcL_map (gd := Its.gd ⟨es.map encE, none⟩) trivial FM (es.map encE) [] (by simp; rw [sizeLine_eq]; omega) fun d hd => by
      obtain ⟨e, he, rfl⟩ := List.mem_map.mp hd
      refine ⟨[some (.lst (es.map encE)), none, none, none, none, none, none, none, some (p1 e), some (.str (p2 e)), some (p3 e)], by rw [enc_p]; simp, ?_⟩
      cases e with
      | met a b => simp [FM, encE, p1]
      | ref a b =>
        have : ¬ (("refused" : Str) = "met") := of_decide_eq_false d3
        simp [FM, encE, p1, this]
      | gift a n =>
        have : ¬ (("gift" : Str) = "met") := of_decide_eq_false d4
        simp [FM, encE, p1, this]]
    rfl
  have bd : (3 : Int) + ((((es.map encE).filterMap FM).length : Nat) : Int) = ((3 + mets es : Nat) : Int) := by rw [fm_len]; omega
  have tf : t__law_all_starts_7 [some (.lst (es.map encE)), some (.int ((3 + mets es : Nat) : Int)), some (.lst [.dK []]), none, none, none, none, none, none, none, none] M = forL (Its.gd ⟨(sn es).map D.str, none⟩) (gN 3) b__law_all_starts_6 [3, 4, 6, 7] ((sn es).map D.str) [some (.lst (es.map encE)), some (.int ((3 + mets es : Nat) : Int)), some (.lst ([zero].map (enc []))), none, none, none, none, none, none, none, none] M := by
    unfold t__law_all_starts_7
    rw [kFor_ap, iSeq_ap]
    simp only [eCall_ap, aCons_ap, eVar_ap, List.getElem?_cons_zero, vR_some, c1_ok, aNil_ap, c2_ok, cR_ok, hs, isR_l, foR_ok]
    rfl
  let F8 : D → Option D := fun d => if ∃ f, d = enc (sn es) f ∧ (run es f).isSome = true then some d else none
  have f8 : ∀ f, F8 (enc (sn es) f) = if (run es f).isSome = true then some (enc (sn es) f) else none := fun f => by
    show (if ∃ f', enc (sn es) f = enc (sn es) f' ∧ (run es f').isSome = true then _ else _) = _
    by_cases q : (run es f).isSome = true
    · rw [if_pos ⟨f, rfl, q⟩, if_pos q]
    · rw [if_neg, if_neg q]
      rintro ⟨f', e, h⟩
      unfold enc at e
      injection e with e
      rw [run_cong es f f' fun x hx => ti_inj e (hn x hx)] at q
      exact q h
  have gl : (grow (3 + mets es) (sn es) [zero]).length ≤ 1000000 := by
    have : ∀ (xs : List Str) (fs : List Fn), (grow (3 + mets es) xs fs).length = fs.length * (3 + mets es) ^ xs.length := by
      intro xs
      induction xs with
      | nil => intro fs; show fs.length = fs.length * 1; omega
      | cons x r ih =>
        intro fs
        show (grow _ r (fs.flatMap (growF x _))).length = _
        rw [ih, List.length_flatMap, List.length_cons, Nat.pow_succ]
        have s : ∀ l : List Fn, (l.map fun f => (growF x (3 + mets es) f).length).sum = l.length * (3 + mets es) := fun l => by
          induction l with
          | nil => simp
          | cons a r ih =>
            rw [List.map_cons, List.sum_cons, ih, List.length_cons, Nat.succ_mul, growF, List.length_map, List.length_range]
            omega
        rw [s, Nat.mul_assoc, Nat.mul_comm (3 + mets es)]
    rw [this, List.length_singleton, Nat.one_mul]
    exact hp
  have e8 : ∀ (o : Option D) (l : Mem), NoP (M ++ l) → e__law_all_starts_8 [some (.lst (es.map encE)), some (.int ((3 + mets es : Nat) : Int)), some (.lst ((grow (3 + mets es) (sn es) [zero]).map (enc (sn es)))), none, none, o, none, none, none, none, none] (M ++ l) = .ok (.lst (((grow (3 + mets es) (sn es) [zero]).map (enc (sn es))).filterMap F8)) (M ++ l) := fun o l hN => by
    unfold e__law_all_starts_8
    rw [eLc_ap, iSeq_ap]
    simp only [eVar_ap, List.getElem?_cons_succ, List.getElem?_cons_zero, vR_some, isR_l]
    rw [lcR_ok, lcL_map (gd := Its.gd ⟨(grow (3 + mets es) (sn es) [zero]).map (enc (sn es)), none⟩) trivial F8 _ [] (by simp; rw [sizeLine_eq]; omega) fun d hd => by
      obtain ⟨f, hf, rfl⟩ := List.mem_map.mp hd
      refine ⟨[some (.lst (es.map encE)), some (.int ((3 + mets es : Nat) : Int)), some (.lst ((grow (3 + mets es) (sn es) [zero]).map (enc (sn es)))), none, none, some (enc (sn es) f), none, none, none, none, none], by simp, ?_⟩
      have he := law_end_eq (M := M ++ l) (ks := sn es) (f := f) (es := es) hN hn (by omega)
      rw [f8]
      cases e : run es f with
      | some f' =>
        rw [e] at he
        simp [enc, he]
      | none =>
        rw [e] at he
        simp [enc, he]]
    rfl
  refine ⟨((grow (3 + mets es) (sn es) [zero]).map (enc (sn es))).filterMap F8, fun d hd => ?_, ?_, ?_⟩
  · obtain ⟨d', hd', e⟩ := List.mem_filterMap.mp hd
    obtain ⟨f, _, rfl⟩ := List.mem_map.mp hd'
    rw [f8] at e
    split at e
    · exact ⟨f, (Option.some.inj e).symm⟩
    · cases e
  · constructor
    · intro z cb
      have h1 := (cb_iff es).mp cb
      obtain ⟨f, hf, e, _⟩ := grow_all (bd := 3 + mets es) (sn es) [zero] (least es) zero (sn_nd es) (fun x _ => ⟨least_nn es x, by have := least_bd hg x; omega⟩) List.mem_cons_self
      have h2 : (run es f).isSome = true := by rw [run_cong es f (least es) fun x hx => e x (hn x hx)]; exact h1
      have : enc (sn es) f ∈ ((grow (3 + mets es) (sn es) [zero]).map (enc (sn es))).filterMap F8 := List.mem_filterMap.mpr ⟨_, List.mem_map.mpr ⟨f, hf, rfl⟩, by rw [f8, if_pos h2]⟩
      rw [z] at this
      cases this
    · intro nc
      apply List.eq_nil_iff_forall_not_mem.mpr
      intro d hd
      obtain ⟨d', hd', e⟩ := List.mem_filterMap.mp hd
      obtain ⟨f, hf, rfl⟩ := List.mem_map.mp hd'
      rw [f8] at e
      split at e
      · rename_i q
        exact nc ⟨f, grow_nn (sn es) [zero] (fun f hf y => by rw [List.mem_singleton.mp hf]; exact Int.le_refl 0) f hf, q⟩
      · cases e
  · have e9 := e8 o' l' (NoP.app hM nl)
    have ed : ∀ S, eDnewK S M = .ok (.dK []) M := fun S => rfl
    unfold g__law_all_starts
    rw [runF_ap (show [D.lst (es.map encE)].length = 1 from rfl)]
    unfold t__law_all_starts
    simp only [List.map_cons, List.map_nil, List.replicate, List.cons_append, List.nil_append]
    simp only [kSeq_ap, kAsg_ap, e2_ap, eC_ap, eCall_ap, aCons_ap, aNil_ap, c1_ok, c2_ok, cR_ok, e1, bLenA_l, i1R_ok, fAdd_i, bd, asR_ok, gN_ap, stR_ok, thn_nx, List.set_cons_succ, List.set_cons_zero, eLst_ap, ed, s2_ok, s3_ok, lsR_1, tf, lp, kRet_ap, e9, rtR_ok, fnR_rt]
    refine set_any l' hM ?_
    show lowDs _ _ = true
    refine lowDs_all fun d hd => ?_
    obtain ⟨d', hd', e⟩ := List.mem_filterMap.mp hd
    obtain ⟨f, _, rfl⟩ := List.mem_map.mp hd'
    rw [f8] at e
    split at e
    · rw [← Option.some.inj e]
      exact lowK_ti
    · cases e
end
end QL
end
section
set_option Elab.async false
set_option linter.all false
set_option maxRecDepth 100000
set_option maxHeartbeats 4000000
set_option autoImplicit false
/-! HLaw4: the due answer. -/
namespace QL
open PySem PySem.Spec L2
open Classical
/-- an empty list against a list of dicts -/
theorem eqA_nil {p : List Str} {M : Mem} : ∀ {xs : List D}, (∀ d ∈ xs, ∃ f, d = enc p f) → fEqA (.lst xs) (.lst []) M = .ok (.bl (decide (xs = []))) M
  | [], _ => rfl
  | x :: r, h => by
    obtain ⟨f, rfl⟩ := h x List.mem_cons_self
    rfl
/-- bounds under which the law's own search ends -/
structure Dk (ns : List Str) (es : List Ev) : Prop extends Rk ns es where
  gf : giftsOk es
  m7 : mets es ≤ 97
  pw : (3 + mets es) ^ (sn es).length ≤ 1000000
section
variable {M : Mem} {ns : List Str} {es : List Ev}
theorem due_step (hM : NoP M) (n : Nat) (k : Dk ns (es.take (n + 1))) : b__law_due_2 [some (.lst (es.map encE)), some (.int (n : Int))] M = if CB (es.take (n + 1)) then .nx [some (.lst (es.map encE)), some (.int (n : Int))] M else .rt (.int (n : Int)) M := by
  obtain ⟨xs, h1, h2, h3⟩ := starts_eq hM k.toRk k.gf k.m7 k.pw
  unfold b__law_due_2 t__law_due_1
  have e1 : (n : Int) + 1 = ((n + 1 : Nat) : Int) := by omega
  have e2 := eqA_nil (M := M) h1
  have cut : cutD (es.map encE) none (some ((n + 1 : Nat) : Int)) = (es.take (n + 1)).map encE := by rw [cutD_take (Int.natCast_nonneg _), Int.toNat_natCast, List.map_take]
  simp only [kIf_ap, bV_ap, e2_ap, eVar_ap, List.getElem?_cons_succ, List.getElem?_cons_zero, vR_some, s2_ok, s3_ok, fAdd_i, eC_ap, eCall_ap, aCons_ap, eSl_ap, sl1_ok, oNone_ap, sl2_ok, oSome_ap, soR_ok, sl3_ok, fSl_l, e1, cut, c1_ok, aNil_ap, c2_ok, cR_ok, h3, eLst_ap, lsR_0, e2, bR_ok]
  by_cases q : CB (es.take (n + 1))
  · rw [if_pos q, decide_eq_false fun z => h2.mp z q]
    rfl
  · rw [if_neg q, decide_eq_true (h2.mpr q)]
    rfl
theorem due_loop (hM : NoP M) {gd : Mem → Prop} (hg : ∀ M, gd M) (k : ∀ n, Dk ns (es.take n)) : ∀ (m a : Nat) (o : Option D), a + m = es.length → CB (es.take a) →
    (CB es ∧ ∃ o', forL gd (gN 1) b__law_due_2 [1] ((List.range' a m).map fun (j : Nat) => D.int (j : Int)) [some (.lst (es.map encE)), o] M = .nx [some (.lst (es.map encE)), o'] M) ∨
    ∃ n, isFB es n ∧ forL gd (gN 1) b__law_due_2 [1] ((List.range' a m).map fun (j : Nat) => D.int (j : Int)) [some (.lst (es.map encE)), o] M = .rt (.int (n : Nat)) M
  | 0, a, o, h, hc => by
    refine .inl ⟨?_, o, ?_⟩
    · rw [show a = es.length from h, List.take_length] at hc
      exact hc
    · rw [List.range'_zero, List.map_nil]
      exact forL_end (hg _)
  | m + 1, a, o, h, hc => by
    have st := due_step hM a (k (a + 1))
    rw [List.range'_succ, List.map_cons]
    rw [forL_step (S1 := [some (.lst (es.map encE)), some (.int (a : Int))]) (M1 := M) (hg _) (by simp), st]
    by_cases q : CB (es.take (a + 1))
    · rw [if_pos q]
      exact due_loop hM hg k m (a + 1) none (by omega) q
    · rw [if_neg q]
      exact .inr ⟨a, ⟨by omega, hc, q⟩, rfl⟩
theorem due_eq (hM : NoP M) (k : ∀ n, Dk ns (es.take n)) : (CB es ∧ g__law_due [.lst (es.map encE)] M = .ok .non M) ∨ ∃ n, isFB es n ∧ g__law_due [.lst (es.map encE)] M = .ok (.int (n : Nat)) M := by
  have kl : es.length < 400 := by
    have := (k es.length).len
    rw [List.take_length] at this
    exact this
  have t3 : t__law_due_3 [some (.lst (es.map encE)), none] M = forL (Its.gd ⟨rangeD 0 es.length, none⟩) (gN 1) b__law_due_2 [1] ((List.range' 0 es.length).map fun (j : Nat) => D.int (j : Int)) [some (.lst (es.map encE)), none] M := by
    unfold t__law_due_3
    rw [kFor_ap, iRange1_ap]
    simp only [eCall_ap, aCons_ap, eVar_ap, List.getElem?_cons_succ, List.getElem?_cons_zero, vR_some, c1_ok, aNil_ap, c2_ok, cR_ok, bLenA_l]
    rw [List.length_map, i1R_ok (by omega) (by omega), foR_ok, Int.toNat_natCast]
    show forL (Its.gd ⟨rangeD 0 es.length, none⟩) _ _ _ (rangeD 0 es.length) _ _ = _
    conv => lhs; arg 5; rw [rangeD_nat, List.range_eq_range']
  rcases due_loop hM (gd := Its.gd ⟨rangeD 0 es.length, none⟩) (fun _ => trivial) k es.length 0 none (by omega) (by rw [List.take_zero]; exact cb_nil) with ⟨h, o', e⟩ | ⟨n, h, e⟩
  · refine .inl ⟨h, ?_⟩
    unfold g__law_due
    rw [runF_ap (show [D.lst (es.map encE)].length = 1 from rfl)]
    unfold t__law_due
    simp only [List.map_cons, List.map_nil, List.replicate, List.cons_append, List.nil_append, kSeq_ap, t3, e, thn_nx, kRet_ap, eC_ap, rtR_ok, fnR_rt]
    exact settle_ok (Nat.le_refl _)
  · refine .inr ⟨n, h, ?_⟩
    unfold g__law_due
    rw [runF_ap (show [D.lst (es.map encE)].length = 1 from rfl)]
    unfold t__law_due
    simp only [List.map_cons, List.map_nil, List.replicate, List.cons_append, List.nil_append, kSeq_ap, t3, e, thn_rt, fnR_rt]
    exact settle_ok (Nat.le_refl _)
end
end QL
end
section
set_option Elab.async false
set_option linter.all false
set_option maxRecDepth 100000
set_option maxHeartbeats 4000000
set_option autoImplicit false
/-! HLaw5: alike, hand, the handed record. -/
namespace QL
open PySem PySem.Spec L2
open Classical
theorem log_small {n : Nat} (h : n < 400) : (n : Int).natAbs.log2 < 1920 := by
  rw [Int.natAbs_natCast]
  by_cases z : n = 0
  · subst z; decide
  · rw [Nat.log2_lt z]
    exact Nat.lt_of_lt_of_le h (Nat.le_trans (show 400 ≤ 2 ^ 9 by decide) (Nat.pow_le_pow_right (by decide) (by decide)))
theorem alike_n {M : Mem} : g__law_alike [.non, .non] M = .ok (.bl true) M := by
  unfold g__law_alike
  rw [runF_ap (show [D.non, D.non].length = 2 from rfl)]
  unfold t__law_alike
  have e0 : fEqA .non .non M = .ok (.bl true) M := rfl
  have e3 : bRepr0 [.non] M = .ok (.str "None") M := rfl
  simp only [List.map_cons, List.map_nil, List.replicate, List.cons_append, List.nil_append, kRet_ap, eAnd_ap, e2_ap, eVar_ap, List.getElem?_cons_succ, List.getElem?_cons_zero, vR_some, s2_ok, s3_ok, e0, eaR_t, eCall_ap, aCons_ap, c1_ok, aNil_ap, c2_ok, cR_ok, e3, fEqA_s, decide_true, rtR_ok, fnR_rt]
  exact settle_ok (Nat.le_refl _)
theorem alike_i {M : Mem} {n : Nat} (h : n < 400) : g__law_alike [.int (n : Nat), .int (n : Nat)] M = .ok (.bl true) M := by
  unfold g__law_alike
  rw [runF_ap (show [D.int (n : Nat), D.int (n : Nat)].length = 2 from rfl)]
  unfold t__law_alike
  have e3 : bRepr0 [.int (n : Nat)] M = .ok (.str (toString (n : Int))) M := by
    unfold bRepr0
    exact if_pos (log_small h)
  simp only [List.map_cons, List.map_nil, List.replicate, List.cons_append, List.nil_append, kRet_ap, eAnd_ap, e2_ap, eVar_ap, List.getElem?_cons_succ, List.getElem?_cons_zero, vR_some, s2_ok, s3_ok, fEqA_i, decide_true, eaR_t, eCall_ap, aCons_ap, c1_ok, aNil_ap, c2_ok, cR_ok, e3, fEqA_s, decide_true, rtR_ok, fnR_rt]
  exact settle_ok (Nat.le_refl _)
theorem hand_eq (ns : List Int) (h : ns.length ≤ 63) : ∃ mo, Hand mo ∧ g__law_hand [.lst (ns.map D.int)] [] = .ok (.ptr 0) [mo] := by
  refine ⟨HD ns 0 0 0 20011 40009, ⟨ns, 0, 0, 0, 20011, 40009, rfl, by decide, by decide, by decide, ⟨by decide, by decide⟩, ⟨by decide, by decide⟩⟩, ?_⟩
  unfold g__law_hand
  rw [runF_ap (show [D.lst (ns.map D.int)].length = 1 from rfl)]
  unfold t__law_hand
  have cut : cutD (ns.map D.int) none (some 63) = ns.map D.int := by
    rw [cutD_take (by decide)]
    exact List.take_of_length_le (by rw [List.length_map]; exact h)
  have bl : bList [.lst (ns.map D.int)] [] = .ok (.lst (ns.map D.int)) [] := rfl
  simp only [List.map_cons, List.map_nil, List.replicate, List.cons_append, List.nil_append, kRet_ap, eLstP_ap, aCons_ap, eCall_ap, eSl_ap, eVar_ap, List.getElem?_cons_succ, List.getElem?_cons_zero, vR_some, sl1_ok, oNone_ap, sl2_ok, oSome_ap, eC_ap, soR_ok, sl3_ok, fSl_l, cut, c1_ok, aNil_ap, c2_ok, cR_ok, bl, lpR_6, rtR_ok, fnR_rt]
  rfl
end QL
end
section
set_option Elab.async false
set_option linter.all false
set_option maxRecDepth 100000
set_option maxHeartbeats 4000000
set_option autoImplicit false
/-! HLaw6: bounds of the records, and the answers that agree. -/
namespace QL
open PySem PySem.Spec L2
open Classical
theorem mets_le : ∀ r : List Ev, mets r ≤ r.length
  | [] => Nat.le_refl 0
  | .met _ _ :: r => Nat.succ_le_succ (mets_le r)
  | .ref _ _ :: r => Nat.le_succ_of_le (mets_le r)
  | .gift _ _ :: r => Nat.le_succ_of_le (mets_le r)
theorem ev_nm {ns : List Str} {es : List Ev} (h : ∀ e ∈ es, EvOk ns e) : ∀ x ∈ nms es, x ∈ ns := fun x hx => by
  obtain ⟨e, he, q⟩ := List.mem_flatMap.mp hx
  have o := h e he
  cases e with
  | met a b =>
    simp [nmE] at q
    rcases q with q | q <;> subst q
    · exact o.1
    · exact o.2.1
  | ref a b =>
    simp [nmE] at q
    rcases q with q | q <;> subst q
    · exact o.1
    · exact o.2.1
  | gift a n =>
    simp [nmE] at q
    subst q
    exact o.1
theorem rk_of {ns : List Str} {es : List Ev} (h : ∀ e ∈ es, EvOk ns e) (h3 : ns.length ≤ 3) (hl : es.length ≤ 12) : Rk ns es := ⟨by omega, by omega, ev_nm h⟩
theorem dk_of {ns : List Str} {es : List Ev} (h : ∀ e ∈ es, EvOk ns e) (h3 : ns.length ≤ 3) (hl : es.length ≤ 7) (n : Nat) : Dk ns (es.take n) := by
  have h' : ∀ e ∈ es.take n, EvOk ns e := fun e he => h e (List.mem_of_mem_take he)
  have l' : (es.take n).length ≤ 7 := by rw [List.length_take]; omega
  have m' := mets_le (es.take n)
  have s' : (sn (es.take n)).length ≤ 3 := Nat.le_trans (len_sub (sn_nd _) fun x hx => ev_nm h' x (sn_mem.mp hx)) h3
  refine ⟨rk_of h' h3 (by omega), fun a k hk => ?_, by omega, ?_⟩
  · have o := h' _ hk
    exact Int.le_trans (by decide) o.2.1
  · refine Nat.le_trans (Nat.pow_le_pow_left (show 3 + mets (es.take n) ≤ 10 by omega) _) ?_
    exact Nat.le_trans (Nat.pow_le_pow_right (by decide) s') (by decide)
theorem nm_ok {x : Str} (h : NmOk x) : PyData.strOk x = true := by
  unfold PyData.strOk
  rw [Array.all_eq_true']
  intro c hc
  have := h.2.2 c (Array.mem_toList_iff.mpr hc)
  exact decide_eq_true (by have := this.2; omega)
theorem okDs_all {n : Nat} : ∀ {l : List D}, (∀ d ∈ l, okD n d = true) → okDs n l = true
  | [], _ => by simp [okDs]
  | x :: r, h => by
    simp only [okDs, h x List.mem_cons_self, okDs_all fun d hd => h d (List.mem_cons_of_mem _ hd), Bool.and_self]
theorem okE_enc {ns : List Str} {e : Ev} (hn : ∀ x ∈ ns, NmOk x) (h : EvOk ns e) : okD 63 (encE e) = true := by
  cases e with
  | met a b =>
    have h1 := nm_ok (hn a h.1)
    have h2 := nm_ok (hn b h.2.1)
    have h3 : PyData.strOk "met" = true := by decide +kernel
    simp only [encE, okD, okDs, h1, h2, h3, Bool.and_self]
  | ref a b =>
    have h1 := nm_ok (hn a h.1)
    have h2 := nm_ok (hn b h.2.1)
    have h3 : PyData.strOk "refused" = true := by decide +kernel
    simp only [encE, okD, okDs, h1, h2, h3, Bool.and_self]
  | gift a n =>
    have h1 := nm_ok (hn a h.1)
    have h3 : PyData.strOk "gift" = true := by decide +kernel
    simp only [encE, okD, okDs, h1, h3, Bool.and_self]
theorem ne_same {ns : List Str} {es : List Ev} {M : Mem} (hn : ∀ x ∈ ns, NmOk x) (h : ∀ e ∈ es, EvOk ns e) : fNe (.lst (es.map encE)) (.lst (es.map encE)) M = .ok (.bl false) M := by
  have o : okD 64 (.lst (es.map encE)) = true := by
    have : okDs 63 (es.map encE) = true := okDs_all fun d hd => by
      obtain ⟨e, he, rfl⟩ := List.mem_map.mp hd
      exact okE_enc hn (h e he)
    simp only [okD, this]
  have e1 : der M (.lst (es.map encE)) = .lst (es.map encE) := rfl
  unfold fNe
  simp only [e1, o, and_self, if_true]
  rw [PySem.SeqAt.eqv_refl _ (okD_lay o).1]
  rfl
/-- what first_bad and due both answer -/
def Ans (es : List Ev) (d : D) : Prop := (d = .non ∧ CB es) ∨ ∃ n : Nat, d = .int (n : Nat) ∧ isFB es n
theorem ans_uniq {es : List Ev} {d d' : D} (h : Ans es d) (h' : Ans es d') : d = d' := by
  rcases h with ⟨e, c⟩ | ⟨n, e, f⟩ <;> rcases h' with ⟨e', c'⟩ | ⟨n', e', f'⟩
  · rw [e, e']
  · exact absurd c (fb_notCB f')
  · exact absurd c' (fb_notCB f)
  · rw [e, e', fb_uniq f f']
theorem ans_alike {es : List Ev} {d : D} {M : Mem} (h : Ans es d) (hl : es.length < 400) : g__law_alike [d, d] M = .ok (.bl true) M := by
  rcases h with ⟨e, c⟩ | ⟨n, e, f⟩
  · rw [e]; exact alike_n
  · rw [e]; exact alike_i (Nat.lt_trans f.1 hl)
theorem first_ans {M : Mem} {ns : List Str} {es : List Ev} (hM : NoP M) (k : Rk ns es) : ∃ d, Ans es d ∧ g_first_bad [.lst (es.map encE)] M = .ok d M := by
  rcases first_bad_eq hM k with ⟨c, e⟩ | ⟨n, f, e⟩
  · exact ⟨_, .inl ⟨rfl, c⟩, e⟩
  · exact ⟨_, .inr ⟨n, rfl, f⟩, e⟩
theorem due_ans {M : Mem} {ns : List Str} {es : List Ev} (hM : NoP M) (k : ∀ n, Dk ns (es.take n)) : ∃ d, Ans es d ∧ g__law_due [.lst (es.map encE)] M = .ok d M := by
  rcases due_eq hM k with ⟨c, e⟩ | ⟨n, f, e⟩
  · exact ⟨_, .inl ⟨rfl, c⟩, e⟩
  · exact ⟨_, .inr ⟨n, rfl, f⟩, e⟩
end QL
end
section
set_option Elab.async false
set_option linter.all false
set_option maxRecDepth 100000
set_option maxHeartbeats 4000000
set_option autoImplicit false
/-! HMain: the law. -/
namespace QL
open PySem PySem.Spec L2
open Classical
theorem nop1 {mo : MO} (h : Hand mo) : NoP [mo] := fun n => by
  show (lowO n mo && true) = true
  rw [Hand.low h n]
  rfl
section
variable {mo : MO} {sc tn : D} {ns : List Str} {es : List Ev} {d : D}
theorem again_step {j : D} (hm : Hand mo) (hn : ∀ x ∈ ns, NmOk x) (h3 : ns.length ≤ 3) (hev : ∀ e ∈ es, EvOk ns e) (hl : es.length ≤ 7) (ha : Ans es d) :
    b_law_2 [some sc, some (.ptr 0), some tn, some (.lst (ns.map D.str)), some (.lst (es.map encE)), some d, some (.lst (es.map encE)), some j, none] [mo] =
      .nx [some sc, some (.ptr 0), some tn, some (.lst (ns.map D.str)), some (.lst (es.map encE)), some d, some (.lst (es.map encE)), some j, none] [mo] := by
  obtain ⟨d', ha', e1⟩ := first_ans (nop1 hm) (rk_of hev h3 (by omega))
  rw [ans_uniq ha' ha] at e1
  have e2 := ans_alike (M := [mo]) ha (by omega)
  have e3 := ne_same (M := [mo]) hn hev
  unfold b_law_2 t_law_1
  simp [e1, e2, e3]
theorem again_loop (hm : Hand mo) (hn : ∀ x ∈ ns, NmOk x) (h3 : ns.length ≤ 3) (hev : ∀ e ∈ es, EvOk ns e) (hl : es.length ≤ 7) (ha : Ans es d) :
    t_law_3 [some sc, some (.ptr 0), some tn, some (.lst (ns.map D.str)), some (.lst (es.map encE)), some d, some (.lst (es.map encE)), none, none] [mo] =
      .nx [some sc, some (.ptr 0), some tn, some (.lst (ns.map D.str)), some (.lst (es.map encE)), some d, some (.lst (es.map encE)), none, none] [mo] := by
  unfold t_law_3
  rw [kFor_ap, iRange1_ap]
  simp only [aCons_ap, eC_ap, c1_ok, aNil_ap, c2_ok]
  rw [i1R_ok (by decide) (by decide), foR_ok]
  show forL (Its.gd ⟨[.int 0, .int 1], none⟩) _ _ _ [.int 0, .int 1] _ _ = _
  rw [forL_step (S1 := [some sc, some (.ptr 0), some tn, some (.lst (ns.map D.str)), some (.lst (es.map encE)), some d, some (.lst (es.map encE)), some (.int 0), none]) (M1 := [mo]) trivial (by simp), again_step hm hn h3 hev hl ha]
  show forL (Its.gd ⟨[.int 0, .int 1], none⟩) _ _ _ [.int 1] [some sc, some (.ptr 0), some tn, some (.lst (ns.map D.str)), some (.lst (es.map encE)), some d, some (.lst (es.map encE)), none, none] _ = _
  rw [forL_step (S1 := [some sc, some (.ptr 0), some tn, some (.lst (ns.map D.str)), some (.lst (es.map encE)), some d, some (.lst (es.map encE)), some (.int 1), none]) (M1 := [mo]) trivial (by simp), again_step hm hn h3 hev hl ha]
  show forL (Its.gd ⟨[.int 0, .int 1], none⟩) _ _ _ [] [some sc, some (.ptr 0), some tn, some (.lst (ns.map D.str)), some (.lst (es.map encE)), some d, some (.lst (es.map encE)), none, none] _ = _
  exact forL_end trivial
theorem longer_eq (hm : Hand mo) (nd : ns.Nodup) (h2 : 2 ≤ ns.length) (h3 : ns.length ≤ 3) (hev : ∀ e ∈ es, EvOk ns e) (hl : es.length ≤ 7) (ha : Ans es d) : ∃ (o : Option D) (mo' : MO), Hand mo' ∧
    t_law_6 [some sc, some (.ptr 0), some tn, some (.lst (ns.map D.str)), some (.lst (es.map encE)), some d, some (.lst (es.map encE)), none, none] [mo] =
      .nx [some sc, some (.ptr 0), some tn, some (.lst (ns.map D.str)), some (.lst (es.map encE)), some d, some (.lst (es.map encE)), none, o] [mo'] := by
  rcases ha with ⟨rfl, c⟩ | ⟨n, rfl, f⟩
  · refine ⟨none, mo, hm, ?_⟩
    unfold t_law_6
    simp
  · obtain ⟨ev2, mo', hm', l2, ok2, er⟩ := record_eq (M := [mo]) (h := 0) (by simp) (nop1 hm) hm nd h2 (by omega) (lim := 5) (by decide)
    have er' : g__law_record [.ptr 0, .lst (ns.map D.str), .int 5] [mo] = .ok (.lst (ev2.map encE)) [mo'] := er
    have hev2 : ∀ e ∈ es ++ ev2, EvOk ns e := fun e he => (List.mem_append.mp he).elim (hev e) (ok2 e)
    have k1 : Rk ns (es ++ ev2) := rk_of hev2 h3 (by rw [List.length_append]; omega)
    have k0 : Rk ns es := rk_of hev h3 (by omega)
    have hN := nop1 hm'
    obtain ⟨d1, a1, f1⟩ := first_ans hN k1
    obtain ⟨d2, a2, f2⟩ := first_ans hN (k0.take (n + 1))
    obtain ⟨d3, a3, f3⟩ := first_ans hN (k0.take n)
    have b1 : Ans (es ++ ev2) (.int (n : Nat)) := .inr ⟨n, rfl, fb_app f⟩
    have b2 : Ans (es.take (n + 1)) (.int (n : Nat)) := .inr ⟨n, rfl, fb_take f⟩
    have b3 : Ans (es.take n) .non := .inl ⟨rfl, f.2.1⟩
    rw [ans_uniq a1 b1] at f1
    rw [ans_uniq a2 b2] at f2
    rw [ans_uniq a3 b3] at f3
    have al : g__law_alike [.int (n : Nat), .int (n : Nat)] [mo'] = .ok (.bl true) [mo'] := alike_i (by have := f.1; omega)
    refine ⟨some (.lst ((es ++ ev2).map encE)), mo', hm', ?_⟩
    have z : (es.map encE).length + (ev2.map encE).length ≤ sizeLine := by rw [List.length_map, List.length_map, sizeLine_eq]; omega
    have i1 : (n : Int) + 1 = ((n + 1 : Nat) : Int) := by omega
    have cut1 : cutD (es.map encE) none (some ((n + 1 : Nat) : Int)) = (es.take (n + 1)).map encE := by rw [cutD_take (Int.natCast_nonneg _), Int.toNat_natCast, List.map_take]
    have cut2 : cutD (es.map encE) none (some (n : Int)) = (es.take n).map encE := by rw [cutD_take (Int.natCast_nonneg _), Int.toNat_natCast, List.map_take]
    have apx : es.map encE ++ ev2.map encE = (es ++ ev2).map encE := by rw [List.map_append]
    unfold t_law_6 t_law_4 t_law_5
    simp only [kIf_ap, bV_ap, e2_ap, eVar_ap, List.getElem?_cons_succ, List.getElem?_cons_zero, vR_some, s2_ok, eC_ap, s3_ok, fNot0_i, bR_ok, ifR_t, kSeq_ap, kAsg_ap, eCall_ap, aCons_ap, c1_ok, aNil_ap, c2_ok, cR_ok, er', fAdd_l, if_pos z, apx, asR_ok, gN_ap, stR_ok, thn_nx, List.set_cons_succ, List.set_cons_zero]
    simp only [bOr_ap, bNot_ap, bV_ap, eCall_ap, aCons_ap, eVar_ap, List.getElem?_cons_succ, List.getElem?_cons_zero, vR_some, c1_ok, aNil_ap, c2_ok, cR_ok, f1, al, bR_ok]
    simp only [nR_ok, Bool.not_true, orRr_f, bNot_ap, bV_ap, eCall_ap, aCons_ap, eSl_ap, eVar_ap, List.getElem?_cons_succ, List.getElem?_cons_zero, vR_some, sl1_ok, oNone_ap, sl2_ok, oSome_ap, e2_ap, eC_ap, s2_ok, s3_ok, fAdd_i, i1, soR_ok, sl3_ok, fSl_l, cut1, c1_ok, aNil_ap, c2_ok, cR_ok, f2, al, bR_ok, ifR_f, kNil_ap, thn_nx, kIf_ap, cut2, f3, fNot0_n]
theorem turn_eq (hm : Hand mo) : ∃ (mo' : MO) (S2 : Sl), Hand mo' ∧ b_law_7 [some sc, some (.ptr 0), some tn, none, none, none, none, none, none] [mo] = .nx S2 [mo'] ∧ kl [2, 3, 4, 5, 6, 7, 8] S2 = [some sc, some (.ptr 0), none, none, none, none, none, none, none] := by
  obtain ⟨r, m1, h1, r0, r1, e1⟩ := draw_eq (M := [mo]) (h := 0) (by simp) hm (t := 2) (by decide) (by decide)
  obtain ⟨n, rfl⟩ := Int.eq_ofNat_of_zero_le r0
  have n2 : n < 2 := by exact_mod_cast r1
  have e1' : g__law_draw [.ptr 0, .int 2] [mo] = .ok (.int (n : Int)) [m1] := e1
  obtain ⟨ns, m2, h2, ln, nd, hn, en⟩ := names_eq (M := [m1]) (h := 0) (by simp) h1 (m := 2 + n) (by omega)
  have i2 : (2 : Int) + (n : Int) = ((2 + n : Nat) : Int) := by omega
  have en' : g__law_names [.ptr 0, .int ((2 + n : Nat) : Int)] [m1] = .ok (.lst (ns.map D.str)) [m2] := en
  obtain ⟨es, m3, h3, le, ok, er⟩ := record_eq (M := [m2]) (h := 0) (by simp) (nop1 h2) h2 nd (by omega) (by omega) (lim := 7) (by decide)
  have er' : g__law_record [.ptr 0, .lst (ns.map D.str), .int 7] [m2] = .ok (.lst (es.map encE)) [m3] := er
  obtain ⟨d, ad, ed⟩ := due_ans (nop1 h3) (dk_of ok (by omega) le)
  have bl : bList [.lst (es.map encE)] [m3] = .ok (.lst (es.map encE)) [m3] := rfl
  have ag := again_loop (sc := sc) (tn := tn) h3 hn (by omega) ok le ad
  obtain ⟨o, m4, h4, el⟩ := longer_eq (sc := sc) (tn := tn) h3 nd (by omega) (by omega) ok le ad
  refine ⟨m4, [some sc, some (.ptr 0), some tn, some (.lst (ns.map D.str)), some (.lst (es.map encE)), some d, some (.lst (es.map encE)), none, o], h4, ?_, ?_⟩
  · unfold b_law_7
    simp only [kSeq_ap, kAsg_ap, eCall_ap, aCons_ap, eVar_ap, List.getElem?_cons_succ, List.getElem?_cons_zero, vR_some, c1_ok, e2_ap, eC_ap, s2_ok, s3_ok, aNil_ap, c2_ok, cR_ok, e1', fAdd_i, i2, en', asR_ok, gN_ap, stR_ok, thn_nx, List.set_cons_succ, List.set_cons_zero, er', kPar_ap, ed, bl]
    simp only [prR_ok, thn_nx, List.set_cons_succ, List.set_cons_zero]
    rw [kSeq_ap, ag, thn_nx, el]
  · rfl
end
theorem main_law (ns : List Int) (h : ns.length ≤ 63) : ∃ M, g_law [.lst (ns.map D.int)] [] = .ok (.bl true) M := by
  obtain ⟨mo, hm, eh⟩ := hand_eq ns h
  have turns : ∀ (l : List D) (mo : MO), Hand mo → ∃ mo', Hand mo' ∧ forL (Its.gd ⟨[.int 0, .int 1, .int 2], none⟩) (gN 2) b_law_7 [2, 3, 4, 5, 6, 7, 8] l [some (.lst (ns.map D.int)), some (.ptr 0), none, none, none, none, none, none, none] [mo] = .nx [some (.lst (ns.map D.int)), some (.ptr 0), none, none, none, none, none, none, none] [mo'] := by
    intro l
    induction l with
    | nil => exact fun mo hm => ⟨mo, hm, forL_end trivial⟩
    | cons d r ih =>
      intro mo hm
      obtain ⟨m1, S2, h1, e1, k1⟩ := turn_eq (sc := .lst (ns.map D.int)) (tn := d) hm
      obtain ⟨m2, h2, e2⟩ := ih m1 h1
      refine ⟨m2, h2, ?_⟩
      rw [forL_step (S1 := [some (.lst (ns.map D.int)), some (.ptr 0), some d, none, none, none, none, none, none]) (M1 := [mo]) trivial (by simp), e1]
      show forL (Its.gd ⟨[.int 0, .int 1, .int 2], none⟩) _ _ _ r (kl [2, 3, 4, 5, 6, 7, 8] S2) _ = _
      rw [k1, e2]
  obtain ⟨m2, h2, e2⟩ := turns [.int 0, .int 1, .int 2] mo hm
  obtain ⟨d, ad, ed⟩ := first_ans (es := []) (ns := []) (nop1 h2) ⟨by decide, by decide, fun x hx => by cases hx⟩
  rw [ans_uniq ad (.inl ⟨rfl, cb_nil⟩)] at ed
  have t8 : t_law_8 [some (.lst (ns.map D.int)), some (.ptr 0), none, none, none, none, none, none, none] [mo] = .nx [some (.lst (ns.map D.int)), some (.ptr 0), none, none, none, none, none, none, none] [m2] := by
    unfold t_law_8
    rw [kFor_ap, iRange1_ap]
    simp only [aCons_ap, eC_ap, c1_ok, aNil_ap, c2_ok]
    rw [i1R_ok (by decide) (by decide), foR_ok]
    exact e2
  have ed' : g_first_bad [.lst []] [m2] = .ok .non [m2] := ed
  unfold g_law
  rw [runF_ap (show [D.lst (ns.map D.int)].length = 1 from rfl)]
  unfold t_law
  simp only [List.map_cons, List.map_nil, List.replicate, List.cons_append, List.nil_append, kSeq_ap, kAsg_ap, eCall_ap, aCons_ap, eVar_ap, List.getElem?_cons_succ, List.getElem?_cons_zero, vR_some, c1_ok, aNil_ap, c2_ok, cR_ok, eh, asR_ok, gN_ap, stR_ok, thn_nx, List.set_cons_succ, List.set_cons_zero, t8, kRet_ap, e2_ap, eLst_ap, lsR_0, ed', s2_ok, eC_ap, s3_ok, fIs0_n, rtR_ok, fnR_rt]
  refine ⟨[m2].take 0, ?_⟩
  rfl
end QL
end
section
set_option Elab.async false
set_option linter.all false
set_option maxRecDepth 100000
set_option maxHeartbeats 4000000
set_option autoImplicit false
namespace QL
open PySem PySem.Spec L2
theorem ok_law {P : Program} {w : World} {K : PySem.W.Frag} {mg : Str → Option Value} {base : Heap} {f : Addr} {fd : FuncData} (T : Tx K mg) (F : Fun K "law" "law" s_law f fd) : FnOk P w K mg base (L2.CX P w) 6 f fd ["_law_script"] (spF ⟨K, mg⟩ g_law) :=
  okQ F sc_law rfl fun cdv A outer s H E hr => (qs_cons (qset (i := 1) sc_law.nd rfl (qcall (q__law_hand T) (hr.mono (by decide)) takesQ (by rfl) (qa_cons (qv 0) qa_nil)))
    (qs_cons (qfor (vs := [2, 3, 4, 5, 6, 7, 8]) passesQ rfl (qi_range1 (by rfl) T.b_range (qa_cons qint qa_nil)) (qg_name (i := 2) sc_law.nd rfl) (qs_cons (qset (i := 3) sc_law.nd rfl (qcall (q__law_names T) (hr.mono (by decide)) takesQ (by rfl) (qa_cons (qv 1) (qa_cons (qadd qint (qcall (q__law_draw T) (hr.mono (by decide)) takesQ (by rfl) (qa_cons (qv 1) (qa_cons qint qa_nil)))) qa_nil))))
    (qs_cons (qset (i := 4) sc_law.nd rfl (qcall (q__law_record T) (hr.mono (by decide)) takesQ (by rfl) (qa_cons (qv 1) (qa_cons (qv 3) (qa_cons qint qa_nil)))))
    (qs_cons (qpar (i := 5) (j := 6) rfl sc_law.nd rfl rfl (by decide) (qa_cons (qcall (q__law_due T) (hr.mono (by decide)) takesQ (by rfl) (qa_cons (qv 4) qa_nil)) (qa_cons (qlist (by rfl) T.b_list (qa_cons (qv 4) qa_nil)) qa_nil)))
    (qs_cons (qfor (vs := [7]) passesQ rfl (qi_range1 (by rfl) T.b_range (qa_cons qint qa_nil)) (qg_name (i := 7) sc_law.nd rfl) (qs_one (qif (qt_w (qw_or (qt_not (qt_val (qcall (q__law_alike T) (hr.mono (by decide)) takesQ (by rfl) (qa_cons (qcall (q_first_bad T) (hr.mono (by decide)) takesQ (by rfl) (qa_cons (qv 6) qa_nil)) (qa_cons (qv 5) qa_nil))))) (qw_or1 (tNe hr.units (qv 6) (qv 4))))) (qs_one (qret qbl)) qs_nil)))
    (qs_one (qif (tisnot (qv 5) qnon) (qs_cons (qset (i := 8) sc_law.nd rfl (qadd (qv 4) (qcall (q__law_record T) (hr.mono (by decide)) takesQ (by rfl) (qa_cons (qv 1) (qa_cons (qv 3) (qa_cons qint qa_nil))))))
    (qs_cons (qif (qt_w (qw_or (qt_not (qt_val (qcall (q__law_alike T) (hr.mono (by decide)) takesQ (by rfl) (qa_cons (qcall (q_first_bad T) (hr.mono (by decide)) takesQ (by rfl) (qa_cons (qv 8) qa_nil)) (qa_cons (qv 5) qa_nil))))) (qw_or1 (qt_not (qt_val (qcall (q__law_alike T) (hr.mono (by decide)) takesQ (by rfl) (qa_cons (qcall (q_first_bad T) (hr.mono (by decide)) takesQ (by rfl) (qa_cons (qsl (qv 4) qo_none (qo_some (qadd (qv 5) qint))) qa_nil)) (qa_cons (qv 5) qa_nil)))))))) (qs_one (qret qbl)) qs_nil)
    (qs_one (qif (tisnot (qcall (q_first_bad T) (hr.mono (by decide)) takesQ (by rfl) (qa_cons (qsl (qv 4) qo_none (qo_some (qv 5))) qa_nil)) qnon) (qs_one (qret qbl)) qs_nil)))) qs_nil)))))))
    (qs_one (qret (qis (qcall (q_first_bad T) (hr.mono (by decide)) takesQ (by rfl) (qa_cons (qlst qa_nil) qa_nil)) qnon)))))
theorem all_mk {l : PySem.W.OpenLaw} {w : World} {K : PySem.W.Frag} {h : Heap} {mg : Str → Option Value} {fa f0 f1 f2 f3 f4 f5 f6 f7 f8 f9 f10 f11 f12 f13 f14 f15 f16 f17 : Addr} (X : K.In h) (G : h.Ns mainGlobals mg) (hfa : mg "law" = some (.ref fa))
    {od0 an0 od1 an1 od2 an2 od3 an3 od4 an4 od5 an5 od6 an6 od7 an7 od8 an8 od9 an9 od10 an10 od11 an11 od12 an12 od13 an13 od14 an14 od15 an15 od16 an16 od17 an17 : Option Addr} {sl0 sl1 sl2 sl3 sl4 sl5 sl6 sl7 sl8 sl9 sl10 sl11 sl12 sl13 sl14 sl15 sl16 sl17 : Array (Option Value)} {oc0 kV0 dc0 pm0 cd0 ct0 oc1 kV1 dc1 pm1 cd1 ct1 oc2 kV2 dc2 pm2 cd2 ct2 oc3 kV3 dc3 pm3 cd3 ct3 oc4 kV4 dc4 pm4 cd4 ct4 oc5 kV5 dc5 pm5 cd5 ct5 oc6 kV6 dc6 pm6 cd6 ct6 oc7 kV7 dc7 pm7 cd7 ct7 oc8 kV8 dc8 pm8 cd8 ct8 oc9 kV9 dc9 pm9 cd9 ct9 oc10 kV10 dc10 pm10 cd10 ct10 oc11 kV11 dc11 pm11 cd11 ct11 oc12 kV12 dc12 pm12 cd12 ct12 oc13 kV13 dc13 pm13 cd13 ct13 oc14 kV14 dc14 pm14 cd14 ct14 oc15 kV15 dc15 pm15 cd15 ct15 oc16 kV16 dc16 pm16 cd16 ct16 oc17 kV17 dc17 pm17 cd17 ct17 : Value}
    (a0 : PySem.W.nsIn K mainGlobals "_law_hand" = some (some (.ref f0))) (l0 : K.lookup f0 = some ⟨oc0, od0, .func (PySem.W.fnOf "_law_hand" "_law_hand" (defArgs s__law_hand) (defBody s__law_hand) (defScope s__law_hand) .none kV0 dc0 pm0 an0 cd0 ct0), sl0⟩) (c0 : PySem.W.codeIn K cd0 "_law_hand" = true) (k0 : PySem.W.keepIn K (.ref f0) = true)
    (a1 : PySem.W.nsIn K mainGlobals "_law_step" = some (some (.ref f1))) (l1 : K.lookup f1 = some ⟨oc1, od1, .func (PySem.W.fnOf "_law_step" "_law_step" (defArgs s__law_step) (defBody s__law_step) (defScope s__law_step) .none kV1 dc1 pm1 an1 cd1 ct1), sl1⟩) (c1 : PySem.W.codeIn K cd1 "_law_step" = true) (k1 : PySem.W.keepIn K (.ref f1) = true)
    (a2 : PySem.W.nsIn K mainGlobals "_law_take" = some (some (.ref f2))) (l2 : K.lookup f2 = some ⟨oc2, od2, .func (PySem.W.fnOf "_law_take" "_law_take" (defArgs s__law_take) (defBody s__law_take) (defScope s__law_take) .none kV2 dc2 pm2 an2 cd2 ct2), sl2⟩) (c2 : PySem.W.codeIn K cd2 "_law_take" = true) (k2 : PySem.W.keepIn K (.ref f2) = true)
    (a3 : PySem.W.nsIn K mainGlobals "_law_draw" = some (some (.ref f3))) (l3 : K.lookup f3 = some ⟨oc3, od3, .func (PySem.W.fnOf "_law_draw" "_law_draw" (defArgs s__law_draw) (defBody s__law_draw) (defScope s__law_draw) .none kV3 dc3 pm3 an3 cd3 ct3), sl3⟩) (c3 : PySem.W.codeIn K cd3 "_law_draw" = true) (k3 : PySem.W.keepIn K (.ref f3) = true)
    (a4 : PySem.W.nsIn K mainGlobals "_law_names" = some (some (.ref f4))) (l4 : K.lookup f4 = some ⟨oc4, od4, .func (PySem.W.fnOf "_law_names" "_law_names" (defArgs s__law_names) (defBody s__law_names) (defScope s__law_names) .none kV4 dc4 pm4 an4 cd4 ct4), sl4⟩) (c4 : PySem.W.codeIn K cd4 "_law_names" = true) (k4 : PySem.W.keepIn K (.ref f4) = true)
    (a5 : PySem.W.nsIn K mainGlobals "_law_two" = some (some (.ref f5))) (l5 : K.lookup f5 = some ⟨oc5, od5, .func (PySem.W.fnOf "_law_two" "_law_two" (defArgs s__law_two) (defBody s__law_two) (defScope s__law_two) .none kV5 dc5 pm5 an5 cd5 ct5), sl5⟩) (c5 : PySem.W.codeIn K cd5 "_law_two" = true) (k5 : PySem.W.keepIn K (.ref f5) = true)
    (a6 : PySem.W.nsIn K mainGlobals "_law_record" = some (some (.ref f6))) (l6 : K.lookup f6 = some ⟨oc6, od6, .func (PySem.W.fnOf "_law_record" "_law_record" (defArgs s__law_record) (defBody s__law_record) (defScope s__law_record) .none kV6 dc6 pm6 an6 cd6 ct6), sl6⟩) (c6 : PySem.W.codeIn K cd6 "_law_record" = true) (k6 : PySem.W.keepIn K (.ref f6) = true)
    (a7 : PySem.W.nsIn K mainGlobals "end_of" = some (some (.ref f7))) (l7 : K.lookup f7 = some ⟨oc7, od7, .func (PySem.W.fnOf "end_of" "end_of" (defArgs s_end_of) (defBody s_end_of) (defScope s_end_of) .none kV7 dc7 pm7 an7 cd7 ct7), sl7⟩) (c7 : PySem.W.codeIn K cd7 "end_of" = true) (k7 : PySem.W.keepIn K (.ref f7) = true)
    (a8 : PySem.W.nsIn K mainGlobals "players_of" = some (some (.ref f8))) (l8 : K.lookup f8 = some ⟨oc8, od8, .func (PySem.W.fnOf "players_of" "players_of" (defArgs s_players_of) (defBody s_players_of) (defScope s_players_of) .none kV8 dc8 pm8 an8 cd8 ct8), sl8⟩) (c8 : PySem.W.codeIn K cd8 "players_of" = true) (k8 : PySem.W.keepIn K (.ref f8) = true)
    (a9 : PySem.W.nsIn K mainGlobals "least_tickets" = some (some (.ref f9))) (l9 : K.lookup f9 = some ⟨oc9, od9, .func (PySem.W.fnOf "least_tickets" "least_tickets" (defArgs s_least_tickets) (defBody s_least_tickets) (defScope s_least_tickets) .none kV9 dc9 pm9 an9 cd9 ct9), sl9⟩) (c9 : PySem.W.codeIn K cd9 "least_tickets" = true) (k9 : PySem.W.keepIn K (.ref f9) = true)
    (a10 : PySem.W.nsIn K mainGlobals "can_be" = some (some (.ref f10))) (l10 : K.lookup f10 = some ⟨oc10, od10, .func (PySem.W.fnOf "can_be" "can_be" (defArgs s_can_be) (defBody s_can_be) (defScope s_can_be) .none kV10 dc10 pm10 an10 cd10 ct10), sl10⟩) (c10 : PySem.W.codeIn K cd10 "can_be" = true) (k10 : PySem.W.keepIn K (.ref f10) = true)
    (a11 : PySem.W.nsIn K mainGlobals "first_bad" = some (some (.ref f11))) (l11 : K.lookup f11 = some ⟨oc11, od11, .func (PySem.W.fnOf "first_bad" "first_bad" (defArgs s_first_bad) (defBody s_first_bad) (defScope s_first_bad) .none kV11 dc11 pm11 an11 cd11 ct11), sl11⟩) (c11 : PySem.W.codeIn K cd11 "first_bad" = true) (k11 : PySem.W.keepIn K (.ref f11) = true)
    (a12 : PySem.W.nsIn K mainGlobals "_law_seen" = some (some (.ref f12))) (l12 : K.lookup f12 = some ⟨oc12, od12, .func (PySem.W.fnOf "_law_seen" "_law_seen" (defArgs s__law_seen) (defBody s__law_seen) (defScope s__law_seen) .none kV12 dc12 pm12 an12 cd12 ct12), sl12⟩) (c12 : PySem.W.codeIn K cd12 "_law_seen" = true) (k12 : PySem.W.keepIn K (.ref f12) = true)
    (a13 : PySem.W.nsIn K mainGlobals "_law_end" = some (some (.ref f13))) (l13 : K.lookup f13 = some ⟨oc13, od13, .func (PySem.W.fnOf "_law_end" "_law_end" (defArgs s__law_end) (defBody s__law_end) (defScope s__law_end) .none kV13 dc13 pm13 an13 cd13 ct13), sl13⟩) (c13 : PySem.W.codeIn K cd13 "_law_end" = true) (k13 : PySem.W.keepIn K (.ref f13) = true)
    (a14 : PySem.W.nsIn K mainGlobals "_law_all_starts" = some (some (.ref f14))) (l14 : K.lookup f14 = some ⟨oc14, od14, .func (PySem.W.fnOf "_law_all_starts" "_law_all_starts" (defArgs s__law_all_starts) (defBody s__law_all_starts) (defScope s__law_all_starts) .none kV14 dc14 pm14 an14 cd14 ct14), sl14⟩) (c14 : PySem.W.codeIn K cd14 "_law_all_starts" = true) (k14 : PySem.W.keepIn K (.ref f14) = true)
    (a15 : PySem.W.nsIn K mainGlobals "_law_due" = some (some (.ref f15))) (l15 : K.lookup f15 = some ⟨oc15, od15, .func (PySem.W.fnOf "_law_due" "_law_due" (defArgs s__law_due) (defBody s__law_due) (defScope s__law_due) .none kV15 dc15 pm15 an15 cd15 ct15), sl15⟩) (c15 : PySem.W.codeIn K cd15 "_law_due" = true) (k15 : PySem.W.keepIn K (.ref f15) = true)
    (a16 : PySem.W.nsIn K mainGlobals "_law_alike" = some (some (.ref f16))) (l16 : K.lookup f16 = some ⟨oc16, od16, .func (PySem.W.fnOf "_law_alike" "_law_alike" (defArgs s__law_alike) (defBody s__law_alike) (defScope s__law_alike) .none kV16 dc16 pm16 an16 cd16 ct16), sl16⟩) (c16 : PySem.W.codeIn K cd16 "_law_alike" = true) (k16 : PySem.W.keepIn K (.ref f16) = true)
    (a17 : PySem.W.nsIn K mainGlobals "law" = some (some (.ref f17))) (l17 : K.lookup f17 = some ⟨oc17, od17, .func (PySem.W.fnOf "law" "law" (defArgs s_law) (defBody s_law) (defScope s_law) .none kV17 dc17 pm17 an17 cd17 ct17), sl17⟩) (c17 : PySem.W.codeIn K cd17 "law" = true) (k17 : PySem.W.keepIn K (.ref f17) = true)
    (z_abs : PySem.W.nsIn K mainGlobals "abs" = some none)
    (z_dict : PySem.W.nsIn K mainGlobals "dict" = some none)
    (z_int : PySem.W.nsIn K mainGlobals "int" = some none)
    (z_len : PySem.W.nsIn K mainGlobals "len" = some none)
    (z_list : PySem.W.nsIn K mainGlobals "list" = some none)
    (z_max : PySem.W.nsIn K mainGlobals "max" = some none)
    (z_range : PySem.W.nsIn K mainGlobals "range" = some none)
    (z_repr : PySem.W.nsIn K mainGlobals "repr" = some none)
    (z_set : PySem.W.nsIn K mainGlobals "set" = some none)
    (z_sorted : PySem.W.nsIn K mainGlobals "sorted" = some none)
    : ∃ fd : FuncData, (∀ (s : Shared) (v : Value), BindsTo s fd ⟨[v], []⟩ [("_law_script", v)]) ∧ ∀ base : Heap, K.In base → base.Ns mainGlobals mg → FnOk l.prog w K mg base (L2.CX l.prog w) 6 fa fd ["_law_script"] (spF ⟨K, mg⟩ g_law) := by
  have e := hfa.symm.trans (PySem.W.mg_of X G a17)
  have e2 : f17 = fa := by cases e; rfl
  subst e2
  have T : Tx K mg := ⟨PySem.W.mg_none_of X G z_abs, PySem.W.mg_none_of X G z_dict, PySem.W.mg_none_of X G z_int, PySem.W.mg_none_of X G z_len, PySem.W.mg_none_of X G z_list, PySem.W.mg_none_of X G z_max, PySem.W.mg_none_of X G z_range, PySem.W.mg_none_of X G z_repr, PySem.W.mg_none_of X G z_set, PySem.W.mg_none_of X G z_sorted, ⟨f0, _, PySem.W.mg_of X G a0, fun_mk (st := s__law_hand) l0 c0 k0, (fun_mk (st := s__law_hand) l0 c0 k0).binds (ps := ["_law_script"]) fun _ _ _ _ _ _ us hl => match us, hl with | [_], _ => rfl⟩, ⟨f1, _, PySem.W.mg_of X G a1, fun_mk (st := s__law_step) l1 c1 k1, (fun_mk (st := s__law_step) l1 c1 k1).binds (ps := ["_law_hand_here"]) fun _ _ _ _ _ _ us hl => match us, hl with | [_], _ => rfl⟩, ⟨f2, _, PySem.W.mg_of X G a2, fun_mk (st := s__law_take) l2 c2 k2, (fun_mk (st := s__law_take) l2 c2 k2).binds (ps := ["_law_hand_here"]) fun _ _ _ _ _ _ us hl => match us, hl with | [_], _ => rfl⟩, ⟨f3, _, PySem.W.mg_of X G a3, fun_mk (st := s__law_draw) l3 c3 k3, (fun_mk (st := s__law_draw) l3 c3 k3).binds (ps := ["_law_hand_here", "_law_tally"]) fun _ _ _ _ _ _ us hl => match us, hl with | [_, _], _ => rfl⟩, ⟨f4, _, PySem.W.mg_of X G a4, fun_mk (st := s__law_names) l4 c4 k4, (fun_mk (st := s__law_names) l4 c4 k4).binds (ps := ["_law_hand_here", "_law_many"]) fun _ _ _ _ _ _ us hl => match us, hl with | [_, _], _ => rfl⟩, ⟨f5, _, PySem.W.mg_of X G a5, fun_mk (st := s__law_two) l5 c5 k5, (fun_mk (st := s__law_two) l5 c5 k5).binds (ps := ["_law_hand_here", "_law_names_here"]) fun _ _ _ _ _ _ us hl => match us, hl with | [_, _], _ => rfl⟩, ⟨f6, _, PySem.W.mg_of X G a6, fun_mk (st := s__law_record) l6 c6 k6, (fun_mk (st := s__law_record) l6 c6 k6).binds (ps := ["_law_hand_here", "_law_names_here", "_law_limit"]) fun _ _ _ _ _ _ us hl => match us, hl with | [_, _, _], _ => rfl⟩, ⟨f7, _, PySem.W.mg_of X G a7, fun_mk (st := s_end_of) l7 c7 k7, (fun_mk (st := s_end_of) l7 c7 k7).binds (ps := ["record", "tickets"]) fun _ _ _ _ _ _ us hl => match us, hl with | [_, _], _ => rfl⟩, ⟨f8, _, PySem.W.mg_of X G a8, fun_mk (st := s_players_of) l8 c8 k8, (fun_mk (st := s_players_of) l8 c8 k8).binds (ps := ["record"]) fun _ _ _ _ _ _ us hl => match us, hl with | [_], _ => rfl⟩, ⟨f9, _, PySem.W.mg_of X G a9, fun_mk (st := s_least_tickets) l9 c9 k9, (fun_mk (st := s_least_tickets) l9 c9 k9).binds (ps := ["record"]) fun _ _ _ _ _ _ us hl => match us, hl with | [_], _ => rfl⟩, ⟨f10, _, PySem.W.mg_of X G a10, fun_mk (st := s_can_be) l10 c10 k10, (fun_mk (st := s_can_be) l10 c10 k10).binds (ps := ["record"]) fun _ _ _ _ _ _ us hl => match us, hl with | [_], _ => rfl⟩, ⟨f11, _, PySem.W.mg_of X G a11, fun_mk (st := s_first_bad) l11 c11 k11, (fun_mk (st := s_first_bad) l11 c11 k11).binds (ps := ["record"]) fun _ _ _ _ _ _ us hl => match us, hl with | [_], _ => rfl⟩, ⟨f12, _, PySem.W.mg_of X G a12, fun_mk (st := s__law_seen) l12 c12 k12, (fun_mk (st := s__law_seen) l12 c12 k12).binds (ps := ["_law_record_here"]) fun _ _ _ _ _ _ us hl => match us, hl with | [_], _ => rfl⟩, ⟨f13, _, PySem.W.mg_of X G a13, fun_mk (st := s__law_end) l13 c13 k13, (fun_mk (st := s__law_end) l13 c13 k13).binds (ps := ["_law_record_here", "_law_tickets"]) fun _ _ _ _ _ _ us hl => match us, hl with | [_, _], _ => rfl⟩, ⟨f14, _, PySem.W.mg_of X G a14, fun_mk (st := s__law_all_starts) l14 c14 k14, (fun_mk (st := s__law_all_starts) l14 c14 k14).binds (ps := ["_law_record_here"]) fun _ _ _ _ _ _ us hl => match us, hl with | [_], _ => rfl⟩, ⟨f15, _, PySem.W.mg_of X G a15, fun_mk (st := s__law_due) l15 c15 k15, (fun_mk (st := s__law_due) l15 c15 k15).binds (ps := ["_law_record_here"]) fun _ _ _ _ _ _ us hl => match us, hl with | [_], _ => rfl⟩, ⟨f16, _, PySem.W.mg_of X G a16, fun_mk (st := s__law_alike) l16 c16 k16, (fun_mk (st := s__law_alike) l16 c16 k16).binds (ps := ["_law_found", "_law_due_here"]) fun _ _ _ _ _ _ us hl => match us, hl with | [_, _], _ => rfl⟩, ⟨f17, _, PySem.W.mg_of X G a17, fun_mk (st := s_law) l17 c17 k17, (fun_mk (st := s_law) l17 c17 k17).binds (ps := ["_law_script"]) fun _ _ _ _ _ _ us hl => match us, hl with | [_], _ => rfl⟩⟩
  exact ⟨PySem.W.fnOf "law" "law" (defArgs s_law) (defBody s_law) (defScope s_law) .none kV17 dc17 pm17 an17 cd17 ct17, fun s v => .of_eq rfl, fun base _ _ => ok_law T (fun_mk (st := s_law) l17 c17 k17)⟩
/-- the start: the script stands in the heap, nothing else is known -/
theorem start_ok {K : PySem.W.Frag} {mg : Str → Option Value} {H : Hp} {a : Addr} {ns : List Int} (hS : SqL K H a (ns.map V.int)) {M : Mem} (e : g_law [.lst (ns.map D.int)] [] = .ok (.bl true) M) : spF ⟨K, mg⟩ g_law [.ref a] H (fun v _ => v = .bl true) fun _ _ _ => False := by
  have q : ∀ ms : List Int, DVs ⟨K, mg⟩ ⟨H, [], []⟩ (ms.map D.int) (ms.map V.int) := fun ms => by
    induction ms with
    | nil => exact rfl
    | cons m r ih => exact ⟨_, _, rfl, rfl, ih⟩
  refine ⟨⟨H, [], []⟩, [.lst (ns.map D.int)], [], ⟨fun _ _ h => .inl h, rfl, List.nodup_nil, fun k mo b h => by simp at h, fun k mo b h => by simp at h, fun b h => by simp at h, fun p h => by simp at h⟩, DVs.one ⟨a, _, rfl, hS, q ns⟩, ?_⟩
  rw [e]
  exact fun G v H2 _ _ z => z
theorem walk_law (main : ∀ ns : List Int, ns.length ≤ 63 → ∃ M, g_law [.lst (ns.map D.int)] [] = .ok (.bl true) M) {l : PySem.W.OpenLaw} {q : Program} {loose : List Str} {XP : (Str → Option Value) → Heap → Prop} {YP : World → Heap → Prop} {d : DefRec} {K : Params → PySem.W.Frag} (hn : l.most = some 63) (hdf : d.params.defaults = [])
    (hY : ∀ (w : World) (h : Heap), YP w h → (K w.params).In h)
    (F : ∀ (w : World) (mg : Str → Option Value) (fa : Addr) (h : Heap), (K w.params).In h → h.Ns mainGlobals mg → mg d.name = some (.ref fa) → ∃ fd : FuncData, (∀ (s : Shared) (u : Value), BindsTo s fd ⟨[u], []⟩ [("_law_script", u)]) ∧ ∀ base : Heap, (K w.params).In base → base.Ns mainGlobals mg → FnOk l.prog w (K w.params) mg base (L2.CX l.prog w) 6 fa fd ["_law_script"] (spF ⟨K w.params, mg⟩ g_law)) :
    PySem.W.WalkO q loose XP YP l.row.toRowW d [] (fun f vs => PySem.call f vs) := by
  refine Att.attach_call hn hdf fun w s0 s1 mg mb fa o pm cd doc a vs ns G Y ho hd hcd hmg hobj hints hlen hg => ?_
  have KX := hY w _ Y
  obtain ⟨fd, hb, hF⟩ := F w mg fa _ KX G.T.g hmg
  obtain ⟨M, e⟩ := main ns hlen
  exact law_call KX G.T.g G.T.b G.T.builtins G.T.nolimit hg hobj hints (Nat.le_trans hlen (by decide)) (⟨rfl, by decide, by decide⟩ : Room 6 callerA) hF hb (fun H hO hS => start_ok hS e) fun H u s2 ⟨_, _, _, _, _, _, _, _, _, _, _, _, z⟩ => z
end QL
open PySem PySem.W PyProof.Rows in
set_option maxRecDepth 100000 in
set_option maxHeartbeats 0 in
theorem PySem.Challenge.cw_eitherpays_k87_first_bad_events_holds : PySem.Challenge.rw_eitherpays_k87_first_bad_events.Holds := by
  w_on; o_law; k_head; (case hw => w_witness2)
  k_fill
  refine QL.walk_law QL.main_law (l := PySem.Challenge.rw_eitherpays_k87_first_bad_events) rfl rfl (fun w h Y => PySem.W.kIn_of Y) ?F
  case F =>
    intro w mg fa h KX G hmg
    refine' QL.all_mk KX G hmg ?a0 ?l0 ?c0 ?k0 ?a1 ?l1 ?c1 ?k1 ?a2 ?l2 ?c2 ?k2 ?a3 ?l3 ?c3 ?k3 ?a4 ?l4 ?c4 ?k4 ?a5 ?l5 ?c5 ?k5 ?a6 ?l6 ?c6 ?k6 ?a7 ?l7 ?c7 ?k7 ?a8 ?l8 ?c8 ?k8 ?a9 ?l9 ?c9 ?k9 ?a10 ?l10 ?c10 ?k10 ?a11 ?l11 ?c11 ?k11 ?a12 ?l12 ?c12 ?k12 ?a13 ?l13 ?c13 ?k13 ?a14 ?l14 ?c14 ?k14 ?a15 ?l15 ?c15 ?k15 ?a16 ?l16 ?c16 ?k16 ?a17 ?l17 ?c17 ?k17 ?z_abs ?z_dict ?z_int ?z_len ?z_list ?z_max ?z_range ?z_repr ?z_set ?z_sorted
    (case a0 => k_is)
    (case l0 => k_is)
    (case c0 => k_is)
    (case k0 => k_is)
    (case a1 => k_is)
    (case l1 => k_is)
    (case c1 => k_is)
    (case k1 => k_is)
    (case a2 => k_is)
    (case l2 => k_is)
    (case c2 => k_is)
    (case k2 => k_is)
    (case a3 => k_is)
    (case l3 => k_is)
    (case c3 => k_is)
    (case k3 => k_is)
    (case a4 => k_is)
    (case l4 => k_is)
    (case c4 => k_is)
    (case k4 => k_is)
    (case a5 => k_is)
    (case l5 => k_is)
    (case c5 => k_is)
    (case k5 => k_is)
    (case a6 => k_is)
    (case l6 => k_is)
    (case c6 => k_is)
    (case k6 => k_is)
    (case a7 => k_is)
    (case l7 => k_is)
    (case c7 => k_is)
    (case k7 => k_is)
    (case a8 => k_is)
    (case l8 => k_is)
    (case c8 => k_is)
    (case k8 => k_is)
    (case a9 => k_is)
    (case l9 => k_is)
    (case c9 => k_is)
    (case k9 => k_is)
    (case a10 => k_is)
    (case l10 => k_is)
    (case c10 => k_is)
    (case k10 => k_is)
    (case a11 => k_is)
    (case l11 => k_is)
    (case c11 => k_is)
    (case k11 => k_is)
    (case a12 => k_is)
    (case l12 => k_is)
    (case c12 => k_is)
    (case k12 => k_is)
    (case a13 => k_is)
    (case l13 => k_is)
    (case c13 => k_is)
    (case k13 => k_is)
    (case a14 => k_is)
    (case l14 => k_is)
    (case c14 => k_is)
    (case k14 => k_is)
    (case a15 => k_is)
    (case l15 => k_is)
    (case c15 => k_is)
    (case k15 => k_is)
    (case a16 => k_is)
    (case l16 => k_is)
    (case c16 => k_is)
    (case k16 => k_is)
    (case a17 => k_is)
    (case l17 => k_is)
    (case c17 => k_is)
    (case k17 => k_is)
    (case z_abs => k_is)
    (case z_dict => k_is)
    (case z_int => k_is)
    (case z_len => k_is)
    (case z_list => k_is)
    (case z_max => k_is)
    (case z_range => k_is)
    (case z_repr => k_is)
    (case z_set => k_is)
    (case z_sorted => k_is)
end
