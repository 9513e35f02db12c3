import PyProof.Rows.All
import Wide.All
import OpenK.AllK
import Wide.FinOn
import HandS.ForMost
import HandS.Exc
import HandS.ExcOwn
import HandS.WordsExc
import HandS.CallSlots
import HandS.Iter
import HandS.Wide
import HandS.Flow
import HandS.IsInst
import HandS.Deep
import HandS.DictComp
import HandS.RaiseMore
import HandS.Text
import HandS.More
import HandS.SetTxt0
import HandS.SetFor
import HandS.Strs
import PyProof.DictUpdate
import PyProof.EvalArms
import PyProof.DictDisplay
import PyProof.ReprRoads
import PyProof.FitsInt
import PyProof.StrLawsRepr
import PyProof.Rows.DictTally
import HandS.Conv
import PyProof.NeKinds
import HandS.ExcIs
import HandS.ExcField
import HandS.ExcInit
import HandS.Style
import HandS.DictTup
import PySem.Challenge.RW_eitherpays_k13_purses_refused
import HandS.SortOrd
import HandS.SortRule
import KE.KDictLaw
section
set_option Elab.async false
set_option linter.all false
set_option maxRecDepth 100000
set_option maxHeartbeats 4000000
/-! QBase: data without a heap, what a piece of program does to them as a plain function, and the tie of both to the layer's readings. -/
namespace QL
open PySem PySem.Spec L2

/-! ### data -/
inductive D where
  | non | bl (b : Bool) | int (i : Int) | str (x : Str) | ptr (k : Nat) | raw (v : V)
  | tup (ds : List D) | lst (ds : List D)
  | dK (kvs : List (Key × D)) | dT (kvs : List (List Key × D))
  | obj (c : Str) (fs : List (Str × D))
  /-- a caught exception: at a, its dict at dd -/
  | exc (a dd : Addr) (c : Str) (fs : List (Str × D))
/-- what stands at a place of the store of things that may change -/
inductive MO where
  | lst (ds : List D) | dK (kvs : List (Key × D)) | dT (kvs : List (List Key × D)) | obj (c : Str) (fs : List (Str × D))
  | lkK (kvs : List (Key × D)) | lkT (kvs : List (List Key × D)) | gone
abbrev Mem := List MO
abbrev Sl := List (Option D)
structure Ex where
  c : Str
  fs : List (Str × D)
inductive Res (α : Type) where
  | ok (a : α) (M : Mem) | rz (x : Ex) (M : Mem) | bad
def Res.bind {α β : Type} (r : Res α) (k : α → Mem → Res β) : Res β := match r with
  | .ok a M => k a M
  | .rz x M => .rz x M
  | .bad => .bad
abbrev EF := Sl → Mem → Res D
abbrev BF := Sl → Mem → Res Bool
abbrev AF := Sl → Mem → Res (List D)
inductive SR where
  | nx (S : Sl) (M : Mem) | rt (d : D) (M : Mem) | bk (S : Sl) (M : Mem) | ct (S : Sl) (M : Mem) | rz (x : Ex) (S : Sl) (M : Mem) | bad
abbrev TF := Sl → Mem → SR

/-! ### what data stand for -/
structure Cn where
  K : PySem.W.Frag
  mg : Str → Option Value
structure Gd where
  F : Hp
  θ : List Addr
  /-- things of the layer's own (a list that a comprehension makes) -/
  P : List (Addr × HO)
mutual
def DV (c : Cn) (G : Gd) : D → V → Prop
  | .non, v => v = .non
  | .bl b, v => v = .bl b
  | .int i, v => v = .int i
  | .str x, v => v = .str x
  | .ptr k, v => ∃ a, G.θ[k]? = some a ∧ v = .ref a
  | .raw u, v => v = u
  | .tup ds, v => ∃ a vs, v = .ref a ∧ G.F a = some (.tup vs) ∧ DVs c G ds vs
  | .lst ds, v => ∃ a vs, v = .ref a ∧ SqL c.K G.F a vs ∧ DVs c G ds vs
  | .dK kvs, v => ∃ a ws o, v = .ref a ∧ G.F a = some (.frz o (.dK ws)) ∧ DVk c G kvs ws
  | .dT kvs, v => ∃ a ws o, v = .ref a ∧ G.F a = some (.frz o (.dT ws)) ∧ DVt c G kvs ws
  | .obj n fs, v => ∃ a C dx ws, v = .ref a ∧ G.F a = some (.ins C dx ws) ∧ c.mg n = some (.ref C) ∧ DVf c G fs ws
  | .exc a dd n fs, v => v = .ref a ∧ (∃ C, c.mg n = some (.ref C)) ∧ ∃ ws, G.F dd = some (.xd ws) ∧ DVf c G fs ws
def DVs (c : Cn) (G : Gd) : List D → List V → Prop
  | [], vs => vs = []
  | d :: r, vs => ∃ v t, vs = v :: t ∧ DV c G d v ∧ DVs c G r t
def DVk (c : Cn) (G : Gd) : List (Key × D) → List (Key × V) → Prop
  | [], vs => vs = []
  | d :: r, vs => ∃ v t, vs = v :: t ∧ DVk1 c G d v ∧ DVk c G r t
def DVk1 (c : Cn) (G : Gd) : Key × D → Key × V → Prop
  | (k, d), v => v.1 = k ∧ DV c G d v.2
def DVt (c : Cn) (G : Gd) : List (List Key × D) → List (List Key × V) → Prop
  | [], vs => vs = []
  | d :: r, vs => ∃ v t, vs = v :: t ∧ DVt1 c G d v ∧ DVt c G r t
def DVt1 (c : Cn) (G : Gd) : List Key × D → List Key × V → Prop
  | (k, d), v => v.1 = k ∧ DV c G d v.2
def DVf (c : Cn) (G : Gd) : List (Str × D) → List (Str × V) → Prop
  | [], vs => vs = []
  | d :: r, vs => ∃ v t, vs = v :: t ∧ DVf1 c G d v ∧ DVf c G r t
def DVf1 (c : Cn) (G : Gd) : Str × D → Str × V → Prop
  | (k, d), v => v.1 = k ∧ DV c G d v.2
end
/-- the ground has grown -/
structure Gr0 (G G' : Gd) : Prop where
  F : ∀ a u, G.F a = some u → G'.F a = some u
  θ : ∃ more, G'.θ = G.θ ++ more
structure Gr (G G' : Gd) : Prop extends Gr0 G G' where
  P : G'.P = G.P
theorem Gr0.refl (G : Gd) : Gr0 G G := ⟨fun _ _ h => h, [], (List.append_nil _).symm⟩
theorem Gr0.trans {G G1 G2 : Gd} (a : Gr0 G G1) (b : Gr0 G1 G2) : Gr0 G G2 :=
  ⟨fun x u h => b.F x u (a.F x u h), let ⟨m, e⟩ := a.θ; let ⟨m', e'⟩ := b.θ; ⟨m ++ m', by rw [e', e, List.append_assoc]⟩⟩
theorem Gr.refl (G : Gd) : Gr G G := ⟨Gr0.refl G, rfl⟩
theorem Gr.trans {G G1 G2 : Gd} (a : Gr G G1) (b : Gr G1 G2) : Gr G G2 := ⟨a.toGr0.trans b.toGr0, b.P.trans a.P⟩
theorem Gr0.at {G G' : Gd} (g : Gr0 G G') {k : Nat} {a : Addr} (h : G.θ[k]? = some a) : G'.θ[k]? = some a := by
  obtain ⟨m, e⟩ := g.θ
  rw [e, List.getElem?_append_left (List.getElem?_eq_some_iff.mp h).1]
  exact h
theorem Gr0.rd {G G' : Gd} (g : Gr0 G G') {a : Addr} {u : HO} (h : Rd G.F a u) : Rd G'.F a u := by
  rcases h with h | ⟨o, h⟩
  · exact .inl (g.F _ _ h)
  · exact .inr ⟨o, g.F _ _ h⟩
theorem Gr0.sqL {c : Cn} {G G' : Gd} (g : Gr0 G G') {a : Addr} {xs : List V} (h : SqL c.K G.F a xs) : SqL c.K G'.F a xs := by
  rcases h with h | h
  · exact .inl (g.rd h)
  · exact .inr h
theorem Gr0.sqT {c : Cn} {G G' : Gd} (g : Gr0 G G') {a : Addr} {xs : List V} (h : SqT c.K G.F a xs) : SqT c.K G'.F a xs := by
  rcases h with h | h
  · exact .inl (g.rd h)
  · exact .inr h
theorem Gr.at {G G' : Gd} (g : Gr G G') {k : Nat} {a : Addr} (h : G.θ[k]? = some a) : G'.θ[k]? = some a := g.toGr0.at h
theorem Gr.sqL {c : Cn} {G G' : Gd} (g : Gr G G') {a : Addr} {xs : List V} (h : SqL c.K G.F a xs) : SqL c.K G'.F a xs := g.toGr0.sqL h
theorem Gr.sqT {c : Cn} {G G' : Gd} (g : Gr G G') {a : Addr} {xs : List V} (h : SqT c.K G.F a xs) : SqT c.K G'.F a xs := g.toGr0.sqT h
section
variable {c : Cn} {G G' : Gd}
mutual
theorem DV.mono0 (g : Gr0 G G') : ∀ {d : D} {v : V}, DV c G d v → DV c G' d v
  | .non, _, h => h
  | .bl _, _, h => h
  | .int _, _, h => h
  | .str _, _, h => h
  | .ptr _, _, h => let ⟨a, e, z⟩ := h; ⟨a, g.at e, z⟩
  | .raw _, _, h => h
  | .tup _, _, h => let ⟨a, vs, e, q, r⟩ := h; ⟨a, vs, e, g.F _ _ q, DVs.mono0 g r⟩
  | .lst _, _, h => let ⟨a, vs, e, q, r⟩ := h; ⟨a, vs, e, g.sqL q, DVs.mono0 g r⟩
  | .dK _, _, h => let ⟨a, vs, o, e, q, r⟩ := h; ⟨a, vs, o, e, g.F _ _ q, DVk.mono0 g r⟩
  | .dT _, _, h => let ⟨a, vs, o, e, q, r⟩ := h; ⟨a, vs, o, e, g.F _ _ q, DVt.mono0 g r⟩
  | .obj _ _, _, h => let ⟨a, C, dx, vs, e, q, m, r⟩ := h; ⟨a, C, dx, vs, e, g.F _ _ q, m, DVf.mono0 g r⟩
  | .exc _ _ _ _, _, h => let ⟨e, m, vs, q, r⟩ := h; ⟨e, m, vs, g.F _ _ q, DVf.mono0 g r⟩
theorem DVs.mono0 (g : Gr0 G G') : ∀ {ds : List D} {vs : List V}, DVs c G ds vs → DVs c G' ds vs
  | [], _, h => h
  | _ :: _, _, h => let ⟨v, t, e, q, r⟩ := h; ⟨v, t, e, DV.mono0 g q, DVs.mono0 g r⟩
theorem DVk.mono0 (g : Gr0 G G') : ∀ {ds : List (Key × D)} {vs : List (Key × V)}, DVk c G ds vs → DVk c G' ds vs
  | [], _, h => h
  | (_, _) :: _, _, h => let ⟨v, t, e, q, r⟩ := h; ⟨v, t, e, ⟨q.1, DV.mono0 g q.2⟩, DVk.mono0 g r⟩
theorem DVt.mono0 (g : Gr0 G G') : ∀ {ds : List (List Key × D)} {vs : List (List Key × V)}, DVt c G ds vs → DVt c G' ds vs
  | [], _, h => h
  | (_, _) :: _, _, h => let ⟨v, t, e, q, r⟩ := h; ⟨v, t, e, ⟨q.1, DV.mono0 g q.2⟩, DVt.mono0 g r⟩
theorem DVf.mono0 (g : Gr0 G G') : ∀ {ds : List (Str × D)} {vs : List (Str × V)}, DVf c G ds vs → DVf c G' ds vs
  | [], _, h => h
  | (_, _) :: _, _, h => let ⟨v, t, e, q, r⟩ := h; ⟨v, t, e, ⟨q.1, DV.mono0 g q.2⟩, DVf.mono0 g r⟩
end
theorem DV.mono (g : Gr G G') {d : D} {v : V} (h : DV c G d v) : DV c G' d v := h.mono0 g.toGr0
theorem DVs.mono (g : Gr G G') {d : List D} {v : List V} (h : DVs c G d v) : DVs c G' d v := h.mono0 g.toGr0
theorem DVk.mono (g : Gr G G') {d : List (Key × D)} {v : List (Key × V)} (h : DVk c G d v) : DVk c G' d v := h.mono0 g.toGr0
theorem DVt.mono (g : Gr G G') {d : List (List Key × D)} {v : List (List Key × V)} (h : DVt c G d v) : DVt c G' d v := h.mono0 g.toGr0
theorem DVf.mono (g : Gr G G') {d : List (Str × D)} {v : List (Str × V)} (h : DVf c G d v) : DVf c G' d v := h.mono0 g.toGr0
theorem DVs.length : ∀ {ds : List D} {vs : List V}, DVs c G ds vs → vs.length = ds.length
  | [], _, h => by
    cases (show _ = [] from h)
    rfl
  | _ :: _, _, h => by
    obtain ⟨v, t, e, q, r⟩ := h
    rw [e, List.length_cons, List.length_cons, DVs.length r]
theorem DVs.get : ∀ {ds : List D} {vs : List V} {i : Nat} {d : D}, DVs c G ds vs → ds[i]? = some d → ∃ v, vs[i]? = some v ∧ DV c G d v
  | [], _, _, _, _, h => by simp at h
  | _ :: _, _, 0, d, h, e => by
    obtain ⟨v, t, rfl, q, r⟩ := h
    have e' := Option.some.inj e
    subst e'
    exact ⟨v, rfl, q⟩
  | _ :: ds, _, i + 1, d, h, e => by
    obtain ⟨v, t, rfl, q, r⟩ := h
    exact DVs.get (ds := ds) (i := i) r e
theorem DVs.append : ∀ {ds es : List D} {vs us : List V}, DVs c G ds vs → DVs c G es us → DVs c G (ds ++ es) (vs ++ us)
  | [], _, _, _, h, k => by
    cases (show _ = [] from h)
    exact k
  | _ :: _, _, _, _, h, k => by
    obtain ⟨v, t, rfl, q, r⟩ := h
    exact ⟨v, t ++ _, rfl, q, DVs.append r k⟩
theorem DVs.one {d : D} {v : V} (h : DV c G d v) : DVs c G [d] [v] := ⟨v, [], rfl, h, rfl⟩
theorem DVs.cons {d : D} {v : V} {ds : List D} {vs : List V} (h : DV c G d v) (t : DVs c G ds vs) : DVs c G (d :: ds) (v :: vs) := ⟨v, vs, rfl, h, t⟩
end

/-! ### the store against the heap -/
def isD : HO → Bool
  | .dK _ => true
  | .dT _ => true
  | _ => false
def Fz (F H : Hp) : Prop := ∀ a u, F a = some u → H a = some u ∨ (isD u = true ∧ ∃ o, H a = some (.frz o u))
def MOk (c : Cn) (G : Gd) (H : Hp) : MO → Addr → Prop
  | .lst ds, a => ∃ vs, H a = some (.lst vs) ∧ DVs c G ds vs
  | .dK kvs, a => ∃ ws, H a = some (.dK ws) ∧ DVk c G kvs ws
  | .dT kvs, a => ∃ ws, H a = some (.dT ws) ∧ DVt c G kvs ws
  | .obj n fs, a => ∃ C dx ws, H a = some (.ins C dx ws) ∧ c.mg n = some (.ref C) ∧ DVf c G fs ws
  | .lkK kvs, a => ∃ ws o, G.F a = some (.frz o (.dK ws)) ∧ DVk c G kvs ws
  | .lkT kvs, a => ∃ ws o, G.F a = some (.frz o (.dT ws)) ∧ DVt c G kvs ws
  | .gone, _ => True
def MO.live : MO → Bool
  | .gone => false
  | .lkK _ => false
  | .lkT _ => false
  | _ => true
structure Rep (c : Cn) (G : Gd) (H : Hp) (M : Mem) : Prop where
  fz : Fz G.F H
  len : G.θ.length = M.length
  nd : G.θ.Nodup
  mem : ∀ (k : Nat) mo a, M[k]? = some mo → G.θ[k]? = some a → MOk c G H mo a
  sep : ∀ (k : Nat) mo a, M[k]? = some mo → G.θ[k]? = some a → mo.live = true → G.F a = none
  liv : ∀ a ∈ G.θ, ∃ u, H a = some u
  pin : ∀ p ∈ G.P, H p.1 = some p.2 ∧ G.F p.1 = none ∧ p.1 ∉ G.θ
section
variable {c : Cn} {G G' : Gd} {H H' : Hp} {M : Mem}
theorem MOk.mono0 (g : Gr0 G G') {mo : MO} {a : Addr} (h : MOk c G H mo a) : MOk c G' H mo a := by
  cases mo with
  | lst ds => obtain ⟨vs, e, r⟩ := h; exact ⟨vs, e, r.mono0 g⟩
  | dK ds => obtain ⟨vs, e, r⟩ := h; exact ⟨vs, e, r.mono0 g⟩
  | dT ds => obtain ⟨vs, e, r⟩ := h; exact ⟨vs, e, r.mono0 g⟩
  | obj n fs => obtain ⟨C, dx, vs, e, m, r⟩ := h; exact ⟨C, dx, vs, e, m, r.mono0 g⟩
  | lkK ds => obtain ⟨vs, o, e, r⟩ := h; exact ⟨vs, o, g.F _ _ e, r.mono0 g⟩
  | lkT ds => obtain ⟨vs, o, e, r⟩ := h; exact ⟨vs, o, g.F _ _ e, r.mono0 g⟩
  | gone => exact h
theorem MOk.mono (g : Gr G G') {mo : MO} {a : Addr} (h : MOk c G H mo a) : MOk c G' H mo a := h.mono0 g.toGr0
/-- what stands at a is the same there -/
theorem MOk.at {mo : MO} {a : Addr} (h : MOk c G H mo a) (e : H' a = H a) : MOk c G H' mo a := by
  cases mo with
  | lst ds => obtain ⟨vs, q, r⟩ := h; exact ⟨vs, e.trans q, r⟩
  | dK ds => obtain ⟨vs, q, r⟩ := h; exact ⟨vs, e.trans q, r⟩
  | dT ds => obtain ⟨vs, q, r⟩ := h; exact ⟨vs, e.trans q, r⟩
  | obj n fs => obtain ⟨C, dx, vs, q, m, r⟩ := h; exact ⟨C, dx, vs, e.trans q, m, r⟩
  | lkK ds => obtain ⟨vs, o, q, r⟩ := h; exact ⟨vs, o, q, r⟩
  | lkT ds => obtain ⟨vs, o, q, r⟩ := h; exact ⟨vs, o, q, r⟩
  | gone => exact h
theorem Fz.sqL (z : Fz G.F H) {a : Addr} {xs : List V} (h : SqL c.K G.F a xs) : SqL c.K H a xs := by
  rcases h with (h | ⟨o, h⟩) | h
  · rcases z _ _ h with q | ⟨q, _⟩
    · exact .inl (.inl q)
    · exact absurd q (by simp [isD])
  · rcases z _ _ h with q | ⟨q, _⟩
    · exact .inl (.inr ⟨o, q⟩)
    · exact absurd q (by simp [isD])
  · exact .inr h
theorem Fz.sqT (z : Fz G.F H) {a : Addr} {xs : List V} (h : SqT c.K G.F a xs) : SqT c.K H a xs := by
  rcases h with (h | ⟨o, h⟩) | h
  · rcases z _ _ h with q | ⟨q, _⟩
    · exact .inl (.inl q)
    · exact absurd q (by simp [isD])
  · rcases z _ _ h with q | ⟨q, _⟩
    · exact .inl (.inr ⟨o, q⟩)
    · exact absurd q (by simp [isD])
  · exact .inr h
theorem Fz.tup (z : Fz G.F H) {a : Addr} {xs : List V} (h : G.F a = some (.tup xs)) : H a = some (.tup xs) := by
  rcases z _ _ h with q | ⟨q, _⟩
  · exact q
  · exact absurd q (by simp [isD])
theorem Fz.rd (z : Fz G.F H) {a : Addr} {u : HO} (h : G.F a = some u) : Rd H a u := by
  rcases z _ _ h with q | ⟨_, o, q⟩
  · exact .inl q
  · exact .inr ⟨o, q⟩
theorem Fz.ins (z : Fz G.F H) {a C dx : Addr} {fs : List (Str × V)} (h : G.F a = some (.ins C dx fs)) : H a = some (.ins C dx fs) := by
  rcases z _ _ h with q | ⟨q, _⟩
  · exact q
  · exact absurd q (by simp [isD])
theorem Fz.free (z : Fz G.F H) {a : Addr} (h : H a = none) : G.F a = none := by
  cases q : G.F a with
  | none => rfl
  | some u =>
    rcases z _ _ q with e | ⟨_, o, e⟩
    · rw [h] at e; cases e
    · rw [h] at e; cases e
/-- a new thing that will not change -/
theorem Gr.newF {p : Addr} {o : HO} (h : G.F p = none) : Gr G { G with F := upd G.F p o } :=
  ⟨⟨fun a u e => by show upd G.F p o a = some u; rw [upd_ne (ne_of_none e h)]; exact e, [], (List.append_nil _).symm⟩, rfl⟩
theorem Rep.newF (r : Rep c G H M) {p : Addr} {o : HO} (hp : H p = none) : Rep c { G with F := upd G.F p o } (upd H p o) M := by
  have g : Gr G { G with F := upd G.F p o } := Gr.newF (r.fz.free hp)
  have np : ∀ a ∈ G.θ, a ≠ p := fun a ha e => by
    obtain ⟨u, q⟩ := r.liv a ha
    rw [e, hp] at q
    cases q
  refine ⟨fun a u e => ?_, r.len, r.nd, fun k mo a e1 e2 => ?_, fun k mo a e1 e2 l => ?_, fun a ha => ?_, fun q hq => ?_⟩
  · by_cases z : a = p
    · subst z
      have e' : upd G.F a o a = some u := e
      rw [upd_same] at e'
      exact .inl (by rw [upd_same]; exact e')
    · have e' : upd G.F p o a = some u := e
      rw [upd_ne z] at e'
      rw [upd_ne z]
      exact r.fz a u e'
  · exact ((r.mem k mo a e1 e2).mono g).at (upd_ne (np a (List.mem_of_getElem? e2)))
  · show upd G.F p o a = none
    rw [upd_ne (np a (List.mem_of_getElem? e2))]
    exact r.sep k mo a e1 e2 l
  · obtain ⟨u, q⟩ := r.liv a ha
    exact ⟨u, by rw [upd_ne (np a ha)]; exact q⟩
  · obtain ⟨h1, h2, h3⟩ := r.pin q hq
    have nq : q.1 ≠ p := ne_of_none h1 hp
    exact ⟨by rw [upd_ne nq]; exact h1, by show upd G.F p o q.1 = none; rw [upd_ne nq]; exact h2, h3⟩
/-- a new thing that may change -/
theorem Gr.newP (p : Addr) : Gr G { G with θ := G.θ ++ [p] } := ⟨⟨fun _ _ e => e, [p], rfl⟩, rfl⟩
theorem Rep.newP (r : Rep c G H M) {p : Addr} {o : HO} {mo : MO} (hp : H p = none) (hm : MOk c { G with θ := G.θ ++ [p] } (upd H p o) mo p) : Rep c { G with θ := G.θ ++ [p] } (upd H p o) (M ++ [mo]) := by
  have np : ∀ a ∈ G.θ, a ≠ p := fun a ha e => by
    obtain ⟨u, q⟩ := r.liv a ha
    rw [e, hp] at q
    cases q
  have gt : ∀ {k : Nat} {a : Addr} {x : MO}, (M ++ [mo])[k]? = some x → (G.θ ++ [p])[k]? = some a → (M[k]? = some x ∧ G.θ[k]? = some a) ∨ (x = mo ∧ a = p) := fun {k a x} e1 e2 => by
    by_cases hk : k < M.length
    · rw [List.getElem?_append_left hk] at e1
      rw [List.getElem?_append_left (by rw [r.len]; exact hk)] at e2
      exact .inl ⟨e1, e2⟩
    · have hk1 : M.length ≤ k := Nat.le_of_not_lt hk
      rw [List.getElem?_append_right hk1] at e1
      rw [List.getElem?_append_right (by rw [r.len]; exact hk1), r.len] at e2
      cases q : k - M.length with
      | zero =>
        rw [q] at e1 e2
        exact .inr ⟨(Option.some.inj e1).symm, (Option.some.inj e2).symm⟩
      | succ n =>
        rw [q] at e1
        simp at e1
  refine ⟨fun a u e => ?_, by simp [r.len], ?_, fun k x a e1 e2 => ?_, fun k x a e1 e2 l => ?_, fun a ha => ?_, fun q hq => ?_⟩
  · have e' : G.F a = some u := e
    have hn : a ≠ p := fun z => by
      rw [z, r.fz.free hp] at e'
      cases e'
    rw [upd_ne hn]
    exact r.fz a u e'
  · show (G.θ ++ [p]).Nodup
    rw [List.nodup_append]
    exact ⟨r.nd, by simp, fun a ha b hb => by rw [List.mem_singleton.mp hb]; exact np a ha⟩
  · rcases gt e1 e2 with ⟨q1, q2⟩ | ⟨rfl, rfl⟩
    · exact ((r.mem k x a q1 q2).mono (Gr.newP p)).at (upd_ne (np a (List.mem_of_getElem? q2)))
    · exact hm
  · rcases gt e1 e2 with ⟨q1, q2⟩ | ⟨rfl, rfl⟩
    · exact r.sep k x a q1 q2 l
    · exact r.fz.free hp
  · rcases List.mem_append.mp ha with q | q
    · obtain ⟨u, e⟩ := r.liv a q
      exact ⟨u, by rw [upd_ne (np a q)]; exact e⟩
    · rw [List.mem_singleton.mp q]
      exact ⟨o, upd_same⟩
  · obtain ⟨h1, h2, h3⟩ := r.pin q hq
    have nq : q.1 ≠ p := ne_of_none h1 hp
    refine ⟨by rw [upd_ne nq]; exact h1, h2, fun z => ?_⟩
    rcases List.mem_append.mp z with y | y
    · exact h3 y
    · exact nq (List.mem_singleton.mp y)
theorem nodup_at {l : List Addr} (h : l.Nodup) {i j : Nat} {a : Addr} (e1 : l[i]? = some a) (e2 : l[j]? = some a) : i = j := by
  obtain ⟨h1, q1⟩ := List.getElem?_eq_some_iff.mp e1
  obtain ⟨h2, q2⟩ := List.getElem?_eq_some_iff.mp e2
  exact (List.getElem_inj h).mp (q1.trans q2.symm)
theorem Rep.addr (r : Rep c G H M) {k : Nat} {mo : MO} (e : M[k]? = some mo) : ∃ a, G.θ[k]? = some a := by
  have h := (List.getElem?_eq_some_iff.mp e).1
  exact ⟨G.θ[k]'(by rw [r.len]; exact h), List.getElem?_eq_getElem (by rw [r.len]; exact h)⟩
/-- a thing is changed -/
theorem Rep.write (r : Rep c G H M) {k : Nat} {a : Addr} {mo mo' : MO} {o : HO} (e1 : M[k]? = some mo) (e2 : G.θ[k]? = some a) (l : mo.live = true) (hm : MOk c G (upd H a o) mo' a) : Rep c G (upd H a o) (M.set k mo') := by
  have hF := r.sep k mo a e1 e2 l
  have gt : ∀ {j : Nat} {b : Addr} {x : MO}, (M.set k mo')[j]? = some x → G.θ[j]? = some b → (j ≠ k ∧ M[j]? = some x ∧ b ≠ a) ∨ (j = k ∧ x = mo' ∧ b = a) := fun {j b x} q1 q2 => by
    by_cases hj : j = k
    · subst hj
      rw [List.getElem?_set_self (List.getElem?_eq_some_iff.mp e1).1] at q1
      rw [e2] at q2
      exact .inr ⟨rfl, (Option.some.inj q1).symm, (Option.some.inj q2).symm⟩
    · rw [List.getElem?_set_ne (Ne.symm hj)] at q1
      exact .inl ⟨hj, q1, fun z => hj (nodup_at r.nd (z ▸ q2) e2)⟩
  refine ⟨fun b u e => ?_, by rw [List.length_set]; exact r.len, r.nd, fun j x b q1 q2 => ?_, fun j x b q1 q2 lx => ?_, fun b hb => ?_, fun q hq => ?_⟩
  · rw [upd_ne (fun z => by rw [z, hF] at e; cases e)]
    exact r.fz b u e
  · rcases gt q1 q2 with ⟨_, m, n⟩ | ⟨_, rfl, rfl⟩
    · exact (r.mem j x b m q2).at (upd_ne n)
    · exact hm
  · rcases gt q1 q2 with ⟨_, m, n⟩ | ⟨rfl, _, rfl⟩
    · exact r.sep j x b m q2 lx
    · exact hF
  · by_cases z : b = a
    · exact ⟨o, by rw [z, upd_same]⟩
    · obtain ⟨u, e⟩ := r.liv b hb
      exact ⟨u, by rw [upd_ne z]; exact e⟩
  · obtain ⟨h1, h2, h3⟩ := r.pin q hq
    have nq : q.1 ≠ a := fun z => h3 (z ▸ List.mem_of_getElem? e2)
    exact ⟨by rw [upd_ne nq]; exact h1, h2, h3⟩
/-- a thing will not change any more -/
theorem Rep.freeze (r : Rep c G H M) {k : Nat} {a : Addr} {mo : MO} {u : HO} (e1 : M[k]? = some mo) (e2 : G.θ[k]? = some a) (l : mo.live = true) (hu : H a = some u) :
    Gr G { G with F := upd G.F a u } ∧ Rep c { G with F := upd G.F a u } H (M.set k .gone) := by
  have g : Gr G { G with F := upd G.F a u } := Gr.newF (r.sep k mo a e1 e2 l)
  have gt : ∀ {j : Nat} {b : Addr} {x : MO}, (M.set k .gone)[j]? = some x → G.θ[j]? = some b → (j ≠ k ∧ M[j]? = some x ∧ b ≠ a) ∨ (j = k ∧ x = .gone ∧ b = a) := fun {j b x} q1 q2 => by
    by_cases hj : j = k
    · subst hj
      rw [List.getElem?_set_self (List.getElem?_eq_some_iff.mp e1).1] at q1
      rw [e2] at q2
      exact .inr ⟨rfl, (Option.some.inj q1).symm, (Option.some.inj q2).symm⟩
    · rw [List.getElem?_set_ne (Ne.symm hj)] at q1
      exact .inl ⟨hj, q1, fun z => hj (nodup_at r.nd (z ▸ q2) e2)⟩
  refine ⟨g, fun b v e => ?_, by rw [List.length_set]; exact r.len, r.nd, fun j x b q1 q2 => ?_, fun j x b q1 q2 lx => ?_, r.liv, fun q hq => ?_⟩
  · by_cases z : b = a
    · subst z
      have e' : upd G.F b u b = some v := e
      rw [upd_same] at e'
      cases e'
      exact .inl hu
    · have e' : upd G.F a u b = some v := e
      rw [upd_ne z] at e'
      exact r.fz b v e'
  · rcases gt q1 q2 with ⟨_, m, n⟩ | ⟨_, rfl, rfl⟩
    · exact (r.mem j x b m q2).mono g
    · trivial
  · rcases gt q1 q2 with ⟨_, m, n⟩ | ⟨_, rfl, _⟩
    · show upd G.F a u b = none
      rw [upd_ne n]
      exact r.sep j x b m q2 lx
    · cases lx
  · obtain ⟨h1, h2, h3⟩ := r.pin q hq
    have nq : q.1 ≠ a := fun z => h3 (z ▸ List.mem_of_getElem? e2)
    exact ⟨h1, by show upd G.F a u q.1 = none; rw [upd_ne nq]; exact h2, h3⟩
/-- a thing will not change any more, and stands otherwise in the heap (locked) -/
theorem Rep.freezeX (r : Rep c G H M) {k : Nat} {a : Addr} {mo : MO} {o : HO} (e1 : M[k]? = some mo) (e2 : G.θ[k]? = some a) (l : mo.live = true) :
    Gr G { G with F := upd G.F a o } ∧ Rep c { G with F := upd G.F a o } (upd H a o) (M.set k .gone) := by
  have hF := r.sep k mo a e1 e2 l
  have g : Gr G { G with F := upd G.F a o } := Gr.newF hF
  have gt : ∀ {j : Nat} {b : Addr} {x : MO}, (M.set k .gone)[j]? = some x → G.θ[j]? = some b → (j ≠ k ∧ M[j]? = some x ∧ b ≠ a) ∨ (j = k ∧ x = .gone ∧ b = a) := fun {j b x} q1 q2 => by
    by_cases hj : j = k
    · subst hj
      rw [List.getElem?_set_self (List.getElem?_eq_some_iff.mp e1).1] at q1
      rw [e2] at q2
      exact .inr ⟨rfl, (Option.some.inj q1).symm, (Option.some.inj q2).symm⟩
    · rw [List.getElem?_set_ne (Ne.symm hj)] at q1
      exact .inl ⟨hj, q1, fun z => hj (nodup_at r.nd (z ▸ q2) e2)⟩
  refine ⟨g, fun b v e => ?_, by rw [List.length_set]; exact r.len, r.nd, fun j x b q1 q2 => ?_, fun j x b q1 q2 lx => ?_, fun b hb => ?_, fun q hq => ?_⟩
  · by_cases z : b = a
    · subst z
      have e' : upd G.F b o b = some v := e
      rw [upd_same] at e'
      cases e'
      exact .inl upd_same
    · have e' : upd G.F a o b = some v := e
      rw [upd_ne z] at e'
      rw [upd_ne z]
      exact r.fz b v e'
  · rcases gt q1 q2 with ⟨_, m, n⟩ | ⟨_, rfl, rfl⟩
    · exact ((r.mem j x b m q2).mono g).at (upd_ne n)
    · trivial
  · rcases gt q1 q2 with ⟨_, m, n⟩ | ⟨_, rfl, _⟩
    · show upd G.F a o b = none
      rw [upd_ne n]
      exact r.sep j x b m q2 lx
    · cases lx
  · by_cases z : b = a
    · exact ⟨o, by rw [z, upd_same]⟩
    · obtain ⟨u, e⟩ := r.liv b hb
      exact ⟨u, by rw [upd_ne z]; exact e⟩
  · obtain ⟨h1, h2, h3⟩ := r.pin q hq
    have nq : q.1 ≠ a := fun z => h3 (z ▸ List.mem_of_getElem? e2)
    exact ⟨by rw [upd_ne nq]; exact h1, by show upd G.F a o q.1 = none; rw [upd_ne nq]; exact h2, h3⟩
/-- a thing of the layer's own: begun, changed, given over -/
theorem Rep.pinNew (r : Rep c G H M) {p : Addr} {o : HO} (hp : H p = none) : Rep c { G with P := (p, o) :: G.P } (upd H p o) M := by
  have np : ∀ {a : Addr} {u : HO}, H a = some u → a ≠ p := fun e => ne_of_none e hp
  refine ⟨fun a u e => ?_, r.len, r.nd, fun k mo a e1 e2 => ?_, r.sep, fun a ha => ?_, fun q hq => ?_⟩
  · have e' : G.F a = some u := e
    rw [upd_ne (fun z => by rw [z, r.fz.free hp] at e'; cases e')]
    exact r.fz a u e'
  · obtain ⟨u, z⟩ := r.liv a (List.mem_of_getElem? e2)
    have g0 : Gr0 G { G with P := (p, o) :: G.P } := ⟨fun _ _ h => h, [], (List.append_nil _).symm⟩
    exact (MOk.mono0 g0 (r.mem k mo a e1 e2)).at (upd_ne (np z))
  · obtain ⟨u, z⟩ := r.liv a ha
    exact ⟨u, by rw [upd_ne (np z)]; exact z⟩
  · rcases List.mem_cons.mp hq with rfl | hq
    · refine ⟨upd_same, r.fz.free hp, fun z => ?_⟩
      obtain ⟨u, y⟩ := r.liv _ z
      rw [hp] at y
      cases y
    · obtain ⟨h1, h2, h3⟩ := r.pin q hq
      exact ⟨by rw [upd_ne (np h1)]; exact h1, h2, h3⟩
theorem Rep.pinSet {p : Addr} {o o' : HO} {P : List (Addr × HO)} (r : Rep c { G with P := (p, o) :: P } H M) (hP : ∀ q ∈ P, q.1 ≠ p) : Rep c { G with P := (p, o') :: P } (upd H p o') M := by
  obtain ⟨h1, h2, h3⟩ := r.pin (p, o) List.mem_cons_self
  refine ⟨fun a u e => ?_, r.len, r.nd, fun k mo a e1 e2 => ?_, r.sep, fun a ha => ?_, fun q hq => ?_⟩
  · have e' : G.F a = some u := e
    rw [upd_ne (fun z => by rw [z] at e'; exact absurd (e'.symm.trans h2) (by simp))]
    exact r.fz a u e'
  · have na : a ≠ p := fun z => h3 (z ▸ List.mem_of_getElem? e2)
    have g0 : Gr0 { G with P := (p, o) :: P } { G with P := (p, o') :: P } := ⟨fun _ _ h => h, [], (List.append_nil _).symm⟩
    exact (MOk.mono0 g0 (r.mem k mo a e1 e2)).at (upd_ne na)
  · obtain ⟨u, z⟩ := r.liv a ha
    have na : a ≠ p := fun y => h3 (y ▸ ha)
    exact ⟨u, by rw [upd_ne na]; exact z⟩
  · rcases List.mem_cons.mp hq with rfl | hq
    · exact ⟨upd_same, h2, h3⟩
    · obtain ⟨q1, q2, q3⟩ := r.pin q (List.mem_cons_of_mem _ hq)
      exact ⟨by rw [upd_ne (hP q hq)]; exact q1, q2, q3⟩
/-- .. as a thing that will not change any more -/
theorem Rep.pinF {p : Addr} {o : HO} {P : List (Addr × HO)} (r : Rep c { G with P := (p, o) :: P } H M) (hP : ∀ q ∈ P, q.1 ≠ p) : Rep c { G with F := upd G.F p o, P := P } H M := by
  obtain ⟨h1, h2, h3⟩ := r.pin (p, o) List.mem_cons_self
  have hF : G.F p = none := h2
  have g : Gr0 { G with P := (p, o) :: P } { G with F := upd G.F p o, P := P } := ⟨fun a u e => by show upd G.F p o a = some u; rw [upd_ne (ne_of_none e hF)]; exact e, [], (List.append_nil _).symm⟩
  refine ⟨fun a u e => ?_, r.len, r.nd, fun k mo a e1 e2 => (r.mem k mo a e1 e2).mono0 g, fun k mo a e1 e2 l => ?_, r.liv, fun q hq => ?_⟩
  · by_cases z : a = p
    · subst z
      have e' : upd G.F a o a = some u := e
      rw [upd_same] at e'
      exact .inl (h1.trans e')
    · have e' : upd G.F p o a = some u := e
      rw [upd_ne z] at e'
      exact r.fz a u e'
  · show upd G.F p o a = none
    have na : a ≠ p := fun z => h3 (z ▸ List.mem_of_getElem? e2)
    rw [upd_ne na]
    exact r.sep k mo a e1 e2 l
  · obtain ⟨q1, q2, q3⟩ := r.pin q (List.mem_cons_of_mem _ hq)
    exact ⟨q1, by show upd G.F p o q.1 = none; rw [upd_ne (hP q hq)]; exact q2, q3⟩
/-- .. as a thing that may change -/
theorem Rep.pinP {p : Addr} {o : HO} {P : List (Addr × HO)} {mo : MO} (r : Rep c { G with P := (p, o) :: P } H M) (hP : ∀ q ∈ P, q.1 ≠ p) (hm : MOk c { G with θ := G.θ ++ [p], P := P } H mo p) : Rep c { G with θ := G.θ ++ [p], P := P } H (M ++ [mo]) := by
  obtain ⟨h1, h2, h3⟩ := r.pin (p, o) List.mem_cons_self
  have hl : G.θ.length = M.length := r.len
  have gt : ∀ {k : Nat} {a : Addr} {x : MO}, (M ++ [mo])[k]? = some x → (G.θ ++ [p])[k]? = some a → (M[k]? = some x ∧ G.θ[k]? = some a) ∨ (x = mo ∧ a = p) := fun {k a x} e1 e2 => by
    by_cases hk : k < M.length
    · rw [List.getElem?_append_left hk] at e1
      rw [List.getElem?_append_left (by rw [hl]; exact hk)] at e2
      exact .inl ⟨e1, e2⟩
    · have hk1 : M.length ≤ k := Nat.le_of_not_lt hk
      rw [List.getElem?_append_right hk1] at e1
      rw [List.getElem?_append_right (by rw [hl]; exact hk1), hl] at e2
      cases q : k - M.length with
      | zero =>
        rw [q] at e1 e2
        exact .inr ⟨(Option.some.inj e1).symm, (Option.some.inj e2).symm⟩
      | succ n =>
        rw [q] at e1
        simp at e1
  refine ⟨r.fz, by simp [hl], ?_, fun k x a e1 e2 => ?_, fun k x a e1 e2 l => ?_, fun a ha => ?_, fun q hq => ?_⟩
  · show (G.θ ++ [p]).Nodup
    rw [List.nodup_append]
    exact ⟨r.nd, by simp, fun a ha b hb => by rw [List.mem_singleton.mp hb]; exact fun z => h3 (z ▸ ha)⟩
  · rcases gt e1 e2 with ⟨q1, q2⟩ | ⟨rfl, rfl⟩
    · have g0 : Gr0 { G with P := (p, o) :: P } { G with θ := G.θ ++ [p], P := P } := ⟨fun _ _ h => h, [p], rfl⟩
      exact MOk.mono0 g0 (r.mem k x a q1 q2)
    · exact hm
  · rcases gt e1 e2 with ⟨q1, q2⟩ | ⟨rfl, rfl⟩
    · exact r.sep k x a q1 q2 l
    · exact h2
  · rcases List.mem_append.mp ha with q | q
    · exact r.liv a q
    · rw [List.mem_singleton.mp q]
      exact ⟨o, h1⟩
  · obtain ⟨q1, q2, q3⟩ := r.pin q (List.mem_cons_of_mem _ hq)
    refine ⟨q1, q2, fun z => ?_⟩
    rcases List.mem_append.mp z with y | y
    · exact q3 y
    · exact hP q hq (List.mem_singleton.mp y)
end

/-! ### slots -/
def SlR (c : Cn) (G : Gd) (S : Sl) (σ : St) : Prop := σ.length = S.length ∧ ∀ (i : Nat) d, S[i]? = some (some d) → ∃ v, σ[i]? = some (some v) ∧ DV c G d v
section
variable {c : Cn} {G G' : Gd} {S : Sl} {σ : St}
theorem SlR.mono (g : Gr G G') (h : SlR c G S σ) : SlR c G' S σ := ⟨h.1, fun i d e => let ⟨v, q, r⟩ := h.2 i d e; ⟨v, q, r.mono g⟩⟩
theorem SlR.set (h : SlR c G S σ) {i : Nat} {d : D} {v : V} (r : DV c G d v) : SlR c G (S.set i (some d)) (σ.set i (some v)) := by
  refine ⟨by rw [List.length_set, List.length_set]; exact h.1, fun j e q => ?_⟩
  by_cases z : i = j
  · subst z
    have hl : i < S.length := by
      have := (List.getElem?_eq_some_iff.mp q).1
      rwa [List.length_set] at this
    rw [List.getElem?_set_self hl] at q
    have q' := Option.some.inj (Option.some.inj q)
    subst q'
    exact ⟨v, by rw [List.getElem?_set_self (by rw [h.1]; exact hl)], r⟩
  · rw [List.getElem?_set_ne z] at q
    rw [List.getElem?_set_ne z]
    exact h.2 j e q
theorem SlR.off (h : SlR c G S σ) (i : Nat) : SlR c G (S.set i none) σ := by
  refine ⟨by rw [List.length_set]; exact h.1, fun j e q => ?_⟩
  by_cases z : i = j
  · subst z
    have hl : i < S.length := by
      have := (List.getElem?_eq_some_iff.mp q).1
      rwa [List.length_set] at this
    rw [List.getElem?_set_self hl] at q
    cases Option.some.inj q
  · rw [List.getElem?_set_ne z] at q
    exact h.2 j e q
/-- slots are forgotten -/
def kl (vs : List Nat) (S : Sl) : Sl := match vs with
  | [] => S
  | i :: r => kl r (S.set i none)
theorem SlR.kl : ∀ {vs : List Nat} {S : Sl}, SlR c G S σ → SlR c G (kl vs S) σ
  | [], _, h => h
  | i :: r, _, h => SlR.kl (vs := r) (h.off i)
end

/-! ### exceptions -/
def ExV (c : Cn) (G : Gd) (x : Ex) (cls : Value) (d : Option Addr) : Prop := ∃ C, c.mg x.c = some (.ref C) ∧ cls = .ref C ∧ (x.fs = [] ∨ ∃ a ws, d = some a ∧ G.F a = some (.xd ws) ∧ DVf c G x.fs ws)
theorem ExV.mono {c : Cn} {G G' : Gd} (g : Gr G G') {x : Ex} {cls : Value} {d : Option Addr} (h : ExV c G x cls d) : ExV c G' x cls d := by
  obtain ⟨C, m, e, h⟩ := h
  rcases h with h | ⟨a, ws, e1, e2, r⟩
  · exact ⟨C, m, e, .inl h⟩
  · exact ⟨C, m, e, .inr ⟨a, ws, e1, g.F _ _ e2, r.mono g⟩⟩

/-! ### what is wanted behind -/
section
variable {α β α' β' : Type}
def Post (c : Cn) (W : WX) (σ : St) (G : Gd) (rel : Gd → α → β → Prop) (r : Res α) (Q : β → Hp → Prop) : Prop := match r with
  | .ok d M => ∀ G' v H, Gr G G' → Rep c G' H M → rel G' d v → Q v H
  | .rz x M => ∀ G' cls dd H, Gr G G' → Rep c G' H M → ExV c G' x cls dd → W cls dd σ H
  | .bad => False
def Up (c : Cn) (W : WX) (rel : Gd → α → β → Prop) (e : Sl → Mem → Res α) : St → Hp → (β → Hp → Prop) → Prop := fun σ H Q =>
  ∃ G S M, Rep c G H M ∧ SlR c G S σ ∧ Post c W σ G rel (e S M) Q
variable {c : Cn} {W : WX} {σ : St} {G G' : Gd} {H : Hp} {rel : Gd → α → β → Prop} {rel' : Gd → α' → β' → Prop}
theorem Post.mono {r : Res α} {Q : β → Hp → Prop} (g : Gr G G') (h : Post c W σ G rel r Q) : Post c W σ G' rel r Q := by
  cases r with
  | ok d M => exact fun G2 v H g2 r q => h G2 v H (g.trans g2) r q
  | rz x M => exact fun G2 cls dd H g2 r q => h G2 cls dd H (g.trans g2) r q
  | bad => exact h
theorem Post.imp {r : Res α} {Q Q' : β → Hp → Prop} (h : Post c W σ G rel r Q) (k : ∀ v H, Q v H → Q' v H) : Post c W σ G rel r Q' := by
  cases r with
  | ok d M => exact fun G2 v H g2 r q => k _ _ (h G2 v H g2 r q)
  | rz x M => exact h
  | bad => exact h
theorem Post.bind {r : Res α} {k : α → Mem → Res α'} {Q : β' → Hp → Prop} (h : Post c W σ G rel' (r.bind k) Q) :
    Post c W σ G rel r (fun v H => ∃ G' d M, Gr G G' ∧ Rep c G' H M ∧ rel G' d v ∧ Post c W σ G' rel' (k d M) Q) := by
  cases r with
  | ok d M => exact fun G2 v H g2 r q => ⟨G2, d, M, g2, r, q, Post.mono g2 h⟩
  | rz x M => exact h
  | bad => exact h
theorem Up.imp {e : Sl → Mem → Res α} {Q Q' : β → Hp → Prop} (h : Up c W rel e σ H Q) (k : ∀ v H, Q v H → Q' v H) : Up c W rel e σ H Q' :=
  let ⟨G, S, M, r, s, p⟩ := h; ⟨G, S, M, r, s, p.imp k⟩
/-- one part, then the rest -/
theorem Up.bind {e : Sl → Mem → Res α} {k : Sl → α → Mem → Res α'} {Q : β' → Hp → Prop} (h : Up c W rel' (fun S M => (e S M).bind (k S)) σ H Q) :
    Up c W rel e σ H (fun v H' => ∃ G S d M, Rep c G H' M ∧ SlR c G S σ ∧ rel G d v ∧ Post c W σ G rel' (k S d M) Q) := by
  obtain ⟨G, S, M, r, s, p⟩ := h
  exact ⟨G, S, M, r, s, (Post.bind p).imp fun v H' ⟨G', d, M', g, r', q, p'⟩ => ⟨G', S, d, M', r', s.mono g, q, p'⟩⟩
end

/-! ### the judgements -/
abbrev cn (X : Cx) : Cn := ⟨X.K, X.mg⟩
def QE (X : Cx) (W : WX) (e : Expr) (f : EF) : Prop := PE X e (Up (cn X) W (DV (cn X)) f)
def QT (X : Cx) (W : WX) (e : Expr) (f : BF) : Prop := PT X e (Up (cn X) W (fun _ (a b : Bool) => a = b) f)
def QW (X : Cx) (W : WX) (e : Expr) (f : BF) : Prop := PW X e (Up (cn X) W (fun _ (a b : Bool) => a = b) f)
def QA (X : Cx) (W : WX) (es : List Expr) (f : AF) : Prop := PA X es (Up (cn X) W (DVs (cn X)) f)
theorem PE.imp {X : Cx} {e : Expr} {t t' : TE} (h : PE X e t) (k : ∀ σ H Q, t' σ H Q → t σ H Q) : PE X e t' := ⟨fun pins s σ H Q I z => h.run pins s σ H Q I (k σ H Q z)⟩
theorem PT.imp {X : Cx} {e : Expr} {t t' : TT} (h : PT X e t) (k : ∀ σ H Q, t' σ H Q → t σ H Q) : PT X e t' := ⟨fun pins s σ H Q I z => h.run pins s σ H Q I (k σ H Q z)⟩
theorem PW.imp {X : Cx} {e : Expr} {t t' : TT} (h : PW X e t) (k : ∀ σ H Q, t' σ H Q → t σ H Q) : PW X e t' := ⟨fun wh pins s σ H Q I z => h.run wh pins s σ H Q I (k σ H Q z)⟩
theorem PA.imp {X : Cx} {e : List Expr} {t t' : TA} (h : PA X e t) (k : ∀ σ H Q, t' σ H Q → t σ H Q) : PA X e t' := ⟨fun p pins s σ H Q I z => h.run p pins s σ H Q I (k σ H Q z)⟩
theorem PS.imp {X : Cx} {e : Stmt} {t t' : TS} (h : PS X e t) (k : ∀ D σ H, t' D σ H → t D σ H) : PS X e t' := ⟨fun pins s σ H D I z => h.run pins s σ H D I (k D σ H z)⟩
theorem PSs.imp {X : Cx} {e : List Stmt} {t t' : TS} (h : PSs X e t) (k : ∀ D σ H, t' D σ H → t D σ H) : PSs X e t' := ⟨fun pins s σ H D I z => h.run pins s σ H D I (k D σ H z)⟩

/-- the thing that e gives is locked, if that is wanted -/
def tLkO (t : TE) : TE := fun σ H Q => t σ H fun v H1 => Q v H1 ∨ ∃ d u, H1 d = some u ∧ Mut (some u) ∧ ∀ od, Q v (upd H1 d (.frz od u))
theorem pe_lkO {X : Cx} {e : Expr} {t : TE} (h : PE X e t) : PE X e (tLkO t) := ⟨fun pins s σ H Q I z => thn (h.run pins s σ H _ I z) fun u s1 ⟨v, H1, I1, r, q⟩ => by
  rcases q with q | ⟨d, w, e1, mu, q⟩
  · exact ⟨v, H1, I1, r, q⟩
  · obtain ⟨od, I2⟩ := I1.lock e1 mu
    exact ⟨v, _, I2, r, q od⟩⟩

/-! ### names, constants -/
def eVar (i : Nat) : EF := fun S M => match S[i]? with
  | some (some d) => .ok d M
  | _ => .bad
def eC (d : D) : EF := fun _ M => .ok d M
section
variable {X : Cx} {W : WX} {pos : Pos}
theorem qv (i : Nat) {x : Str} (hN : X.N[i]? = some x := by rfl) (hv : Vis X.env.scope x := by first | exact Or.inl rfl | exact Or.inr (Or.inl rfl) | exact Or.inr (Or.inr rfl)) (hd : (x == ("__debug__" : Str)) = false := by decide)
    (hcd : (x == ("__classdict__" : Str)) = false := by decide) : QE X W (.Name x pos) (eVar i) := by
  refine PE.imp (pe_var hN hv hd hcd) fun σ H Q h => ?_
  obtain ⟨G, S, M, r, s, p⟩ := h
  unfold eVar at p
  split at p
  · rename_i d hd
    obtain ⟨v, e, q⟩ := s.2 i d hd
    exact ⟨v, e, p G v H (Gr.refl G) r q⟩
  · exact p.elim
theorem up_c {c : Cn} {d : D} {v : V} {σ : St} {H : Hp} {Q : VK} (h : Up c W (DV c) (eC d) σ H Q) (hd : ∀ G, DV c G d v) : tC v σ H Q := by
  obtain ⟨G, S, M, r, s, p⟩ := h
  exact p G v H (Gr.refl G) r (hd G)
theorem qint {i : Int} {j} : QE X W (.Constant (.int i) j pos) (eC (.int i)) := PE.imp pe_int fun σ H Q h => up_c h fun _ => rfl
theorem qbl {b j} : QE X W (.Constant (.bool b) j pos) (eC (.bl b)) := PE.imp pe_bl fun σ H Q h => up_c h fun _ => rfl
theorem qnon {j} : QE X W (.Constant .none j pos) (eC .non) := PE.imp pe_non fun σ H Q h => up_c h fun _ => rfl
theorem qstr {x j} : QE X W (.Constant (.str x) j pos) (eC (.str x)) := PE.imp pe_str fun σ H Q h => up_c h fun _ => rfl
/-- a module's constant -/
theorem qglobI {x : Str} {i : Int} {t : Tok} (hg : Gl X x) (hm : X.mg x = some (.int i t)) (hd : (x == ("__debug__" : Str)) = false := by decide) : QE X W (.Name x pos) (eC (.int i)) :=
  PE.imp (pe_glob (v := .int i) hg hm ⟨t, rfl⟩ hd) fun σ H Q h => up_c h fun _ => rfl
theorem qglobS {x : Str} {i : Str} {t : Tok} (hg : Gl X x) (hm : X.mg x = some (.str i t)) (hd : (x == ("__debug__" : Str)) = false := by decide) : QE X W (.Name x pos) (eC (.str i)) :=
  PE.imp (pe_glob (v := .str i) hg hm ⟨t, rfl⟩ hd) fun σ H Q h => up_c h fun _ => rfl
end

/-! ### argument lists, tuples, lists -/
def aNil : AF := fun _ M => .ok [] M
def aCons (e : EF) (r : AF) : AF := fun S M => (e S M).bind fun d M1 => (r S M1).bind fun ds M2 => .ok (d :: ds) M2
def eTup (a : AF) : EF := fun S M => (a S M).bind fun ds M1 => if ds.length ≤ sizeLine then .ok (.tup ds) M1 else .bad
/-- a list that will not change -/
def eLst (a : AF) : EF := fun S M => (a S M).bind fun ds M1 => if ds.length ≤ sizeLine then .ok (.lst ds) M1 else .bad
/-- a list that may change -/
def eLstP (a : AF) : EF := fun S M => (a S M).bind fun ds M1 => if ds.length ≤ sizeLine then .ok (.ptr M1.length) (M1 ++ [.lst ds]) else .bad
section
variable {X : Cx} {W : WX} {pos : Pos} {e : Expr} {es : List Expr} {f : EF} {a : AF}
theorem qa_nil : QA X W [] aNil := PA.imp pa_nil fun σ H Q h => by
  obtain ⟨G, S, M, r, s, p⟩ := h
  exact p G [] H (Gr.refl G) r rfl
theorem qa_cons (h1 : QE X W e f) (h2 : QA X W es a) (hs : starEach (e :: es) X.env = (false, eval e X.env) :: starEach es X.env := by rfl) : QA X W (e :: es) (aCons f a) := PA.imp (pa_cons h1 h2 hs) fun σ H Q h => by
  refine Up.imp (Up.bind h) fun v H1 ⟨G, S, d, M, r, s, q, p⟩ => ?_
  refine ⟨G, S, M, r, s, (Post.bind (rel := DVs (cn X)) p).imp fun vs H2 ⟨G2, ds, M2, g2, r2, q2, p2⟩ => ?_⟩
  exact p2 G2 _ H2 (Gr.refl _) r2 (DVs.cons (q.mono g2) q2)
theorem qtup {x1} (h : QA X W es a) : QE X W (.Tuple es x1 pos) (eTup a) := PE.imp (pe_tup h) fun σ H Q h => by
  refine Up.imp (Up.bind h) fun vs H1 ⟨G, S, ds, M, r, s, q, p⟩ => ?_
  split at p
  · rename_i hz
    refine ⟨by rw [q.length]; exact hz, fun a ha => ?_⟩
    have g : Gr G { G with F := upd G.F a (.tup vs) } := Gr.newF (r.fz.free ha)
    exact p _ _ _ g (r.newF ha) ⟨a, vs, rfl, upd_same, q.mono g⟩
  · exact p.elim
theorem qlst (h : QA X W es a) : QE X W (.List es pos) (eLst a) := PE.imp (pe_lst h) fun σ H Q h => by
  refine Up.imp (Up.bind h) fun vs H1 ⟨G, S, ds, M, r, s, q, p⟩ => ?_
  split at p
  · rename_i hz
    refine ⟨by rw [q.length]; exact hz, fun a ha => ?_⟩
    have g : Gr G { G with F := upd G.F a (.lst vs) } := Gr.newF (r.fz.free ha)
    exact p _ _ _ g (r.newF ha) ⟨a, vs, rfl, .inl (.inl upd_same), q.mono g⟩
  · exact p.elim
theorem qlstP (h : QA X W es a) : QE X W (.List es pos) (eLstP a) := PE.imp (pe_lst h) fun σ H Q h => by
  refine Up.imp (Up.bind h) fun vs H1 ⟨G, S, ds, M, r, s, q, p⟩ => ?_
  split at p
  · rename_i hz
    refine ⟨by rw [q.length]; exact hz, fun a ha => ?_⟩
    have g := Gr.newP (G := G) a
    refine p _ _ _ g (r.newP ha (mo := .lst ds) ⟨vs, upd_same, q.mono g⟩) ⟨a, ?_, rfl⟩
    show (G.θ ++ [a])[M.length]? = some a
    rw [List.getElem?_append_right (by rw [r.len]; exact Nat.le_refl _), r.len, Nat.sub_self]
    rfl
  · exact p.elim
end

/-! ### operators, by values -/
/-- f, on data, is what r asks on values -/
def R2s (c : Cn) (f : D → D → Mem → Res D) (r : R2) : Prop := ∀ (W : WX) (σ : St) (G : Gd) (H : Hp) (M : Mem) (x y : V) (dx dy : D) (Q : VK), Rep c G H M → DV c G dx x → DV c G dy y → Post c W σ G (DV c) (f dx dy M) Q → r x y H Q
def e2 (f : D → D → Mem → Res D) (a b : EF) : EF := fun S M => (a S M).bind fun x M1 => (b S M1).bind fun y M2 => f x y M2
theorem up_op {c : Cn} {W : WX} {f : D → D → Mem → Res D} {r : R2} {a b : EF} {σ : St} {H : Hp} {Q : VK} (hr : R2s c f r) (h : Up c W (DV c) (e2 f a b) σ H Q) : tOp r (Up c W (DV c) a) (Up c W (DV c) b) σ H Q := by
  refine Up.imp (Up.bind h) fun v H1 ⟨G, S, d, M, r1, s, q, p⟩ => ?_
  refine ⟨G, S, M, r1, s, (Post.bind (rel := DV c) p).imp fun u H2 ⟨G2, d2, M2, g2, r2, q2, p2⟩ => ?_⟩
  exact hr W σ G2 H2 M2 v u d d2 Q r2 (q.mono g2) q2 p2
section
variable {X : Cx} {W : WX} {pos : Pos} {a b : Expr} {fa fb : EF} {f : D → D → Mem → Res D} {r : R2}
theorem q_op {op : Operator} (ho : OpR X (binaryOp op) r) (hr : R2s (cn X) f r) (ha : QE X W a fa) (hb : QE X W b fb) : QE X W (.BinOp a op b pos) (e2 f fa fb) :=
  PE.imp (pe_op ho ha hb) fun _ _ _ h => up_op hr h
theorem q_cmp {op : CmpOp} (ho : OpR X (compareOp op) r) (hr : R2s (cn X) f r) (hm : behindInMarks op b = false) (ha : QE X W a fa) (hb : QE X W b fb) : QE X W (.Compare a [op] [b] pos) (e2 f fa fb) :=
  PE.imp (pe_cmpR ho ha hb hm) fun _ _ _ h => up_op hr h
theorem q_ix (ho : IxR X r) (hr : R2s (cn X) f r) (ha : QE X W a fa) (hb : QE X W b fb) (hs : PlainIx b := by exact fun _ _ => rfl) : QE X W (.Subscript a b pos) (e2 f fa fb) :=
  PE.imp (pe_ix ho ha hb hs) fun _ _ _ h => up_op hr h
end
/-- a value as a test -/
def bV (a : EF) : BF := fun S M => (a S M).bind fun x M1 => match x with
  | .bl b => .ok b M1
  | _ => .bad
def bNot (a : BF) : BF := fun S M => (a S M).bind fun x M1 => .ok (!x) M1
def bAnd (a b : BF) : BF := fun S M => (a S M).bind fun x M1 => if x = true then b S M1 else .ok false M1
def bOr (a b : BF) : BF := fun S M => (a S M).bind fun x M1 => if x = true then .ok true M1 else b S M1
def eNot (a : EF) : EF := fun S M => (a S M).bind fun x M1 => match x with
  | .bl b => .ok (.bl (!b)) M1
  | _ => .bad
def eAnd (a b : EF) : EF := fun S M => (a S M).bind fun x M1 => match x with
  | .bl true => b S M1
  | .bl false => .ok (.bl false) M1
  | _ => .bad
def eOr (a b : EF) : EF := fun S M => (a S M).bind fun x M1 => match x with
  | .bl true => .ok (.bl true) M1
  | .bl false => b S M1
  | _ => .bad
def eIf (t : BF) (a b : EF) : EF := fun S M => (t S M).bind fun x M1 => if x = true then a S M1 else b S M1
section
variable {X : Cx} {W : WX} {pos : Pos} {a b c : Expr} {rest : List Expr} {fa fb : EF} {ta tb : BF}
theorem qt_val (h : QE X W a fa) (he : ∀ whole, isTrue a X.env whole = (do let v ← whole; standAt a.pos; holding [v] (truthy v)) := by intro _; rfl) : QT X W a (bV fa) := PT.imp (pt_val h he) fun σ H Q h => by
  refine Up.imp (Up.bind h) fun v H1 ⟨G, S, d, M, r1, s, q, p⟩ => ?_
  split at p
  · cases (show v = _ from q)
    exact ⟨_, rfl, p G _ H1 (Gr.refl _) r1 rfl⟩
  · exact p.elim
theorem qt_cmp {op : CmpOp} {f : D → D → Mem → Res D} {r : R2} (ho : OpR X (compareOp op) r) (hr : R2s (cn X) f r) (hm : behindInMarks op b = false) (ha : QE X W a fa) (hb : QE X W b fb) : QT X W (.Compare a [op] [b] pos) (bV (e2 f fa fb)) :=
  PT.imp (pt_cmpR ho ha hb hm) fun σ H Q h => by
    have h2 := Up.bind (rel := DV (cn X)) h
    refine up_op hr (Up.imp h2 fun v H1 ⟨G, S, d, M, r1, s, q, p⟩ => ?_)
    split at p
    · cases (show v = _ from q)
      exact ⟨_, rfl, p G _ H1 (Gr.refl _) r1 rfl⟩
    · exact p.elim
theorem qt_not (h : QT X W a ta) : QT X W (.UnaryOp .Not a pos) (bNot ta) := PT.imp (pt_not h) fun σ H Q h => by
  refine Up.imp (Up.bind h) fun v H1 ⟨G, S, d, M, r1, s, q, p⟩ => ?_
  subst q
  exact p G _ H1 (Gr.refl _) r1 rfl
theorem qw_and1 (h : QT X W a ta) : QW X W (.BoolOp .And [a] pos) ta := pw_and1 h
theorem qw_or1 (h : QT X W a ta) : QW X W (.BoolOp .Or [a] pos) ta := pw_or1 h
theorem qw_and (ha : QT X W a ta) (hb : QW X W (.BoolOp .And (b :: rest) pos) tb) : QW X W (.BoolOp .And (a :: b :: rest) pos) (bAnd ta tb) := PW.imp (pw_and ha hb) fun σ H Q h => by
  refine Up.imp (Up.bind h) fun v H1 ⟨G, S, d, M, r1, s, q, p⟩ => ?_
  subst q
  cases d with
  | true => exact ⟨G, S, M, r1, s, p⟩
  | false => exact p G _ H1 (Gr.refl _) r1 rfl
theorem qw_or (ha : QT X W a ta) (hb : QW X W (.BoolOp .Or (b :: rest) pos) tb) : QW X W (.BoolOp .Or (a :: b :: rest) pos) (bOr ta tb) := PW.imp (pw_or ha hb) fun σ H Q h => by
  refine Up.imp (Up.bind h) fun v H1 ⟨G, S, d, M, r1, s, q, p⟩ => ?_
  subst q
  cases d with
  | true => exact p G _ H1 (Gr.refl _) r1 rfl
  | false => exact ⟨G, S, M, r1, s, p⟩
theorem qt_w (h : QW X W a ta) : QT X W a ta := PW.pt h
theorem q_one {op} (h : QE X W a fa) : QE X W (.BoolOp op [a] pos) fa := pe_one h
theorem q_and (ha : QE X W a fa) (hb : QE X W (.BoolOp .And (b :: rest) pos) fb) : QE X W (.BoolOp .And (a :: b :: rest) pos) (eAnd fa fb) := PE.imp (pe_and ha hb) fun σ H Q h => by
  refine Up.imp (Up.bind h) fun v H1 ⟨G, S, d, M, r1, s, q, p⟩ => ?_
  split at p
  · cases (show v = _ from q)
    exact ⟨true, rfl, ⟨G, S, M, r1, s, p⟩⟩
  · cases (show v = _ from q)
    exact ⟨false, rfl, p G _ H1 (Gr.refl _) r1 rfl⟩
  · exact p.elim
theorem q_or (ha : QE X W a fa) (hb : QE X W (.BoolOp .Or (b :: rest) pos) fb) : QE X W (.BoolOp .Or (a :: b :: rest) pos) (eOr fa fb) := PE.imp (pe_or ha hb) fun σ H Q h => by
  refine Up.imp (Up.bind h) fun v H1 ⟨G, S, d, M, r1, s, q, p⟩ => ?_
  split at p
  · cases (show v = _ from q)
    exact ⟨true, rfl, p G _ H1 (Gr.refl _) r1 rfl⟩
  · cases (show v = _ from q)
    exact ⟨false, rfl, ⟨G, S, M, r1, s, p⟩⟩
  · exact p.elim
theorem q_not (ha : QE X W a fa) : QE X W (.UnaryOp .Not a pos) (eNot fa) := PE.imp (pe_not ha) fun σ H Q h => by
  refine Up.imp (Up.bind h) fun v H1 ⟨G, S, d, M, r1, s, q, p⟩ => ?_
  split at p
  · cases (show v = _ from q)
    exact ⟨_, rfl, p G _ H1 (Gr.refl _) r1 rfl⟩
  · exact p.elim
theorem q_if (ht : QT X W c ta) (ha : QE X W a fa) (hb : QE X W b fb) : QE X W (.IfExp c a b pos) (eIf ta fa fb) := PE.imp (pe_ifExp ht ha hb) fun σ H Q h => by
  refine Up.imp (Up.bind h) fun v H1 ⟨G, S, d, M, r1, s, q, p⟩ => ?_
  subst q
  cases d with
  | true => exact ⟨G, S, M, r1, s, p⟩
  | false => exact ⟨G, S, M, r1, s, p⟩
end
end QL
end
section
set_option Elab.async false
set_option linter.all false
set_option maxRecDepth 100000
set_option maxHeartbeats 4000000
/-! QStmt: statements, calls, defs. -/
namespace QL
open PySem PySem.Spec L2

def PostS (c : Cn) (W : WX) (G : Gd) (D : Ends) (r : SR) : Prop := match r with
  | .nx S M => ∀ G' σ H, Gr G G' → Rep c G' H M → SlR c G' S σ → D.nx σ H
  | .rt d M => ∀ G' v H, Gr G G' → Rep c G' H M → DV c G' d v → D.rt v H
  | .bk S M => ∀ G' σ H, Gr G G' → Rep c G' H M → SlR c G' S σ → D.bk σ H
  | .ct S M => ∀ G' σ H, Gr G G' → Rep c G' H M → SlR c G' S σ → D.ct σ H
  | .rz x S M => ∀ G' cls dd σ H, Gr G G' → Rep c G' H M → SlR c G' S σ → ExV c G' x cls dd → W cls dd σ H
  | .bad => False
def UpS (c : Cn) (W : WX) (t : TF) : TS := fun D σ H => ∃ G S M, Rep c G H M ∧ SlR c G S σ ∧ PostS c W G D (t S M)
def QS (X : Cx) (W : WX) (st : Stmt) (t : TF) : Prop := PS X st (UpS (cn X) W t)
def QSs (X : Cx) (W : WX) (st : List Stmt) (t : TF) : Prop := PSs X st (UpS (cn X) W t)
/-- behind a part: what the part raises is raised -/
def Res.thn {α : Type} (r : Res α) (S : Sl) (k : α → Mem → SR) : SR := match r with
  | .ok a M => k a M
  | .rz x M => .rz x S M
  | .bad => .bad
def SR.thn (r : SR) (k : Sl → Mem → SR) : SR := match r with
  | .nx S M => k S M
  | r => r
section
variable {c : Cn} {W : WX} {G G' : Gd} {σ : St} {H : Hp} {D : Ends} {S : Sl} {M : Mem}
theorem PostS.mono {r : SR} (g : Gr G G') (h : PostS c W G D r) : PostS c W G' D r := by
  cases r with
  | nx S M => exact fun G2 σ H g2 r s => h G2 σ H (g.trans g2) r s
  | rt d M => exact fun G2 σ H g2 r s => h G2 σ H (g.trans g2) r s
  | bk S M => exact fun G2 σ H g2 r s => h G2 σ H (g.trans g2) r s
  | ct S M => exact fun G2 σ H g2 r s => h G2 σ H (g.trans g2) r s
  | rz x S M => exact fun G2 cls dd σ H g2 r s => h G2 cls dd σ H (g.trans g2) r s
  | bad => exact h
theorem PostS.thnE {α β : Type} {rel : Gd → α → β → Prop} {r : Res α} {k : α → Mem → SR} (s : SlR c G S σ) (h : PostS c W G D (r.thn S k)) :
    Post c W σ G rel r (fun v H => ∃ G' d M, Gr G G' ∧ Rep c G' H M ∧ rel G' d v ∧ PostS c W G' D (k d M)) := by
  cases r with
  | ok d M => exact fun G2 v H g2 r q => ⟨G2, d, M, g2, r, q, PostS.mono g2 h⟩
  | rz x M => exact fun G2 cls dd H g2 r q => h G2 cls dd σ H g2 r (s.mono g2) q
  | bad => exact h
theorem PostS.thnS {r : SR} {k : Sl → Mem → SR} (h : PostS c W G D (r.thn k)) : PostS c W G { D with nx := fun σ H => ∃ G' S M, Gr G G' ∧ Rep c G' H M ∧ SlR c G' S σ ∧ PostS c W G' D (k S M) } r := by
  cases r with
  | nx S M => exact fun G2 σ H g2 r s => ⟨G2, S, M, g2, r, s, PostS.mono g2 h⟩
  | rt d M => exact h
  | bk S M => exact h
  | ct S M => exact h
  | rz x S M => exact h
  | bad => exact h
theorem PostS.ends {r : SR} {D' : Ends} (h : PostS c W G D r) (h1 : ∀ σ H, D.nx σ H → D'.nx σ H) (h2 : ∀ σ H, D.rt σ H → D'.rt σ H) (h3 : ∀ σ H, D.bk σ H → D'.bk σ H) (h4 : ∀ σ H, D.ct σ H → D'.ct σ H) : PostS c W G D' r := by
  cases r with
  | nx S M => exact fun G2 σ H g2 r s => h1 _ _ (h G2 σ H g2 r s)
  | rt d M => exact fun G2 σ H g2 r s => h2 _ _ (h G2 σ H g2 r s)
  | bk S M => exact fun G2 σ H g2 r s => h3 _ _ (h G2 σ H g2 r s)
  | ct S M => exact fun G2 σ H g2 r s => h4 _ _ (h G2 σ H g2 r s)
  | rz x S M => exact h
  | bad => exact h
/-- a part of a statement, then what follows of it -/
theorem UpS.thn {α β : Type} {rel : Gd → α → β → Prop} {e : Sl → Mem → Res α} {k : Sl → α → Mem → SR} (h : UpS c W (fun S M => (e S M).thn S (k S)) D σ H) :
    Up c W rel e σ H (fun v H' => ∃ G S d M, Rep c G H' M ∧ SlR c G S σ ∧ rel G d v ∧ PostS c W G D (k S d M)) := by
  obtain ⟨G, S, M, r, s, p⟩ := h
  exact ⟨G, S, M, r, s, (PostS.thnE s p).imp fun v H' ⟨G', d, M', g, r', q, p'⟩ => ⟨G', S, d, M', r', s.mono g, q, p'⟩⟩
end

/-! ### blocks -/
def kNil : TF := fun S M => .nx S M
def kSeq (t u : TF) : TF := fun S M => (t S M).thn u
def kRet (e : EF) : TF := fun S M => (e S M).thn S fun d M1 => .rt d M1
def kRetN : TF := fun _ M => .rt .non M
def kDrop (e : EF) : TF := fun S M => (e S M).thn S fun _ M1 => .nx S M1
def kIf (b : BF) (t u : TF) : TF := fun S M => (b S M).thn S fun x M1 => if x = true then t S M1 else u S M1
def kBreak : TF := fun S M => .bk S M
def kCont : TF := fun S M => .ct S M
def kNever : TF := fun _ _ => .bad
/-- slots are forgotten ahead of a statement -/
def kKl (vs : List Nat) (t : TF) : TF := fun S M => t (kl vs S) M
section
variable {X : Cx} {W : WX} {pos : Pos} {st : Stmt} {rest : List Stmt} {t u : TF} {e : Expr} {f : EF} {b : BF}
theorem qs_nil : QSs X W [] kNil := PSs.imp pss_nil fun D σ H h => by
  obtain ⟨G, S, M, r, s, p⟩ := h
  exact p G σ H (Gr.refl G) r s
theorem qs_cons (h1 : QS X W st t) (h2 : QSs X W rest u) : QSs X W (st :: rest) (kSeq t u) := PSs.imp (pss_cons h1 h2) fun D σ H h => by
  obtain ⟨G, S, M, r, s, p⟩ := h
  refine ⟨G, S, M, r, s, (PostS.thnS p).ends (fun σ H ⟨G', S', M', g, r', s', p'⟩ => ⟨G', S', M', r', s', p'⟩) (fun _ _ z => z) (fun _ _ z => z) (fun _ _ z => z)⟩
theorem qs_one (h1 : QS X W st t) : QSs X W [st] t := pss_one h1
theorem qpass : QS X W (.Pass pos) kNil := PS.imp ps_pass fun D σ H h => by
  obtain ⟨G, S, M, r, s, p⟩ := h
  exact p G σ H (Gr.refl G) r s
theorem qbreak : QS X W (.Break pos) kBreak := PS.imp ps_break fun D σ H h => by
  obtain ⟨G, S, M, r, s, p⟩ := h
  exact p G σ H (Gr.refl G) r s
theorem qcont : QS X W (.Continue pos) kCont := PS.imp ps_continue fun D σ H h => by
  obtain ⟨G, S, M, r, s, p⟩ := h
  exact p G σ H (Gr.refl G) r s
theorem qnever : QS X W st kNever := PS.imp ps_never fun D σ H h => by
  obtain ⟨G, S, M, r, s, p⟩ := h
  exact p
theorem qretN : QS X W (.Return none pos) kRetN := PS.imp ps_retN fun D σ H h => by
  obtain ⟨G, S, M, r, s, p⟩ := h
  exact p G .non H (Gr.refl G) r rfl
theorem qret (h : QE X W e f) : QS X W (.Return (some e) pos) (kRet f) := PS.imp (ps_ret h) fun D σ H h => by
  refine Up.imp (UpS.thn h) fun v H1 ⟨G, S, d, M, r, s, q, p⟩ => ?_
  exact p G v H1 (Gr.refl G) r q
theorem qexpr (h : QE X W e f) (hs : swapsWith e none pos.line X.env = pure false := by rfl) : QS X W (.Expr e pos) (kDrop f) := PS.imp (ps_expr h hs) fun D σ H h => by
  refine Up.imp (UpS.thn h) fun v H1 ⟨G, S, d, M, r, s, q, p⟩ => ?_
  exact p G σ H1 (Gr.refl G) r s
theorem qif {c : Expr} {as bs : List Stmt} (hc : QT X W c b) (ha : QSs X W as t) (hb : QSs X W bs u) : QS X W (.If c as bs pos) (kIf b t u) := PS.imp (ps_if hc ha hb) fun D σ H h => by
  refine Up.imp (UpS.thn h) fun v H1 ⟨G, S, d, M, r, s, q, p⟩ => ?_
  subst q
  cases d with
  | true => exact ⟨G, S, M, r, s, p⟩
  | false => exact ⟨G, S, M, r, s, p⟩
theorem qkl {vs : List Nat} (h : QS X W st t) : QS X W st (kKl vs t) := PS.imp h fun D σ H h => by
  obtain ⟨G, S, M, r, s, p⟩ := h
  exact ⟨G, kl vs S, M, r, s.kl, p⟩
end

/-! ### targets -/
abbrev GF := D → Sl → Mem → Res Sl
abbrev GsF := List D → Sl → Mem → Res Sl
def UpG (c : Cn) (W : WX) (g : GF) : TG := fun v σ H Q => ∃ G S M d, Rep c G H M ∧ SlR c G S σ ∧ DV c G d v ∧ Post c W σ G (SlR c) (g d S M) Q
def UpGs (c : Cn) (W : WX) (g : GsF) : TGs := fun v σ H Q => ∃ G S M d, Rep c G H M ∧ SlR c G S σ ∧ DVs c G d v ∧ Post c W σ G (SlR c) (g d S M) Q
def QG (X : Cx) (W : WX) (tg : Expr) (g : GF) : Prop := PG X tg (UpG (cn X) W g)
def QGs (X : Cx) (W : WX) (tg : List Expr) (g : GsF) : Prop := PGs X tg (UpGs (cn X) W g)
theorem PG.imp {X : Cx} {e : Expr} {t t' : TG} (h : PG X e t) (k : ∀ v σ H Q, t' v σ H Q → t v σ H Q) : PG X e t' := ⟨fun pins s σ H v u Q I r z => h.run pins s σ H v u Q I r (k v σ H Q z)⟩
theorem PGs.imp {X : Cx} {e : List Expr} {t t' : TGs} (h : PGs X e t) (k : ∀ v σ H Q, t' v σ H Q → t v σ H Q) : PGs X e t' := ⟨fun pins s σ H v u Q I r z => h.run pins s σ H v u Q I r (k v σ H Q z)⟩
def gN (i : Nat) : GF := fun d S M => .ok (S.set i (some d)) M
def gNilF : GsF := fun ds S M => match ds with
  | [] => .ok S M
  | _ => .bad
def gConsF (g : GF) (r : GsF) : GsF := fun ds S M => match ds with
  | d :: t => (g d S M).bind fun S1 M1 => r t S1 M1
  | _ => .bad
def gTupF (n : Nat) (g : GsF) : GF := fun d S M => match d with
  | .tup ds => if ds.length = n then g ds S M else .bad
  | _ => .bad
section
variable {X : Cx} {W : WX} {pos : Pos} {e : Expr} {es : List Expr} {g : GF} {gs : GsF}
theorem qg_name {i : Nat} {x : Str} (hN : X.N.Nodup) (hi : X.N[i]? = some x) (hx : Loc X.env.scope x := by first | exact .inl rfl | exact .inr rfl) (hf : X.fn x = true ∨ X.env.scope.names.lookup x = some .local := by first | exact .inl rfl | exact .inr rfl) : QG X W (.Name x pos) (gN i) := PG.imp (pg_name hN hi hx hf) fun v σ H Q h => by
  obtain ⟨G, S, M, d, r, s, q, p⟩ := h
  exact p G _ H (Gr.refl G) r (s.set q)
theorem qgs_nil : QGs X W [] gNilF := PGs.imp pgs_nil fun v σ H Q h => by
  obtain ⟨G, S, M, ds, r, s, q, p⟩ := h
  cases ds with
  | nil => exact ⟨q, p G σ H (Gr.refl G) r s⟩
  | cons d t => exact (show False from p).elim
theorem qgs_cons (h1 : QG X W e g) (h2 : QGs X W es gs) (hW : ∀ c d σ σ' H, W c d σ H → W c d σ' H := by exact fun _ _ _ _ _ z => z) (hs : (assignEach (e :: es) X.env).map (·.2) = assign e X.env :: (assignEach es X.env).map (·.2) := by rfl) : QGs X W (e :: es) (gConsF g gs) := PGs.imp (pgs_cons h1 h2 hs) fun vs σ H Q h => by
  obtain ⟨G, S, M, ds, r, s, q, p⟩ := h
  cases ds with
  | nil => exact (show False from p).elim
  | cons d t =>
    obtain ⟨v, vt, rfl, qd, qt⟩ := q
    refine ⟨v, vt, rfl, G, S, M, d, r, s, qd, (Post.bind (rel := SlR (cn X)) p).imp fun σ1 H1 ⟨G1, S1, M1, g1, r1, s1, p1⟩ => ?_⟩
    refine ⟨G1, S1, M1, t, r1, s1, qt.mono g1, ?_⟩
    cases e : gs t S1 M1 with
    | ok S2 M2 => rw [e] at p1; exact p1
    | rz x M2 => rw [e] at p1; exact fun G2 cls dd H2 g2 r2 q2 => hW _ _ _ _ _ (p1 G2 cls dd H2 g2 r2 q2)
    | bad => rw [e] at p1; exact p1
theorem qg_tup {k : Nat} {n : Nat} (hc : X.calm = true) (h : QGs X W es gs) (hn : (assignEach es X.env).length = n := by rfl) (hst : (assignEach es X.env).findIdx? (·.1) = none := by rfl) : QG X W (.Tuple es k pos) (gTupF n gs) := PG.imp (pg_tup hc h hn hst) fun v σ H Q h => by
  obtain ⟨G, S, M, d, r, s, q, p⟩ := h
  unfold gTupF at p
  split at p
  · rename_i ds
    split at p
    · rename_i hl
      obtain ⟨a, vs, rfl, hs, qs⟩ := q
      exact ⟨a, vs, rfl, .inl (.inl (r.fz.tup hs)), by rw [qs.length]; exact hl, G, S, M, ds, r, s, qs, p⟩
    · exact p.elim
  · exact p.elim
end

/-! ### assignments -/
def kAsg (e : EF) (g : GF) : TF := fun S M => (e S M).thn S fun d M1 => (g d S M1).thn S fun S2 M2 => .nx S2 M2
section
variable {X : Cx} {W : WX} {pos : Pos} {e tg : Expr} {f : EF} {g : GF}
theorem up_asg {c : Cn} {σ : St} {H : Hp} {D : Ends} (h : UpS c W (kAsg f g) D σ H) : tAsg (Up c W (DV c) f) (UpG c W g) D σ H := by
  refine Up.imp (UpS.thn h) fun v H1 ⟨G, S, d, M, r, s, q, p⟩ => ?_
  refine ⟨G, S, M, d, r, s, q, (PostS.thnE s p).imp fun σ2 H2 ⟨G2, S2, M2, g2, r2, s2, p2⟩ => ?_⟩
  exact p2 G2 σ2 H2 (Gr.refl _) r2 s2
theorem qasg (he : QE X W e f) (hg : QG X W tg g) (hs : swapsWithSole [tg] e pos.line X.env = pure false := by rfl) (hw : swappedStores [tg] e X.env = pure none := by rfl)
    (h1 : (assignEach [tg] X.env).map (·.2) = [assign tg X.env] := by rfl) : QS X W (.Assign [tg] e pos) (kAsg f g) := PS.imp (ps_asg he hg hs hw h1) fun _ _ _ h => up_asg h
theorem qset {i : Nat} {x : Str} {pos' : Pos} (hN : X.N.Nodup) (hi : X.N[i]? = some x) (he : QE X W e f) (hx : Loc X.env.scope x := by first | exact .inl rfl | exact .inr rfl) (hs : swapsWith e (some (.Name x pos')) pos.line X.env = pure false := by rfl)
    (hf : X.fn x = true ∨ X.env.scope.names.lookup x = some .local := by first | exact .inl rfl | exact .inr rfl) : QS X W (.Assign [.Name x pos'] e pos) (kAsg f (gN i)) := PS.imp (ps_set hN hi hx he hs hf) fun D σ H h => by
  refine Up.imp (UpS.thn h) fun v H1 ⟨G, S, d, M, r, s, q, p⟩ => ?_
  exact p G _ H1 (Gr.refl G) r (s.set q)
/-- a, b = e1, e2 -/
def kPar (i j : Nat) (a : AF) : TF := fun S M => (a S M).thn S fun ds M1 => match ds with
  | [d, e] => .nx ((S.set i (some d)).set j (some e)) M1
  | _ => .bad
theorem qpar {i j : Nat} {x y : Str} {a b : Expr} {ta : AF} {px py pt : Pos} {kt k2 pt2} (hc : X.calm = true) (hN : X.N.Nodup) (hi : X.N[i]? = some x) (hj : X.N[j]? = some y) (hij : i ≠ j)
    (ha : QA X W [a, b] ta) (hx : X.env.scope.names.lookup x = some .local := by rfl) (hy : X.env.scope.names.lookup y = some .local := by rfl)
    (hw : swappedStores [.Tuple [.Name x px, .Name y py] kt pt] (.Tuple [a, b] k2 pt2) X.env = pure (some [x, y]) := by rfl)
    (hs : swapsWithSole [.Tuple [.Name x px, .Name y py] kt pt] (.Tuple [a, b] k2 pt2) pos.line X.env = pure false := by rfl) :
    QS X W (.Assign [.Tuple [.Name x px, .Name y py] kt pt] (.Tuple [a, b] k2 pt2) pos) (kPar i j ta) := PS.imp (ps_par hc hN hi hj hij hx hy ha hw hs) fun D σ H h => by
  refine Up.imp (UpS.thn h) fun v H1 ⟨G, S, d, M, r, s, q, p⟩ => ?_
  split at p
  · rename_i d1 d2
    obtain ⟨v1, t, rfl, q1, v2, t2, rfl, q2, rfl⟩ := q
    exact ⟨v1, v2, rfl, p G _ H1 (Gr.refl G) r ((s.set q1).set q2)⟩
  · exact p.elim
/-- x op= e, on ints -/
def kAug (i : Nat) (e : EF) (o : Int → Int → Int) : TF := fun S M => match S[i]? with
  | some (some (.int a)) => (e S M).thn S fun d M1 => match d with
    | .int b => .nx (S.set i (some (.int (o a b)))) M1
    | _ => .bad
  | _ => .bad
theorem qaug {i : Nat} {x : Str} {op : Operator} {o : Int → Int → Int} {pos' : Pos} (hN : X.N.Nodup) (hi : X.N[i]? = some x) (he : QE X W e f) (ho : PIp X op (ipI o)) (hx : Loc X.env.scope x := by first | exact .inl rfl | exact .inr rfl)
    (hf : X.fn x = true ∨ X.env.scope.names.lookup x = some .local := by first | exact .inl rfl | exact .inr rfl) : QS X W (.AugAssign (.Name x pos') op e pos) (kAug i f o) := PS.imp (ps_aug hN hi hx he ho hf) fun D σ H h => by
  obtain ⟨G, S, M, r, s, p⟩ := h
  unfold kAug at p
  split at p
  · rename_i a ha
    obtain ⟨v, ev, qv⟩ := s.2 i _ ha
    cases (show v = _ from qv)
    refine ⟨_, ev, G, S, M, r, s, (PostS.thnE (rel := DV (cn X)) s p).imp fun u H1 ⟨G1, d, M1, g1, r1, q1, p1⟩ => ?_⟩
    split at p1
    · rename_i b
      cases (show u = _ from q1)
      exact ⟨a, b, rfl, rfl, p1 G1 _ H1 (Gr.refl _) r1 ((s.mono g1).set rfl)⟩
    · exact p1.elim
  · exact p.elim
end

/-! ### while -/
/-- at most n turns -/
def whN (b : BF) (t : TF) (vs : List Nat) : Nat → Sl → Mem → SR
  | 0, _, _ => .bad
  | n + 1, S, M => (b S M).thn S fun x M1 => if x = true then match t S M1 with
      | .nx S2 M2 => whN b t vs n (kl vs S2) M2
      | .ct S2 M2 => whN b t vs n (kl vs S2) M2
      | .bk S2 M2 => .nx S2 M2
      | r => r
    else .nx S M1
open Classical in
noncomputable def kWhile (b : BF) (t : TF) (vs : List Nat) : TF := fun S M => if h : ∃ n, whN b t vs n S M ≠ .bad then whN b t vs h.choose S M else .bad
theorem Res.thn_bad {α : Type} {r : Res α} {S : Sl} {k : α → Mem → SR} (h : r.thn S k ≠ .bad) : r ≠ .bad := fun e => h (by rw [e]; rfl)
theorem whN_more {b : BF} {t : TF} {vs : List Nat} : ∀ {n : Nat} {S : Sl} {M : Mem}, whN b t vs n S M ≠ .bad → whN b t vs (n + 1) S M = whN b t vs n S M
  | 0, S, M, h => absurd rfl h
  | n + 1, S, M, h => by
    rw [whN] at h
    rw [whN, whN]
    cases e : b S M with
    | bad => rfl
    | rz x M1 => rfl
    | ok x M1 =>
      rw [e] at h
      simp only [Res.thn] at h ⊢
      cases x with
      | false => rfl
      | true =>
        simp only [if_true] at h ⊢
        cases e2 : t S M1 with
        | nx S2 M2 => rw [e2] at h; exact whN_more h
        | ct S2 M2 => rw [e2] at h; exact whN_more h
        | bk S2 M2 => rfl
        | rt _ _ => rfl
        | rz _ _ _ => rfl
        | bad => rfl
theorem whN_le {b : BF} {t : TF} {vs : List Nat} {n m : Nat} {S : Sl} {M : Mem} (hm : n ≤ m) (h : whN b t vs n S M ≠ .bad) : whN b t vs m S M = whN b t vs n S M := by
  induction m with
  | zero =>
    have e : n = 0 := by omega
    rw [e]
  | succ m ih =>
    by_cases e : n = m + 1
    · rw [e]
    · have q := ih (by omega)
      rw [whN_more (by rw [q]; exact h), q]
theorem kWhile_of {b : BF} {t : TF} {vs : List Nat} {n : Nat} {S : Sl} {M : Mem} (h : whN b t vs n S M ≠ .bad) : kWhile b t vs S M = whN b t vs n S M := by
  have ex : ∃ n, whN b t vs n S M ≠ .bad := ⟨n, h⟩
  unfold kWhile
  rw [dif_pos ex]
  rcases Nat.le_total n ex.choose with q | q
  · exact whN_le q h
  · exact (whN_le q ex.choose_spec).symm
theorem kWhile_at {b : BF} {t : TF} {vs : List Nat} {S : Sl} {M : Mem} (h : kWhile b t vs S M ≠ .bad) : ∃ n, kWhile b t vs S M = whN b t vs n S M := by
  unfold kWhile at h ⊢
  by_cases ex : ∃ n, whN b t vs n S M ≠ .bad
  · exact ⟨ex.choose, by rw [dif_pos ex]⟩
  · rw [dif_neg ex] at h
    exact absurd rfl h
/-- one turn -/
theorem kWhile_eq (b : BF) (t : TF) (vs : List Nat) (S : Sl) (M : Mem) : kWhile b t vs S M = (b S M).thn S fun x M1 => if x = true then match t S M1 with
      | .nx S2 M2 => kWhile b t vs (kl vs S2) M2
      | .ct S2 M2 => kWhile b t vs (kl vs S2) M2
      | .bk S2 M2 => .nx S2 M2
      | r => r
    else .nx S M1 := by
  have go : ∀ {S2 : Sl} {M2 : Mem}, (∀ n, whN b t vs (n + 1) S M = whN b t vs n S2 M2) → kWhile b t vs S M = kWhile b t vs S2 M2 := fun {S2 M2} h => by
    by_cases ex : ∃ n, whN b t vs n S2 M2 ≠ .bad
    · obtain ⟨n, hn⟩ := ex
      rw [kWhile_of hn, kWhile_of (n := n + 1) (by rw [h]; exact hn), h]
    · have e2 : kWhile b t vs S2 M2 = .bad := by unfold kWhile; rw [dif_neg ex]
      rw [e2]
      unfold kWhile
      rw [dif_neg fun ⟨n, hn⟩ => by
        cases n with
        | zero => exact hn rfl
        | succ n => exact ex ⟨n, by rw [← h]; exact hn⟩]
  have st : ∀ {r : SR}, (∀ n, whN b t vs (n + 1) S M = r) → kWhile b t vs S M = r := fun {r} h => by
    by_cases hr : r = .bad
    · subst hr
      unfold kWhile
      rw [dif_neg fun ⟨n, hn⟩ => by
        cases n with
        | zero => exact hn rfl
        | succ n => exact hn (h n)]
    · rw [kWhile_of (n := 1) (by rw [h]; exact hr), h]
  cases e : b S M with
  | bad => exact st fun n => by rw [whN, e]; rfl
  | rz x M1 => exact st fun n => by rw [whN, e]; rfl
  | ok x M1 =>
    simp only [Res.thn]
    cases x with
    | false => exact st fun n => by rw [whN, e]; rfl
    | true =>
      simp only [if_true]
      cases e2 : t S M1 with
      | nx S2 M2 => exact go fun n => by rw [whN, e]; simp only [Res.thn, if_true, e2]
      | ct S2 M2 => exact go fun n => by rw [whN, e]; simp only [Res.thn, if_true, e2]
      | bk S2 M2 => exact st fun n => by rw [whN, e]; simp only [Res.thn, if_true, e2]
      | rt _ _ => exact st fun n => by rw [whN, e]; simp only [Res.thn, if_true, e2]
      | rz _ _ _ => exact st fun n => by rw [whN, e]; simp only [Res.thn, if_true, e2]
      | bad => exact st fun n => by rw [whN, e]; simp only [Res.thn, if_true, e2]
theorem qwhile {X : Cx} {W : WX} {pos : Pos} {c : Expr} {body : List Stmt} {b : BF} {t : TF} {vs : List Nat} (hp : PassesOwn (model X.prog X.w) X.A X.env X.xe) (hc : QT X W c b) (hb : QSs X W body t) : QS X W (.While c body [] pos) (kWhile b t vs) :=
  PS.imp (ps_while hp hc hb) fun D σ H h => by
    obtain ⟨G, S, M, r, s, p⟩ := h
    have nb : kWhile b t vs S M ≠ .bad := fun e => by rw [e] at p; exact p
    obtain ⟨n, en⟩ := kWhile_at nb
    rw [en] at p
    refine ⟨fun m σ H => ∃ G S M, Rep (cn X) G H M ∧ SlR (cn X) G S σ ∧ PostS (cn X) W G D (whN b t vs m S M), ⟨n, G, S, M, r, s, p⟩, fun m σ H ⟨G, S, M, r, s, p⟩ => ?_⟩
    cases m with
    | zero => exact (show False from p).elim
    | succ m =>
      rw [whN] at p
      refine ⟨G, S, M, r, s, (PostS.thnE (rel := fun _ (a b : Bool) => a = b) s p).imp fun x H1 ⟨G1, d, M1, g1, r1, q1, p1⟩ => ?_⟩
      subst q1
      cases d with
      | false => exact p1 G1 σ H1 (Gr.refl _) r1 (s.mono g1)
      | true =>
        refine ⟨fun σ H => ∃ G S M, Rep (cn X) G H M ∧ SlR (cn X) G S σ ∧ PostS (cn X) W G D (whN b t vs m S M), fun σ' H' z => ⟨m, Nat.lt_succ_self m, z⟩, G1, S, M1, r1, s.mono g1, ?_⟩
        simp only [if_true] at p1
        cases e : t S M1 with
        | nx S2 M2 => rw [e] at p1; exact fun G2 σ2 H2 g2 r2 s2 => ⟨G2, _, M2, r2, s2.kl, PostS.mono g2 p1⟩
        | ct S2 M2 => rw [e] at p1; exact fun G2 σ2 H2 g2 r2 s2 => ⟨G2, _, M2, r2, s2.kl, PostS.mono g2 p1⟩
        | bk S2 M2 => rw [e] at p1; exact p1
        | rt _ _ => rw [e] at p1; exact p1
        | rz _ _ _ => rw [e] at p1; exact p1
        | bad => rw [e] at p1; exact p1
end QL
end
section
set_option Elab.async false
set_option linter.all false
set_option maxRecDepth 100000
set_option maxHeartbeats 4000000
/-! QGrd: defs and calls where it is known that no repr is under way (repr of a list or a tuple asks it). -/
namespace QL
open PySem PySem.Spec L2
open PyProof.Rows (envOfC IntsAre AllBare)
open Classical (em)
set_option autoImplicit false
structure RoomG (n : Nat) (B : Around) : Prop extends L2.Room n B where
  gd : B.guards = some []
theorem RoomG.mono {j n : Nat} {B : Around} (r : RoomG n B) (h : j ≤ n) : RoomG j B := ⟨r.toRoom.mono h, r.gd⟩
theorem RoomG.deeper {n : Nat} {B : Around} (r : RoomG (n + 1) B) (env : Env) : RoomG n (B.deeper env) := ⟨r.toRoom.deeper env, r.gd⟩
theorem make_guards {B : Around} {C : Addr} {us : List Value} {kw : List (Str × Value)} : (B.under (.builtin "type.__call__" ⟨.ref C :: us, kw⟩)).guards = B.guards := by
  have e : (Code.builtin "type.__call__" ⟨.ref C :: us, kw⟩).guards = [] := by
    first | rfl | simp [Code.guards, Code.isGuard, guardIds]
  have u : (B.under (.builtin "type.__call__" ⟨.ref C :: us, kw⟩)).guards = pushGuards (Code.builtin "type.__call__" ⟨.ref C :: us, kw⟩).guards B.guards := rfl
  rw [u, e]
  cases B.guards <;> rfl
theorem RoomG.make {n : Nat} {B : Around} (r : RoomG (n + 1) B) (C : Addr) (us : List Value) (kw : List (Str × Value)) : RoomG n (B.under (.builtin "type.__call__" ⟨.ref C :: us, kw⟩)) :=
  ⟨r.toRoom.make C us kw, by rw [make_guards]; exact r.gd⟩
/-- as the kit's promise of a def, where it is known that no repr is under way -/
structure FnOkG (P : Program) (w : World) (K : PySem.W.Frag) (mg : Str → Option Value) (base : Heap) (n : Nat) (g : Addr) (fd : FuncData) (ps : List Str) (sp : Sp) : Prop where
  len : ∀ xs H Q E, sp xs H Q E → xs.length = ps.length
  run : ∀ (B : Around) (outer : List Env) (s : Shared) (H : Hp) (args : Args) (us : List Value) (xs : List V) (Q : VK) (E : XK), RoomG n B → Env0 P w K mg base B outer s H → BindsTo s fd args (ps.zip us) → Vals xs us → sp xs H Q E → codeAny (model P w) B (.call (.ref g) args) (CR (L2.CX P w) outer P w H s Q E) s
section
variable {P : Program} {w : World} {K : PySem.W.Frag} {mg : Str → Option Value} {base : Heap}
theorem Fun.okG {x qual : Str} {st : Stmt} {g : Addr} {fd : FuncData} {N ps : List Str} {n : Nat} {sp : Sp} (F : Fun K x qual st g fd) (S : FnScope N ps (defScope st)) (len : ∀ xs H Q E, sp xs H Q E → xs.length = ps.length)
    (body : ∀ (cdv : Value) (B : Around) (outer : List Env) (s : Shared) (H : Hp) (xs : List V) (Q : VK) (E : XK), RoomG n (B.deeper (envOfC qual (defScope st) s.heap.objs.size g cdv)) → sp xs H Q E → ∃ t, PSs (cxOf (L2.CX P w) P w K mg base N qual (defScope st) g cdv B outer s H E) (defBody st) t ∧ t { nx := fun _ H' => Q .non H', rt := Q } (start N xs) H) : FnOkG P w K mg base (n + 1) g fd ps sp := by
  obtain ⟨oc, od, kV, doc, pm, an, cdv, ct, osl, rfl, lk, hcd⟩ := F.ex
  refine ⟨len, fun B outer s H args us xs Q E room e0 hb r hsp => ?_⟩
  have hl := len _ _ _ _ hsp
  have KX : K.In s.heap := e0.mod.kin.keeps fun b o z => (e0.bs b o z).1
  have nolim : s.heap.NoLimit := e0.mod.nolimit.keeps fun b o z => (e0.bs b o z).1
  have kinds : ∀ y ∈ ps.zip us, (defScope st).names.lookup y.1 = some .local ∨ ((defScope st).names.lookup y.1 = some .cell ∧ ((cellsFrom (s.heap.objs.size + 1) (defScope st).names []).lookup y.1).isSome = true) := by
    rintro ⟨m, v⟩ hy
    exact (S.par m (List.of_mem_zip hy).1).elim .inl fun z => .inr ⟨z, PySem.W.cellsFrom_some _ _ _ (.inl z)⟩
  refine codeAny_call_function room.depth (KX _ _ lk) rfl S.co S.gen rfl (PySem.W.codeRec_of KX hcd) (hb _ _ _ _ (wpAny_newFunctionEnv_cells S.kind kinds fun env he s1 z => ?_))
  subst he
  refine ⟨nolim.keeps z.toInCall.keep, codeAny_func ?_⟩
  obtain ⟨t, ht, hq⟩ := body cdv B outer s H xs Q E (room.deeper _) hsp
  have I : Inv (cxOf (L2.CX P w) P w K mg base N qual (defScope st) g cdv B outer s H E) [] (start N xs) H s1 := inv_start S room.hd e0 hl r z
  have fin : ∀ {σ' : St} {H' : Hp} {v : V} {u : Value} {s' : Shared}, Inv (cxOf (L2.CX P w) P w K mg base N qual (defScope st) g cdv B outer s H E) [] σ' H' s' → RelV v u → Q v H' → CE outer P w H s Q u s' := fun J rv q => ⟨_, _, J.os, J.bare, J.base, J.hok, rv, q⟩
  refine wpAny_mono (ht.run [] s1 (start N xs) H _ I hq) (fun fl s' hs => ?_) fun _ _ z => z
  cases fl with
  | ret u => exact (let ⟨v, σ', H', J, rv, q⟩ := hs; fin J rv q)
  | next => exact (let ⟨σ', H', J, q⟩ := hs; fin (v := V.non) (u := Value.none) J rfl q)
  | brk => exact False.elim (let ⟨_, _, _, q⟩ := hs; q)
  | cont => exact False.elim (let ⟨_, _, _, q⟩ := hs; q)
end
section
variable {X : Cx} {n : Nat} {g C : Addr} {fd : FuncData} {ps : List Str} {sp : Sp} {E : St → XK} {x m : Str} {p pos apos : Pos} {e o : Expr} {es : List Expr} {ta : TE} {t : TA}
theorem run_fnG {pins : List (Addr × Obj)} {σ : St} {H : Hp} {s : Shared} {Q : VK} {us : List Value} {xs : List V} (F : FnOkG X.prog X.w X.K X.mg X.base n g fd ps sp) (room : RoomG n X.A) (hb : Binds X.K fd ps []) (out : PassesAt (L2.CX X.prog X.w) X σ (E σ))
    (I : Inv X pins σ H s) (r : Vals xs us) (h : sp xs H Q (E σ)) : wpAny (model X.prog X.w) X.A (call (.ref g) us) (EP X pins σ Q) X.xe s := by
  have bind0 := hb s us I.kIn (by rw [List.append_nil, ← r.length]; exact F.len _ _ _ _ h)
  rw [List.append_nil] at bind0
  refine wpAny_call (codeAny_mono (F.run X.A X.stack s H ⟨us, []⟩ us xs Q (E σ) room I.env0 bind0 r h) fun res s' z => ?_)
  match res, z with
  | .error err, z => exact out pins H s err s' I z
  | .ok (.ret u), z => exact I.after z
  | .ok .next, z => exact (show False from z).elim
  | .ok .brk, z => exact (show False from z).elim
  | .ok .cont, z => exact (show False from z).elim
theorem pe_callG (F : FnOkG X.prog X.w X.K X.mg X.base n g fd ps sp) (room : RoomG n X.A) (gl : Gl X x) (hm : X.mg x = some (.ref g)) (kp : PySem.W.keepIn X.K (.ref g) = true) (hb : Binds X.K fd ps []) (out : ∀ σ, PassesAt (L2.CX X.prog X.w) X σ (E σ)) (ha : PA X (e :: es) t)
    (hdb : (x == ("__debug__" : Str)) = false := by decide) (he : starEach (e :: es) X.env = (false, eval e X.env) :: starEach es X.env := by rfl) (hpl : (backTo pos (starEach es X.env)).any (·.1) = false := by rfl) : PE X (.Call (.Name x p) (e :: es) [] pos) (tCallS sp E t) :=
  ⟨fun pins s σ H Q I h => wpAny_Call_Name_kw (ld_glob I gl hm (PySem.W.callWith_K (h₀ := X.base) I.ok.mod.kin kp (thn (ha.run pos pins s σ H _ I h) fun us s1 ⟨xs, H1, I1, r, q⟩ => ⟨I1.kIn, run_fnG F room hb (out σ) I1 r q⟩) he hpl) hdb)⟩
end
/-- the law's promise, at the heap behind the top -/
theorem law_callG {P : Program} {w : World} {K : PySem.W.Frag} {mg mb : Str → Option Value} {n : Nat} {fa a : Addr} {fd : FuncData} {x : Str} {sp : Sp} {s0 : Shared} {vs : List Value} {ns : List Int}
    (KX : K.In s0.heap) (hns : s0.heap.Ns mainGlobals mg) (hb : s0.heap.Ns builtinsNs mb) (hbb : ∀ y : Str, y ≠ "__name__" → mb y = bootBuiltins y) (hlim : s0.heap.NoLimit) (hg : s0.gens = #[]) (ha : s0.heap.get? a = some { cls := .type "list", data := .seq vs.toArray }) (hi : IntsAre vs ns) (hl : ns.length ≤ sizeLine) (room : RoomG n callerA)
    (F : ∀ base : Heap, K.In base → base.Ns mainGlobals mg → FnOkG P w K mg base n fa fd [x] sp) (hbind : ∀ (s : Shared) (u : Value), BindsTo s fd ⟨[u], []⟩ [(x, u)]) (hsp : ∀ H : Hp, Only H → SqL K H a (ns.map V.int) → sp [.ref a] H (fun v _ => v = .bl true) fun _ _ _ => False)
    (hCX : ∀ H e s', L2.CX P w [] H s0 (fun _ _ _ => False) e s' → False) : codeAny (model P w) callerA (.call (.ref fa) ⟨[.ref a], []⟩) (fun r s' => r = .ok (.ret (.bool true)) ∧ OldK s0.heap s'.heap ∧ s'.os = s0.os ∧ AllBare s'.gens) s0 := by
  have rv := vals_ints hi
  have lenV := hi.length
  have core : ∀ H : Hp, Only H → SqL K H a (ns.map V.int) → HOk P w H s0.heap → (∀ b, H b ≠ none → b = a) → (H a ≠ none → K.lookup a = none) → codeAny (model P w) callerA (.call (.ref fa) ⟨[.ref a], []⟩) (fun r s' => r = .ok (.ret (.bool true)) ∧ OldK s0.heap s'.heap ∧ s'.os = s0.os ∧ AllBare s'.gens) s0 := by
    intro H only hS hok one away
    have bo : ∀ {b : Addr} {o : Obj}, s0.heap.get? b = some o → H b = none → (hidT s0.heap H).get? b = some o := fun e z => hidT_get e z
    have noD : ∀ {b : Addr} {o : Obj} {es : Array DictEntry} {ep : Nat}, s0.heap.get? b = some o → o.data = .dict es ep → H b = none := by
      intro b o es ep e d
      match q : H b with
      | none => rfl
      | some u =>
        have z : b = a := one b (by rw [q]; simp)
        rw [z, ha] at e
        cases e
        have d' : Data.seq vs.toArray _ = Data.dict es ep := d
        cases d'
    have nK : ∀ {b : Addr} {m : Str → Option Value}, s0.heap.Ns b m → (hidT s0.heap H).Ns b m := by
      rintro b m ⟨o, es, ep, e, d, r⟩
      exact ⟨o, es, ep, bo e (noD e d), d, r⟩
    have kb : K.In (hidT s0.heap H) := by
      intro b o e
      refine bo (KX b o e) ?_
      match q : H b with
      | none => rfl
      | some u =>
        have z : b = a := one b (by rw [q]; simp)
        subst z
        rw [away (by rw [q]; simp)] at e
        cases e
    have md : Mod K mg (hidT s0.heap H) := ⟨kb, nK hns, ⟨mb, nK hb, hbb⟩, let ⟨mc, h1, h2⟩ := hlim; ⟨mc, nK h1, h2⟩⟩
    have e0 : Env0 P w K mg (hidT s0.heap H) callerA [] s0 H := ⟨rfl, md, fun b o e => of_hidT e, Nat.le_of_eq (hidT_size _ _), trivial, fun b z => absurd (show b ∈ ([] : List Addr) from z) (by simp), hok, .of_eq hg⟩
    refine codeAny_mono ((F _ kb (nK hns)).run callerA [] s0 H ⟨[.ref a], []⟩ [.ref a] [.ref a] _ _ room e0 (hbind s0 (.ref a)) (.cons rfl .nil) (hsp H only hS)) fun res s' z => ?_
    match res, z with
    | .error e, z => exact (hCX H e s' z).elim
    | .ok .next, z => exact (show False from z).elim
    | .ok .brk, z => exact (show False from z).elim
    | .ok .cont, z => exact (show False from z).elim
    | .ok (.ret u), z =>
      obtain ⟨v, H', os, bare, un, hok', r', q⟩ := z
      have ev : v = .bl true := q
      subst ev
      obtain rfl : u = Value.bool true := r'
      refine ⟨rfl, OldK.of_keep fun b o e => ?_, os, bare⟩
      rcases only b with k | ⟨ob, xs, k⟩
      · exact un.keep b o e k (by intro z; exact absurd (show b ∈ ([] : List Addr) from z) (by simp)) (by simp)
      · obtain ⟨e1, _⟩ := hok b _ k
        obtain ⟨e2, _⟩ := hok' b _ (un.frzs b ob _ k)
        rw [e] at e1
        cases e1
        exact e2
  match hk : K.lookup a with
  | some o =>
    have e := KX a o hk
    rw [ha] at e
    cases e
    exact core (fun _ => none) (fun _ => .inl rfl) (.inr ⟨_, vs.toArray, _, hk, rfl, rfl, rfl, by rw [List.size_toArray, lenV]; exact hl, by simpa using rv⟩) (fun b u z => nomatch (show (none : Option HO) = some u from z)) (fun b z => absurd rfl z) fun z => absurd rfl z
  | none =>
    have no : ∀ {b : Addr} {u : HO}, b ≠ a → ¬ (if b = a then some (HO.frz { cls := .type "list", data := .seq vs.toArray } (.lst (ns.map V.int))) else none) = some u := fun h z => nomatch (if_neg h).symm.trans z
    refine core (fun b => if b = a then some (.frz { cls := .type "list", data := .seq vs.toArray } (.lst (ns.map V.int))) else none) (fun b => ?_) (.inl (.inr ⟨_, if_pos rfl⟩)) (fun b u z => ?_) (fun b z => ?_) fun _ => hk
    · exact (em (b = a)).elim (fun y => .inr ⟨_, _, if_pos y⟩) fun y => .inl (if_neg y)
    · rcases em (b = a) with y | y
      · subst y
        have z' := (if_pos rfl).symm.trans z
        cases z'
        exact ⟨ha, by rw [List.length_map]; exact hl, vs, _, rv, ha⟩
      · exact absurd z (no y)
    · exact (em (b = a)).elim id fun y => absurd (if_neg y) z
end QL
end
section
set_option Elab.async false
set_option linter.all false
set_option maxRecDepth 100000
set_option maxHeartbeats 4000000
/-! QCall: what a def keeps behind it, calls, defs, instances. -/
namespace QL
open PySem PySem.Spec L2
open PyProof.Rows (envOfC)
set_option autoImplicit false

/-! ### data that name no place of the store from n on -/
mutual
def lowD (n : Nat) : D → Bool
  | .ptr k => decide (k < n)
  | .tup ds => lowDs n ds
  | .lst ds => lowDs n ds
  | .dK kvs => lowK n kvs
  | .dT kvs => lowT n kvs
  | .obj _ fs => lowF n fs
  | .exc _ _ _ fs => lowF n fs
  | _ => true
def lowDs (n : Nat) : List D → Bool
  | [] => true
  | d :: r => lowD n d && lowDs n r
def lowK (n : Nat) : List (Key × D) → Bool
  | [] => true
  | d :: r => lowK1 n d && lowK n r
def lowK1 (n : Nat) : Key × D → Bool
  | (_, d) => lowD n d
def lowT (n : Nat) : List (List Key × D) → Bool
  | [] => true
  | d :: r => lowT1 n d && lowT n r
def lowT1 (n : Nat) : List Key × D → Bool
  | (_, d) => lowD n d
def lowF (n : Nat) : List (Str × D) → Bool
  | [] => true
  | d :: r => lowF1 n d && lowF n r
def lowF1 (n : Nat) : Str × D → Bool
  | (_, d) => lowD n d
end
def lowO (n : Nat) : MO → Bool
  | .lst ds => lowDs n ds
  | .dK kvs => lowK n kvs
  | .dT kvs => lowT n kvs
  | .obj _ fs => lowF n fs
  | .lkK kvs => lowK n kvs
  | .lkT kvs => lowT n kvs
  | .gone => true
def lowM (n : Nat) (M : Mem) : Bool := M.all (lowO n)
def cutG (n : Nat) (G : Gd) : Gd := ⟨G.F, G.θ.take n, G.P⟩
section
variable {c : Cn} {G : Gd} {n : Nat}
theorem and2 {a b : Bool} (h : (a && b) = true) : a = true ∧ b = true := Bool.and_eq_true_iff.mp h
mutual
theorem DV.low : ∀ {d : D} {v : V}, lowD n d = true → DV c G d v → DV c (cutG n G) d v
  | .non, _, _, h => h
  | .bl _, _, _, h => h
  | .int _, _, _, h => h
  | .str _, _, _, h => h
  | .ptr k, _, l, h => by
    obtain ⟨a, e, z⟩ := h
    have hk : k < n := of_decide_eq_true (by simpa [lowD] using l)
    exact ⟨a, by show (G.θ.take n)[k]? = some a; rw [List.getElem?_take_of_lt hk]; exact e, z⟩
  | .raw _, _, _, h => h
  | .tup _, _, l, h => let ⟨a, vs, e, q, r⟩ := h; ⟨a, vs, e, q, DVs.low (by simpa [lowD] using l) r⟩
  | .lst _, _, l, h => let ⟨a, vs, e, q, r⟩ := h; ⟨a, vs, e, q, DVs.low (by simpa [lowD] using l) r⟩
  | .dK _, _, l, h => let ⟨a, vs, o, e, q, r⟩ := h; ⟨a, vs, o, e, q, DVk.low (by simpa [lowD] using l) r⟩
  | .dT _, _, l, h => let ⟨a, vs, o, e, q, r⟩ := h; ⟨a, vs, o, e, q, DVt.low (by simpa [lowD] using l) r⟩
  | .obj _ _, _, l, h => let ⟨a, C, dx, vs, e, q, m, r⟩ := h; ⟨a, C, dx, vs, e, q, m, DVf.low (by simpa [lowD] using l) r⟩
  | .exc _ _ _ _, _, l, h => let ⟨e, m, vs, q, r⟩ := h; ⟨e, m, vs, q, DVf.low (by simpa [lowD] using l) r⟩
theorem DVs.low : ∀ {ds : List D} {vs : List V}, lowDs n ds = true → DVs c G ds vs → DVs c (cutG n G) ds vs
  | [], _, _, h => h
  | _ :: _, _, l, h => let ⟨v, t, e, q, r⟩ := h; have z := and2 (by simpa [lowDs] using l); ⟨v, t, e, DV.low z.1 q, DVs.low z.2 r⟩
theorem DVk.low : ∀ {ds : List (Key × D)} {vs : List (Key × V)}, lowK n ds = true → DVk c G ds vs → DVk c (cutG n G) ds vs
  | [], _, _, h => h
  | (_, _) :: _, _, l, h => let ⟨v, t, e, q, r⟩ := h; have z := and2 (by simpa [lowK, lowK1] using l); ⟨v, t, e, ⟨q.1, DV.low z.1 q.2⟩, DVk.low z.2 r⟩
theorem DVt.low : ∀ {ds : List (List Key × D)} {vs : List (List Key × V)}, lowT n ds = true → DVt c G ds vs → DVt c (cutG n G) ds vs
  | [], _, _, h => h
  | (_, _) :: _, _, l, h => let ⟨v, t, e, q, r⟩ := h; have z := and2 (by simpa [lowT, lowT1] using l); ⟨v, t, e, ⟨q.1, DV.low z.1 q.2⟩, DVt.low z.2 r⟩
theorem DVf.low : ∀ {ds : List (Str × D)} {vs : List (Str × V)}, lowF n ds = true → DVf c G ds vs → DVf c (cutG n G) ds vs
  | [], _, _, h => h
  | (_, _) :: _, _, l, h => let ⟨v, t, e, q, r⟩ := h; have z := and2 (by simpa [lowF, lowF1] using l); ⟨v, t, e, ⟨q.1, DV.low z.1 q.2⟩, DVf.low z.2 r⟩
end
theorem MOk.low {H : Hp} {mo : MO} {a : Addr} (l : lowO n mo = true) (h : MOk c G H mo a) : MOk c (cutG n G) H mo a := by
  cases mo with
  | lst ds => obtain ⟨vs, e, r⟩ := h; exact ⟨vs, e, r.low l⟩
  | dK ds => obtain ⟨vs, e, r⟩ := h; exact ⟨vs, e, r.low l⟩
  | dT ds => obtain ⟨vs, e, r⟩ := h; exact ⟨vs, e, r.low l⟩
  | obj n fs => obtain ⟨C, dx, vs, e, m, r⟩ := h; exact ⟨C, dx, vs, e, m, r.low l⟩
  | lkK ds => obtain ⟨vs, o, e, r⟩ := h; exact ⟨vs, o, e, r.low l⟩
  | lkT ds => obtain ⟨vs, o, e, r⟩ := h; exact ⟨vs, o, e, r.low l⟩
  | gone => exact h
theorem Rep.cut {H : Hp} {M : Mem} (r : Rep c G H M) (l : lowM n (M.take n) = true) : Rep c (cutG n G) H (M.take n) := by
  have at1 : ∀ {k : Nat} {mo : MO}, (M.take n)[k]? = some mo → M[k]? = some mo ∧ k < n := fun {k mo} h => by
    have hk := (List.getElem?_eq_some_iff.mp h).1
    rw [List.length_take] at hk
    rw [List.getElem?_take_of_lt (by omega)] at h
    exact ⟨h, by omega⟩
  have at2 : ∀ {k : Nat} {a : Addr}, k < n → (G.θ.take n)[k]? = some a → G.θ[k]? = some a := fun {k a} hk h => by
    rwa [List.getElem?_take_of_lt hk] at h
  refine ⟨r.fz, by show (G.θ.take n).length = _; rw [List.length_take, List.length_take, r.len], r.nd.sublist (List.take_sublist _ _), fun k mo a e1 e2 => ?_, fun k mo a e1 e2 lv => ?_, fun a ha => r.liv a (List.mem_of_mem_take ha), fun q hq => let ⟨h1, h2, h3⟩ := r.pin q hq; ⟨h1, h2, fun z => h3 (List.mem_of_mem_take z)⟩⟩
  · obtain ⟨q, hk⟩ := at1 e1
    exact (r.mem k mo a q (at2 hk e2)).low (List.all_eq_true.mp l mo (List.mem_of_getElem? e1))
  · obtain ⟨q, hk⟩ := at1 e1
    exact r.sep k mo a q (at2 hk e2) lv
theorem Gr.cut {G' : Gd} (g : Gr G G') (h : G.θ.length = n) : Gr G (cutG n G') := by
  obtain ⟨m, e⟩ := g.θ
  exact ⟨⟨g.F, [], by show G'.θ.take n = _; rw [e, ← h, List.take_left, List.append_nil]⟩, g.P⟩
theorem ExV.low {x : Ex} {cls : Value} {d : Option Addr} (l : lowF n x.fs = true) (h : ExV c G x cls d) : ExV c (cutG n G) x cls d := by
  obtain ⟨C, m, e, h⟩ := h
  rcases h with h | ⟨a, ws, e1, e2, r⟩
  · exact ⟨C, m, e, .inl h⟩
  · exact ⟨C, m, e, .inr ⟨a, ws, e1, e2, r.low l⟩⟩
end
/-- what a def made for itself is let go -/
def settle (n : Nat) (r : Res D) : Res D := match r with
  | .ok d M => if M.length ≤ n then .ok d M else if lowD n d = true ∧ lowM n (M.take n) = true then .ok d (M.take n) else .ok d M
  | .rz x M => if M.length ≤ n then .rz x M else if lowF n x.fs = true ∧ lowM n (M.take n) = true then .rz x (M.take n) else .rz x M
  | .bad => .bad
def SR.fin (r : SR) : Res D := match r with
  | .nx _ M => .ok .non M
  | .rt d M => .ok d M
  | .rz x _ M => .rz x M
  | _ => .bad
/-- a def of n parameters and m further names -/
def runF (n m : Nat) (t : TF) (ds : List D) (M : Mem) : Res D := if ds.length = n then settle M.length (t (ds.map some ++ List.replicate m none) M).fin else .bad

def WF (E : XK) : WX := fun cls d _ H => E cls d H
/-- a def's promise -/
def spF (c : Cn) (f : List D → Mem → Res D) : Sp := fun vs H Q E => ∃ G ds M, Rep c G H M ∧ DVs c G ds vs ∧ Post c (WF E) [] G (DV c) (f ds M) Q
theorem Post.wish {α β : Type} {c : Cn} {W W' : WX} {σ σ' : St} {G : Gd} {rel : Gd → α → β → Prop} {r : Res α} {Q : β → Hp → Prop} (h : Post c W σ G rel r Q) (k : ∀ cls dd H, W cls dd σ H → W' cls dd σ' H) : Post c W' σ' G rel r Q := by
  cases r with
  | ok d M => exact h
  | rz x M => exact fun G2 cls dd H g r e => k _ _ _ (h G2 cls dd H g r e)
  | bad => exact h
theorem Post.settle {c : Cn} {W : WX} {σ : St} {G : Gd} {r : Res D} {Q : VK} (h : Post c W σ G (DV c) (settle G.θ.length r) Q) : Post c W σ G (DV c) r Q := by
  cases r with
  | ok d M =>
    intro G' v H g rp q
    unfold QL.settle at h
    simp only at h
    split at h
    · exact h G' v H g rp q
    · split at h
      · rename_i z
        exact h (cutG G.θ.length G') v H (g.cut rfl) (rp.cut z.2) (q.low z.1)
      · exact h G' v H g rp q
  | rz x M =>
    intro G' cls dd H g rp q
    unfold QL.settle at h
    simp only at h
    split at h
    · exact h G' cls dd H g rp q
    · split at h
      · rename_i z
        exact h (cutG G.θ.length G') cls dd H (g.cut rfl) (rp.cut z.2) (q.low z.1)
      · exact h G' cls dd H g rp q
  | bad => exact h
section
variable {P : Program} {w : World} {K : PySem.W.Frag} {mg : Str → Option Value} {base : Heap}
theorem DVs.slots {c : Cn} {G : Gd} {ds : List D} {vs : List V} {N : List Str} {m : Nat} (h : DVs c G ds vs) (hN : N.length = ds.length + m) : SlR c G (ds.map some ++ List.replicate m none) (L2.start N vs) := by
  have hl := h.length
  unfold L2.start
  refine ⟨by simp; omega, fun i d e => ?_⟩
  by_cases hi : i < ds.length
  · rw [List.getElem?_append_left (by simpa using hi), List.getElem?_map] at e
    obtain ⟨d', e1, e2⟩ : ∃ d', ds[i]? = some d' ∧ some d' = some d := by
      cases q : ds[i]? with
      | none => rw [q] at e; cases e
      | some d' => rw [q] at e; exact ⟨d', rfl, Option.some.inj e⟩
    cases e2
    obtain ⟨v, e3, r⟩ := h.get e1
    exact ⟨v, by rw [List.getElem?_append_left (by simp; omega), List.getElem?_map, e3]; rfl, r⟩
  · rw [List.getElem?_append_right (by simpa using Nat.le_of_not_lt hi), List.getElem?_replicate] at e
    split at e <;> cases e
/-- the context of a def's body -/
abbrev cxQ (P : Program) (w : World) (K : PySem.W.Frag) (mg : Str → Option Value) (base : Heap) (N : List Str) (qual : Str) (st : Stmt) (f : Addr) (cdv : Value) (A : Around) (outer : List Env) (s : Shared) (H : Hp) (E : XK) : Cx :=
  cxOf (L2.CX P w) P w K mg base N qual (defScope st) f cdv A outer s H E
theorem takesQ {N : List Str} {qual : Str} {st : Stmt} {f : Addr} {cdv : Value} {A : Around} {outer : List Env} {s : Shared} {H : Hp} {E : XK} : Takes (cxQ P w K mg base N qual st f cdv A outer s H E) (WF E) := takes_of rfl rfl rfl rfl
theorem passesQ {N : List Str} {qual : Str} {st : Stmt} {f : Addr} {cdv : Value} {A : Around} {outer : List Env} {s : Shared} {H : Hp} {E : XK} :
    PassesOwn (model (cxQ P w K mg base N qual st f cdv A outer s H E).prog (cxQ P w K mg base N qual st f cdv A outer s H E).w) (cxQ P w K mg base N qual st f cdv A outer s H E).A (cxQ P w K mg base N qual st f cdv A outer s H E).env (cxQ P w K mg base N qual st f cdv A outer s H E).xe := passes_of rfl
/-- THE RULE for a def -/
theorem okQ {x qual : Str} {st : Stmt} {f : Addr} {fd : FuncData} {N ps : List Str} {k m : Nat} {t : TF} (F : Fun K x qual st f fd) (S : FnScope N ps (defScope st)) (hN : N.length = ps.length + m)
    (hb : ∀ (cdv : Value) (A : Around) (outer : List Env) (s : Shared) (H : Hp) (E : XK), RoomG k (A.deeper (envOfC qual (defScope st) s.heap.objs.size f cdv)) → QSs (cxQ P w K mg base N qual st f cdv A outer s H E) (WF E) (defBody st) t) :
    FnOkG P w K mg base (k + 1) f fd ps (spF ⟨K, mg⟩ (runF ps.length m t)) := by
  refine Fun.okG F S (fun vs H Q E h => ?_) (fun cdv A outer s H vs Q E hr h => ?_)
  · obtain ⟨G, ds, M, r, q, p⟩ := h
    unfold runF at p
    split at p
    · rename_i e
      rw [q.length, e]
    · exact p.elim
  · obtain ⟨G, ds, M, r, q, p⟩ := h
    refine ⟨_, hb cdv A outer s H E hr, ?_⟩
    unfold runF at p
    split at p
    · rename_i e
      rw [← r.len] at p
      have p := Post.settle p
      refine ⟨G, ds.map some ++ List.replicate m none, M, r, q.slots (by rw [e]; exact hN), ?_⟩
      cases e2 : t (ds.map some ++ List.replicate m none) M with
      | nx S2 M2 => rw [e2] at p; exact fun G2 σ2 H2 g2 r2 s2 => p G2 .non H2 g2 r2 rfl
      | rt d M2 => rw [e2] at p; exact p
      | bk S2 M2 => rw [e2] at p; exact p.elim
      | ct S2 M2 => rw [e2] at p; exact p.elim
      | rz x S2 M2 => rw [e2] at p; exact fun G2 cls dd σ2 H2 g2 r2 s2 q2 => p G2 cls dd H2 g2 r2 q2
      | bad => rw [e2] at p; exact p.elim
    · exact p.elim
/-- the def of that name is there and keeps f -/
def Has (P : Program) (w : World) (K : PySem.W.Frag) (mg : Str → Option Value) (base : Heap) (k : Nat) (name : Str) (ps : List Str) (g : List D → Mem → Res D) : Prop :=
  ∃ f fd, mg name = some (.ref f) ∧ PySem.W.keepIn K (.ref f) = true ∧ Binds K fd ps [] ∧ FnOkG P w K mg base k f fd ps (spF ⟨K, mg⟩ g)
/-- the def as the top has left it -/
def Raw (K : PySem.W.Frag) (mg : Str → Option Value) (name : Str) (st : Stmt) (ps : List Str) : Prop :=
  ∃ f fd, mg name = some (.ref f) ∧ Fun K name name st f fd ∧ Binds K fd ps []
theorem Raw.has {name : Str} {st : Stmt} {N ps : List Str} {k m : Nat} {t : TF} (R : Raw K mg name st ps) (S : FnScope N ps (defScope st)) (hN : N.length = ps.length + m)
    (hb : ∀ (f : Addr) (cdv : Value) (A : Around) (outer : List Env) (s : Shared) (H : Hp) (E : XK), RoomG k (A.deeper (envOfC name (defScope st) s.heap.objs.size f cdv)) → QSs (cxQ P w K mg base N name st f cdv A outer s H E) (WF E) (defBody st) t) :
    Has P w K mg base (k + 1) name ps (runF ps.length m t) := by
  obtain ⟨f, fd, m1, F, b⟩ := R
  exact ⟨f, fd, m1, F.kp, b, okQ F S hN (hb f)⟩
/-- a method -/
def HasM (P : Program) (w : World) (K : PySem.W.Frag) (mg : Str → Option Value) (base : Heap) (k : Nat) (cl name : Str) (ps : List Str) (g : List D → Mem → Res D) : Prop :=
  ∃ C f fd, mg cl = some (.ref C) ∧ Meth K C name f ∧ Binds K fd ps [] ∧ FnOkG P w K mg base k f fd ps (spF ⟨K, mg⟩ g)
def RawM (K : PySem.W.Frag) (mg : Str → Option Value) (cl name qual : Str) (st : Stmt) (ps : List Str) : Prop :=
  ∃ C f fd, mg cl = some (.ref C) ∧ Meth K C name f ∧ Fun K name qual st f fd ∧ Binds K fd ps []
theorem RawM.has {cl name qual : Str} {st : Stmt} {N ps : List Str} {k m : Nat} {t : TF} (R : RawM K mg cl name qual st ps) (S : FnScope N ps (defScope st)) (hN : N.length = ps.length + m)
    (hb : ∀ (f : Addr) (cdv : Value) (A : Around) (outer : List Env) (s : Shared) (H : Hp) (E : XK), RoomG k (A.deeper (envOfC qual (defScope st) s.heap.objs.size f cdv)) → QSs (cxQ P w K mg base N qual st f cdv A outer s H E) (WF E) (defBody st) t) :
    HasM P w K mg base (k + 1) cl name ps (runF ps.length m t) := by
  obtain ⟨C, f, fd, m1, me, F, b⟩ := R
  exact ⟨C, f, fd, m1, me, b, okQ F S hN (hb f)⟩
end

/-! ### calls -/
def eCall (g : List D → Mem → Res D) (a : AF) : EF := fun S M => (a S M).bind fun ds M1 => g ds M1
/-- what a context lets out -/
abbrev Tk (X : Cx) (W : WX) : Prop := Takes X W
section
variable {X : Cx} {W : WX} {k : Nat} {x m : Str} {ps : List Str} {g : List D → Mem → Res D} {a : AF} {p pos apos : Pos} {e o : Expr} {es : List Expr} {fo : EF}
theorem up_call {σ : St} {H : Hp} {Q : VK} (h : Up (cn X) W (DV (cn X)) (eCall g a) σ H Q) : Up (cn X) W (DVs (cn X)) a σ H (fun vs H1 => spF (cn X) g vs H1 Q (WE W σ)) := by
  refine Up.imp (Up.bind h) fun vs H1 ⟨G, S, ds, M, r, s, q, p⟩ => ?_
  exact ⟨G, ds, M, r, q, p.wish fun _ _ _ z => z⟩
theorem qcall (F : Has X.prog X.w X.K X.mg X.base k x ps g) (hr : RoomG k X.A) (tk : Takes X W) (hg : Gl X x) (ha : QA X W (e :: es) a) (hdb : (x == ("__debug__" : Str)) = false := by decide)
    (he : starEach (e :: es) X.env = (false, eval e X.env) :: starEach es X.env := by rfl) (hpl : (backTo pos (starEach es X.env)).any (·.1) = false := by rfl) : QE X W (.Call (.Name x p) (e :: es) [] pos) (eCall g a) := by
  obtain ⟨f, fd, m1, kp, b, ok⟩ := F
  exact PE.imp (pe_callG (E := WE W) ok hr hg m1 kp b (passAt tk) ha hdb he hpl) fun _ _ _ h => up_call h
theorem qcall0 (F : Has X.prog X.w X.K X.mg X.base k x ps g) (hr : RoomG k X.A) (tk : Takes X W) (hg : Gl X x) (hdb : (x == ("__debug__" : Str)) = false := by decide) : QE X W (.Call (.Name x p) [] [] pos) (eCall g aNil) := by
  obtain ⟨f, fd, m1, kp, b, ok⟩ := F
  refine ⟨fun pins s σ H Q I h => ?_⟩
  obtain ⟨G, S, M, r, sl, p⟩ := h
  refine wpAny_Call_Name_kw (ld_glob I hg m1 ?_ hdb)
  exact PySem.W.callWith_K0 I.kIn kp (run_fnG (us := []) (xs := []) (E := WE W) ok hr b (passAt tk σ) I .nil ⟨G, [], M, r, rfl, p.wish fun _ _ _ z => z⟩)
/-- o.m(..): o an instance of the class cl -/
def isObj (cl : Str) (d : D) (M : Mem) : Option (List (Str × D)) := match d with
  | .obj c fs => if c = cl then some fs else none
  | .ptr k => match M[k]? with
    | some (.obj c fs) => if c = cl then some fs else none
    | _ => none
  | _ => none
def eMeth (cl m : Str) (g : List D → Mem → Res D) (o : EF) (a : AF) : EF := fun S M => (o S M).bind fun d M1 => match isObj cl d M1 with
  | some fs => if fs.lookup m = none then (a S M1).bind fun ds M2 => g (d :: ds) M2 else .bad
  | none => .bad
theorem DVf.lookup {c : Cn} {G : Gd} {f : Str} : ∀ {fs : List (Str × D)} {ws : List (Str × V)}, DVf c G fs ws → match fs.lookup f with | some d => ∃ v, ws.lookup f = some v ∧ DV c G d v | none => ws.lookup f = none
  | [], _, h => by
    cases (show _ = [] from h)
    rfl
  | (n, d) :: r, _, h => by
    obtain ⟨⟨n', v⟩, t, rfl, ⟨e, q⟩, h⟩ := h
    have e' : n' = n := e
    subst e'
    have ih := DVf.lookup (f := f) h
    simp only [List.lookup_cons]
    cases z : f == n' with
    | true => exact ⟨v, rfl, q⟩
    | false => exact ih
theorem isObj_at {c : Cn} {G : Gd} {H : Hp} {M : Mem} {cl : Str} {d : D} {v : V} {fs : List (Str × D)} {C : Addr} (r : Rep c G H M) (hC : c.mg cl = some (.ref C)) (h : isObj cl d M = some fs) (q : DV c G d v) :
    ∃ a dx ws, v = .ref a ∧ H a = some (.ins C dx ws) ∧ DVf c G fs ws := by
  unfold isObj at h
  split at h
  · rename_i c' fs'
    split at h
    · rename_i ec
      cases h
      subst ec
      obtain ⟨a, C', dx, ws, rfl, q1, q2, q3⟩ := q
      rw [hC] at q2
      cases q2
      exact ⟨a, dx, ws, rfl, r.fz.ins q1, q3⟩
    · cases h
  · rename_i k'
    split at h
    · rename_i c' fs' ek
      split at h
      · rename_i ec
        cases h
        subst ec
        obtain ⟨a, e1, rfl⟩ := q
        obtain ⟨C', dx, ws, q1, q2, q3⟩ := r.mem k' _ a ek e1
        rw [hC] at q2
        cases q2
        exact ⟨a, dx, ws, rfl, q1, q3⟩
      · cases h
    · cases h
  · cases h
theorem qmeth {pl : Sem Bool} {cl : Str} {C : Addr} (F : HasM X.prog X.w X.K X.mg X.base k cl m ps g) (hC : X.mg cl = some (.ref C)) (c : Cls X.K C) (hr : RoomG k X.A) (tk : Takes X W) (ho : QE X W o fo) (ha : QA X W (e :: es) a)
    (hst : starEach (e :: es) X.env = (false, eval e X.env) :: starEach es X.env := by rfl) (hpl : (backTo pos (starEach es X.env)).any (·.1) = false := by rfl)
    (ht : eval (.Call (.Attribute o m apos) (e :: es) [] pos) X.env = (do
      let ov ← eval o X.env
      standAt apos.atName
      let (f, first) ← holding [ov] (getMethod ov m pl)
      callWith pos f first (backTo pos (starEach (e :: es) X.env)) (backToKw pos (keywordEach [] X.env))) := by rfl) : QE X W (.Call (.Attribute o m apos) (e :: es) [] pos) (eMeth cl m g fo a) := by
  obtain ⟨C', f, fd, m1, hm, b, ok⟩ := F
  have eC : C' = C := by
    rw [hC] at m1
    cases m1
    rfl
  subst eC
  refine ⟨fun pins s σ H Q I h => ?_⟩
  refine PySem.W.methodCall_KW (pl := pl) (thn (PE.run ho pins s σ H _ I (Up.bind h)) fun u s1 ⟨x, H1, I1, rx, G, S, d, M, r, sl, q, p⟩ => ?_) ht
  split at p
  · rename_i fs hfs
    split at p
    · rename_i hl
      obtain ⟨a0, dx, ws, rfl, e1, e2⟩ := isObj_at r hC hfs q
      obtain rfl : u = Value.ref a0 := rx
      have lk := e2.lookup (f := m)
      rw [hl] at lk
      refine getmeth_ok I1 e1 c hm lk ?_
      refine PySem.W.callWith_K (first := [.ref a0]) (h₀ := X.base) I1.ok.mod.kin hm.kp (thn (PA.run ha pos pins s1 σ H1 _ I1 ⟨G, S, M, r, sl, Post.bind (rel := DVs (cn X)) p⟩) fun us s2 ⟨vs, H2, I2, r2, G2, ds, M2, g2, rp2, q2, p2⟩ => ⟨I2.kIn, ?_⟩) hst hpl
      exact run_fnG (us := .ref a0 :: us) (xs := .ref a0 :: vs) (E := WE W) ok hr b (passAt tk σ) I2 (.cons rfl r2) ⟨G2, d :: ds, M2, rp2, DVs.cons (q.mono g2) q2, p2.wish fun _ _ _ z => z⟩
    · exact p.elim
  · exact p.elim
theorem qmeth0 {pl : Sem Bool} {cl : Str} {C : Addr} (F : HasM X.prog X.w X.K X.mg X.base k cl m ps g) (hC : X.mg cl = some (.ref C)) (c : Cls X.K C) (hr : RoomG k X.A) (tk : Takes X W) (ho : QE X W o fo)
    (ht : eval (.Call (.Attribute o m apos) [] [] pos) X.env = (do
      let ov ← eval o X.env
      standAt apos.atName
      let (f, first) ← holding [ov] (getMethod ov m pl)
      callWith pos f first (backTo pos (starEach [] X.env)) (backToKw pos (keywordEach [] X.env))) := by rfl) : QE X W (.Call (.Attribute o m apos) [] [] pos) (eMeth cl m g fo aNil) := by
  obtain ⟨C', f, fd, m1, hm, b, ok⟩ := F
  have eC : C' = C := by
    rw [hC] at m1
    cases m1
    rfl
  subst eC
  refine ⟨fun pins s σ H Q I h => ?_⟩
  refine PySem.W.methodCall_KW (pl := pl) (thn (PE.run ho pins s σ H _ I (Up.bind h)) fun u s1 ⟨x, H1, I1, rx, G, S, d, M, r, sl, q, p⟩ => ?_) ht
  split at p
  · rename_i fs hfs
    split at p
    · rename_i hl
      obtain ⟨a0, dx, ws, rfl, e1, e2⟩ := isObj_at r hC hfs q
      obtain rfl : u = Value.ref a0 := rx
      have lk := e2.lookup (f := m)
      rw [hl] at lk
      refine getmeth_ok I1 e1 c hm lk ?_
      exact PySem.W.callWith_K0 (first := [.ref a0]) I1.kIn hm.kp (run_fnG (us := [.ref a0]) (xs := [.ref a0]) (E := WE W) ok hr b (passAt tk σ) I1 (.cons rfl .nil) ⟨G, [d], M, r, DVs.one q, Post.wish p fun _ _ _ z => z⟩)
    · exact p.elim
  · exact p.elim
/-- o.f -/
def eFld (cl f : Str) (o : EF) : EF := fun S M => (o S M).bind fun d M1 => match isObj cl d M1 with
  | some fs => match fs.lookup f with
    | some y => .ok y M1
    | none => .bad
  | none => .bad
theorem qfld {cl f : Str} {C : Addr} (hC : X.mg cl = some (.ref C)) (c : Cls X.K C) (na : NoAttr X.K C f) (ho : QE X W o fo) (hb : attributeBase o f X.env (eval o X.env) = eval o X.env := by rfl) : QE X W (.Attribute o f pos) (eFld cl f fo) := PE.imp (pe_fld ho hb) fun σ H Q h => by
  refine Up.imp (Up.bind h) fun v H1 ⟨G, S, d, M, r, s, q, p⟩ => ?_
  split at p
  · rename_i fs hfs
    split at p
    · rename_i y hy
      obtain ⟨a0, dx, ws, rfl, e1, e2⟩ := isObj_at r hC hfs q
      have lk := e2.lookup (f := f)
      rw [hy] at lk
      obtain ⟨v, lk, qv⟩ := lk
      exact ⟨a0, C, dx, ws, v, rfl, e1, c, na, lk, p G v H1 (Gr.refl _) r qv⟩
    · exact p.elim
  · exact p.elim
/-- o.f = e -/
def putD (f : Str) (d : D) : List (Str × D) → List (Str × D)
  | [] => [(f, d)]
  | (g, y) :: r => if g = f then (g, d) :: r else (g, y) :: putD f d r
theorem DVf.put {c : Cn} {G : Gd} {f : Str} {d : D} {v : V} (q : DV c G d v) : ∀ {fs : List (Str × D)} {ws : List (Str × V)}, DVf c G fs ws → DVf c G (putD f d fs) (putF f v ws)
  | [], _, h => by
    cases (show _ = [] from h)
    exact ⟨(f, v), [], rfl, ⟨rfl, q⟩, rfl⟩
  | (g, y) :: r, _, h => by
    obtain ⟨⟨g', u⟩, t, rfl, ⟨e, qu⟩, h⟩ := h
    have e' : g' = g := e
    subst e'
    unfold putD putF
    by_cases z : g' = f
    · rw [if_pos z]
      first
        | (rw [if_pos z]; exact ⟨_, t, rfl, ⟨rfl, q⟩, h⟩)
        | (simp only [z, if_true]; exact ⟨_, t, rfl, ⟨rfl, q⟩, h⟩)
    · rw [if_neg z]
      first
        | (rw [if_neg z]; exact ⟨_, _, rfl, ⟨rfl, qu⟩, h.put q⟩)
        | (simp only [z, if_false]; exact ⟨_, _, rfl, ⟨rfl, qu⟩, h.put q⟩)
theorem DVf.length {c : Cn} {G : Gd} : ∀ {fs : List (Str × D)} {ws : List (Str × V)}, DVf c G fs ws → ws.length = fs.length
  | [], _, h => by
    cases (show _ = [] from h)
    rfl
  | _ :: _, _, h => by
    obtain ⟨v, t, e, q, r⟩ := h
    rw [e, List.length_cons, List.length_cons, DVf.length r]
def kFld (cl f : Str) (o v : EF) : TF := fun S M => (v S M).thn S fun y M1 => (o S M1).thn S fun d M2 => match d with
  | .ptr k => match M2[k]? with
    | some (.obj c fs) => if c = cl ∧ fs.length < 1000 then .nx S (M2.set k (.obj c (putD f y fs))) else .bad
    | _ => .bad
  | _ => .bad
theorem qsfld {cl f : Str} {C : Addr} {v : Expr} {fv : EF} {pos' : Pos} (hC : X.mg cl = some (.ref C)) (c : Cls X.K C) (na : NoAttr X.K C f) (ho : QE X W o fo) (hv : QE X W v fv) (hs : swapsWith v (some (.Attribute o f pos')) pos.line X.env = pure false := by rfl) :
    QS X W (.Assign [.Attribute o f pos'] v pos) (kFld cl f fo fv) := PS.imp (ps_fld ho hv hs) fun D σ H h => by
  refine Up.imp (UpS.thn h) fun y H1 ⟨G, S, dy, M, r, s, q, p⟩ => ?_
  refine ⟨G, S, M, r, s, (PostS.thnE (rel := DV (cn X)) s p).imp fun x H2 ⟨G2, d, M2, g2, r2, q2, p2⟩ => ?_⟩
  split at p2
  · rename_i k'
    split at p2
    · rename_i c' fs' ek
      split at p2
      · rename_i ec
        obtain ⟨ec, hl⟩ := ec
        subst ec
        obtain ⟨a, e1, rfl⟩ := q2
        obtain ⟨C', dx, ws, q3, q4, q5⟩ := r2.mem k' _ a ek e1
        have q4' : X.mg c' = some (.ref C') := q4
        rw [hC] at q4'
        cases q4'
        refine ⟨a, C, dx, ws, rfl, q3, c, na, by rw [q5.length]; exact hl, ?_⟩
        exact p2 G2 σ _ (Gr.refl _) (r2.write ek e1 rfl ⟨C, dx, _, upd_same, q4, q5.put (q.mono g2)⟩) (s.mono g2)
      · exact p2.elim
    · exact p2.elim
  · exact p2.elim
/-- C(..) -/
def eMake (cl : Str) (g : List D → Mem → Res D) (a : AF) : EF := fun S M => (a S M).bind fun ds M1 => match g (.ptr M1.length :: ds) (M1 ++ [.obj cl []]) with
  | .ok .non M2 => .ok (.ptr M1.length) M2
  | .rz x M2 => settle M1.length (.rz x M2)
  | _ => .bad
/-- a class that can be made: its __init__ keeps g -/
def HasC (P : Program) (w : World) (K : PySem.W.Frag) (mg : Str → Option Value) (base : Heap) (k : Nat) (cl : Str) (ps : List Str) (g : List D → Mem → Res D) : Prop :=
  ∃ C f fd, mg cl = some (.ref C) ∧ Mk K C f ∧ Binds K fd ps [] ∧ FnOkG P w K mg base k f fd ps (spF ⟨K, mg⟩ g)
theorem up_make {c : Cn} {cl : Str} {C : Addr} {σ : St} {H : Hp} {Q : VK} (hC : c.mg cl = some (.ref C)) (h : Up c W (DV c) (eMake cl g a) σ H Q) :
    Up c W (DVs c) a σ H (fun vs H1 => ∀ x dx, H1 x = none → H1 dx = none → dx ≠ x → spF c g (.ref x :: vs) (upd (upd H1 dx (.own x)) x (.ins C dx [])) (fun v H2 => v = .non ∧ Q (.ref x) H2) (WE W σ)) := by
  refine Up.imp (Up.bind h) fun vs H1 ⟨G, S, ds, M, r, s, q, p⟩ x dx nx ndx ne => ?_
  have g1 : Gr G { G with F := upd G.F dx (.own x) } := Gr.newF (r.fz.free ndx)
  have r1 := r.newF (o := .own x) ndx
  have nx1 : upd H1 dx (.own x) x = none := by rw [upd_ne (Ne.symm ne)]; exact nx
  have g2 := Gr.newP (G := { G with F := upd G.F dx (.own x) }) x
  have r2 := r1.newP (o := .ins C dx []) (mo := .obj cl []) nx1 ⟨C, dx, [], upd_same, hC, rfl⟩
  have hp : (G.θ ++ [x])[M.length]? = some x := by
    rw [← r.len, List.getElem?_append_right (Nat.le_refl _), Nat.sub_self]
    rfl
  refine ⟨_, .ptr M.length :: ds, M ++ [.obj cl []], r2, DVs.cons ⟨x, hp, rfl⟩ (q.mono (g1.trans g2)), ?_⟩
  cases e : g (.ptr M.length :: ds) (M ++ [.obj cl []]) with
  | ok d M2 =>
    simp only [e] at p
    cases d with
    | non => exact fun G3 v H3 g3 r3 q3 => ⟨q3, p G3 (.ref x) H3 ((g1.trans g2).trans g3) r3 ⟨x, g3.at hp, rfl⟩⟩
    | _ => exact p.elim
  | rz y M2 =>
    simp only [e] at p
    have p2 := Post.settle (r := .rz y M2) (by rw [r.len]; exact p)
    exact fun G3 cls dd H3 g3 r3 q3 => p2 G3 cls dd H3 ((g1.trans g2).trans g3) r3 q3
  | bad =>
    simp only [e] at p
    exact p.elim
theorem run_makeS {C f : Addr} {fd : FuncData} {sp : Sp} {E : XK} {pins : List (Addr × Obj)} {σ : St} {H : Hp} {s : Shared} {Q : VK} {us : List Value} {vs : List V} (M : Mk X.K C f) (F : FnOkG X.prog X.w X.K X.mg X.base k f fd ps sp) (hr : RoomG (k + 1) X.A) (hb : Binds X.K fd ps [])
    (hx : PassesAt (L2.CX X.prog X.w) X σ E) (I : Inv X pins σ H s) (r : Vals vs us)
    (h : ∀ x dx, H x = none → H dx = none → dx ≠ x → sp (.ref x :: vs) (upd (upd H dx (.own x)) x (.ins C dx [])) (fun v H2 => v = .non ∧ Q (.ref x) H2) E) :
    wpAny (model X.prog X.w) X.A (call (.ref C) us) (EP X pins σ Q) X.xe s := by
  have hq := h (s.heap.objs.size + 1) s.heap.objs.size (I.hok.fresh (Nat.le_succ _)) (I.hok.fresh (Nat.le_refl _)) (Nat.ne_of_lt (Nat.lt_succ_self _))
  have J := Inv.made (C := C) I
  have rv : Vals (V.ref (s.heap.objs.size + 1) :: vs) (Value.ref (s.heap.objs.size + 1) :: us) := .cons rfl r
  have hl : (Value.ref (s.heap.objs.size + 1) :: us).length = ps.length := rv.length.symm.trans (F.len _ _ _ _ hq)
  have bb := hb _ (Value.ref (s.heap.objs.size + 1) :: us) J.kIn (by rw [List.append_nil]; exact hl)
  rw [List.append_nil] at bb
  refine wpAny_call (make_map (f := f) I.kIn M.makes M.init (beq_iff_eq.mp M.fn) (codeAny_mono (F.run _ X.stack _ _ _ _ _ _ E (hr.make C us []) (J.env0.make C us []) bb rv hq) fun r s' z => ?_))
  cases r with
  | error e => exact hx pins _ _ e s' J z
  | ok fl =>
    cases fl with
    | ret u =>
      obtain ⟨v, H', I3, rv, ev, q3⟩ := J.after z
      subst ev
      exact ⟨rv, ⟨V.ref (s.heap.objs.size + 1), H', I3, rfl, q3⟩⟩
    | next => exact False.elim z
    | brk => exact False.elim z
    | cont => exact False.elim z
theorem qmake (F : HasC X.prog X.w X.K X.mg X.base k x ps g) (hr : RoomG (k + 1) X.A) (tk : Takes X W) (hg : Gl X x) (ha : QA X W (e :: es) a) (hdb : (x == ("__debug__" : Str)) = false := by decide)
    (he : starEach (e :: es) X.env = (false, eval e X.env) :: starEach es X.env := by rfl) (hpl : (backTo pos (starEach es X.env)).any (·.1) = false := by rfl) : QE X W (.Call (.Name x p) (e :: es) [] pos) (eMake x g a) := by
  obtain ⟨C, f, fd, m1, M, b, ok⟩ := F
  refine ⟨fun pins s σ H Q I h => ?_⟩
  refine wpAny_Call_Name_kw (ld_glob I hg m1 ?_ hdb)
  refine PySem.W.callWith_K (h₀ := X.base) I.ok.mod.kin M.kp (thn (PA.run ha pos pins s σ H _ I (up_make m1 h)) fun us s1 ⟨vs, H1, I1, r, q⟩ => ⟨I1.kIn, ?_⟩) he hpl
  exact run_makeS M ok hr b (passAt tk σ) I1 r q
end

/-! ### what changed before will not change any more -/
/-- the thing at a place of the store, as data -/
def frz (d : D) (M : Mem) : Option (D × Mem) := match d with
  | .ptr k => match M[k]? with
    | some (.lst ds) => some (.lst ds, M.set k .gone)
    | some (.dK kvs) => some (.dK kvs, M.set k .gone)
    | some (.dT kvs) => some (.dT kvs, M.set k .gone)
    | some (.obj c fs) => some (.obj c fs, M.set k .gone)
    | _ => none
  | d => some (d, M)
def eFrz (e : EF) : EF := fun S M => (e S M).bind fun d M1 => match frz d M1 with
  | some (d', M2) => .ok d' M2
  | none => .bad
/-- a place that is gone stands as a dict that will not change -/
theorem Rep.relock {c : Cn} {G : Gd} {H : Hp} {M : Mem} (r : Rep c G H M) {k : Nat} {a : Addr} {kvs : List (Key × D)} (e1 : k < M.length) (e2 : G.θ[k]? = some a) (h : MOk c G H (.lkK kvs) a) : Rep c G H (M.set k (.lkK kvs)) := by
  refine ⟨r.fz, by rw [List.length_set]; exact r.len, r.nd, fun j x b q1 q2 => ?_, fun j x b q1 q2 lx => ?_, r.liv, r.pin⟩
  · by_cases hj : k = j
    · subst hj
      rw [List.getElem?_set_self e1] at q1
      rw [e2] at q2
      cases q1
      cases q2
      exact h
    · rw [List.getElem?_set_ne hj] at q1
      exact r.mem j x b q1 q2
  · by_cases hj : k = j
    · subst hj
      rw [List.getElem?_set_self e1] at q1
      cases q1
      cases lx
    · rw [List.getElem?_set_ne hj] at q1
      exact r.sep j x b q1 q2 lx
/-- a dict that will not change any more, and can still be read at its place -/
def frzK (d : D) (M : Mem) : Option (D × Mem) := match d with
  | .ptr k => match M[k]? with
    | some (.dK kvs) => some (.dK kvs, M.set k (.lkK kvs))
    | some (.lkK kvs) => some (.dK kvs, M)
    | _ => none
  | _ => none
def eFrzK (e : EF) : EF := fun S M => (e S M).bind fun d M1 => match frzK d M1 with
  | some (d', M2) => .ok d' M2
  | none => .bad
theorem qfrzK {X : Cx} {W : WX} {e : Expr} {f : EF} (h : QE X W e f) : QE X W e (eFrzK f) := PE.imp (pe_lkO h) fun σ H Q h => by
  refine Up.imp (Up.bind h) fun v H1 ⟨G, S, d, M, r, s, q, p⟩ => ?_
  unfold frzK at p
  split at p
  · rename_i d' M2 hf
    split at hf
    · rename_i k
      obtain ⟨a, e1, rfl⟩ := q
      split at hf
      · rename_i ds ek
        cases hf
        obtain ⟨vs, hu, q⟩ := r.mem k _ a ek e1
        refine .inr ⟨a, _, hu, trivial, fun od => ?_⟩
        obtain ⟨g, r'⟩ := r.freezeX (o := .frz od (.dK vs)) ek e1 rfl
        have hk : k < (M.set k .gone).length := by rw [List.length_set]; exact (List.getElem?_eq_some_iff.mp ek).1
        have r2 := r'.relock (kvs := ds) hk (show _ = some a from e1) ⟨vs, od, upd_same, q.mono g⟩
        rw [List.set_set] at r2
        exact p _ _ _ g r2 ⟨a, vs, od, rfl, upd_same, q.mono g⟩
      · rename_i ds ek
        cases hf
        obtain ⟨vs, od, hu, q⟩ := r.mem k _ a ek e1
        exact .inl (p _ _ H1 (Gr.refl _) r ⟨a, vs, od, rfl, hu, q⟩)
      · cases hf
    · cases hf
  · exact p.elim
theorem qfrz {X : Cx} {W : WX} {e : Expr} {f : EF} (h : QE X W e f) : QE X W e (eFrz f) := PE.imp (pe_lkO h) fun σ H Q h => by
  refine Up.imp (Up.bind h) fun v H1 ⟨G, S, d, M, r, s, q, p⟩ => ?_
  unfold frz at p
  split at p
  · rename_i d' M2 hf
    split at hf
    · rename_i k
      obtain ⟨a, e1, rfl⟩ := q
      split at hf
      · rename_i ds ek
        cases hf
        obtain ⟨vs, hu, q⟩ := r.mem k _ a ek e1
        obtain ⟨g, r'⟩ := r.freeze ek e1 rfl hu
        exact .inl (p _ _ H1 g r' ⟨a, vs, rfl, .inl (.inl upd_same), q.mono g⟩)
      · rename_i ds ek
        cases hf
        obtain ⟨vs, hu, q⟩ := r.mem k _ a ek e1
        refine .inr ⟨a, _, hu, trivial, fun od => ?_⟩
        obtain ⟨g, r'⟩ := r.freezeX (o := .frz od (.dK vs)) ek e1 rfl
        exact p _ _ _ g r' ⟨a, vs, od, rfl, upd_same, q.mono g⟩
      · rename_i ds ek
        cases hf
        obtain ⟨vs, hu, q⟩ := r.mem k _ a ek e1
        refine .inr ⟨a, _, hu, trivial, fun od => ?_⟩
        obtain ⟨g, r'⟩ := r.freezeX (o := .frz od (.dT vs)) ek e1 rfl
        exact p _ _ _ g r' ⟨a, vs, od, rfl, upd_same, q.mono g⟩
      · rename_i n fs ek
        cases hf
        obtain ⟨C, dx, vs, hu, m, q⟩ := r.mem k _ a ek e1
        obtain ⟨g, r'⟩ := r.freeze ek e1 rfl hu
        exact .inl (p _ _ H1 g r' ⟨a, C, dx, vs, rfl, upd_same, m, q.mono g⟩)
      · cases hf
    · cases hf
      exact .inl (p G _ H1 (Gr.refl G) r q)
  · exact p.elim
end QL
end
section
set_option Elab.async false
set_option linter.all false
set_option maxRecDepth 100000
set_option maxHeartbeats 4000000
set_option autoImplicit false
/-! QOps: operators, subscripts, slices, the calls of built-ins, on data. -/
namespace QL
open PySem PySem.Spec L2

/-! ### reading a place of the store -/
def asL (M : Mem) : D → Option (List D)
  | .lst ds => some ds
  | .ptr k => match M[k]? with
    | some (.lst ds) => some ds
    | _ => none
  | _ => none
def asK (M : Mem) : D → Option (List (Key × D))
  | .dK ds => some ds
  | .ptr k => match M[k]? with
    | some (.dK ds) => some ds
    | some (.lkK ds) => some ds
    | _ => none
  | _ => none
def asTt (M : Mem) : D → Option (List (List Key × D))
  | .dT ds => some ds
  | .ptr k => match M[k]? with
    | some (.dT ds) => some ds
    | some (.lkT ds) => some ds
    | _ => none
  | _ => none
section
variable {c : Cn} {G : Gd} {H : Hp} {M : Mem} {d : D} {v : V}
theorem asL_at {ds : List D} (r : Rep c G H M) (q : DV c G d v) (h : asL M d = some ds) : ∃ a vs, v = .ref a ∧ SqL c.K H a vs ∧ DVs c G ds vs := by
  unfold asL at h
  split at h
  · cases h
    obtain ⟨a, vs, e, s, t⟩ := q
    exact ⟨a, vs, e, r.fz.sqL s, t⟩
  · rename_i k
    split at h
    · rename_i ds' ek
      cases h
      obtain ⟨a, e1, e⟩ := q
      obtain ⟨vs, hu, t⟩ := r.mem k _ a ek e1
      exact ⟨a, vs, e, .inl (.inl hu), t⟩
    · cases h
  · cases h
theorem asK_at {ds : List (Key × D)} (r : Rep c G H M) (q : DV c G d v) (h : asK M d = some ds) : ∃ a vs, v = .ref a ∧ Rd H a (.dK vs) ∧ DVk c G ds vs := by
  unfold asK at h
  split at h
  · cases h
    obtain ⟨a, vs, o, e, s, t⟩ := q
    refine ⟨a, vs, e, .inr ⟨o, ?_⟩, t⟩
    rcases r.fz _ _ s with z | ⟨z, _⟩
    · exact z
    · cases z
  · rename_i k
    split at h
    · rename_i ds' ek
      cases h
      obtain ⟨a, e1, e⟩ := q
      obtain ⟨vs, hu, t⟩ := r.mem k _ a ek e1
      exact ⟨a, vs, e, .inl hu, t⟩
    · rename_i ds' ek
      cases h
      obtain ⟨a, e1, e⟩ := q
      obtain ⟨vs, o, hu, t⟩ := r.mem k _ a ek e1
      refine ⟨a, vs, e, .inr ⟨o, ?_⟩, t⟩
      rcases r.fz _ _ hu with z | ⟨z, _⟩
      · exact z
      · cases z
    · cases h
  · cases h
theorem asTt_at {ds : List (List Key × D)} (r : Rep c G H M) (q : DV c G d v) (h : asTt M d = some ds) : ∃ a vs, v = .ref a ∧ Rd H a (.dT vs) ∧ DVt c G ds vs := by
  unfold asTt at h
  split at h
  · cases h
    obtain ⟨a, vs, o, e, s, t⟩ := q
    refine ⟨a, vs, e, .inr ⟨o, ?_⟩, t⟩
    rcases r.fz _ _ s with z | ⟨z, _⟩
    · exact z
    · cases z
  · rename_i k
    split at h
    · rename_i ds' ek
      cases h
      obtain ⟨a, e1, e⟩ := q
      obtain ⟨vs, hu, t⟩ := r.mem k _ a ek e1
      exact ⟨a, vs, e, .inl hu, t⟩
    · rename_i ds' ek
      cases h
      obtain ⟨a, e1, e⟩ := q
      obtain ⟨vs, o, hu, t⟩ := r.mem k _ a ek e1
      refine ⟨a, vs, e, .inr ⟨o, ?_⟩, t⟩
      rcases r.fz _ _ hu with z | ⟨z, _⟩
      · exact z
      · cases z
    · cases h
  · cases h
/-- a list of ints, of texts, of truth values -/
theorem DVs.ints : ∀ {ns : List Int} {vs : List V}, DVs c G (ns.map D.int) vs → vs = ns.map V.int
  | [], _, h => h
  | n :: ns, _, h => by
    obtain ⟨v, t, e, q, r⟩ := h
    rw [e, show v = .int n from q, DVs.ints r]
    rfl
theorem DVs.strs : ∀ {ns : List Str} {vs : List V}, DVs c G (ns.map D.str) vs → vs = ns.map V.str
  | [], _, h => h
  | n :: ns, _, h => by
    obtain ⟨v, t, e, q, r⟩ := h
    rw [e, show v = .str n from q, DVs.strs r]
    rfl
theorem DVs.bls : ∀ {ns : List Bool} {vs : List V}, DVs c G (ns.map D.bl) vs → vs = ns.map V.bl
  | [], _, h => h
  | n :: ns, _, h => by
    obtain ⟨v, t, e, q, r⟩ := h
    rw [e, show v = .bl n from q, DVs.bls r]
    rfl
theorem DVs.take {ds : List D} {vs : List V} (h : DVs c G ds vs) (n : Nat) : DVs c G (ds.take n) (vs.take n) := by
  induction ds generalizing vs n with
  | nil =>
    cases (show vs = [] from h)
    simp
    rfl
  | cons d r ih =>
    obtain ⟨v, t, rfl, q, r'⟩ := h
    cases n with
    | zero => exact rfl
    | succ n => exact ⟨v, t.take n, rfl, q, ih r' n⟩
theorem DVs.drop {ds : List D} {vs : List V} (h : DVs c G ds vs) (n : Nat) : DVs c G (ds.drop n) (vs.drop n) := by
  induction ds generalizing vs n with
  | nil =>
    cases (show vs = [] from h)
    simp
    rfl
  | cons d r ih =>
    obtain ⟨v, t, rfl, q, r'⟩ := h
    cases n with
    | zero => exact ⟨v, t, rfl, q, r'⟩
    | succ n => exact ih r' n
end
/-- a list of ints as such -/
def intsOf : List D → Option (List Int)
  | [] => some []
  | .int i :: r => (intsOf r).map (i :: ·)
  | _ => none
def strsOf : List D → Option (List Str)
  | [] => some []
  | .str i :: r => (strsOf r).map (i :: ·)
  | _ => none
def blsOf : List D → Option (List Bool)
  | [] => some []
  | .bl i :: r => (blsOf r).map (i :: ·)
  | _ => none
theorem intsOf_map : ∀ ns : List Int, intsOf (ns.map D.int) = some ns
  | [] => rfl
  | n :: r => by simp [intsOf, intsOf_map r]
theorem strsOf_map : ∀ ns : List Str, strsOf (ns.map D.str) = some ns
  | [] => rfl
  | n :: r => by simp [strsOf, strsOf_map r]
theorem blsOf_map : ∀ ns : List Bool, blsOf (ns.map D.bl) = some ns
  | [] => rfl
  | n :: r => by simp [blsOf, blsOf_map r]
theorem intsOf_eq : ∀ {ds : List D} {ns : List Int}, intsOf ds = some ns → ds = ns.map D.int
  | [], _, h => by cases h; rfl
  | d :: r, ns, h => by
    cases d with
    | int i =>
      simp only [intsOf] at h
      cases e : intsOf r with
      | none => rw [e] at h; cases h
      | some l => rw [e] at h; cases h; rw [intsOf_eq e]; rfl
    | _ => cases h
theorem strsOf_eq : ∀ {ds : List D} {ns : List Str}, strsOf ds = some ns → ds = ns.map D.str
  | [], _, h => by cases h; rfl
  | d :: r, ns, h => by
    cases d with
    | str i =>
      simp only [strsOf] at h
      cases e : strsOf r with
      | none => rw [e] at h; cases h
      | some l => rw [e] at h; cases h; rw [strsOf_eq e]; rfl
    | _ => cases h
theorem blsOf_eq : ∀ {ds : List D} {ns : List Bool}, blsOf ds = some ns → ds = ns.map D.bl
  | [], _, h => by cases h; rfl
  | d :: r, ns, h => by
    cases d with
    | bl i =>
      simp only [blsOf] at h
      cases e : blsOf r with
      | none => rw [e] at h; cases h
      | some l => rw [e] at h; cases h; rw [blsOf_eq e]; rfl
    | _ => cases h

/-! ### arithmetic -/
def fAdd (x y : D) (M : Mem) : Res D := match x, y with
  | .int i, .int j => .ok (.int (i + j)) M
  | .str a, .str b => if a.length + b.length ≤ sizeLine then .ok (.str (a ++ b)) M else .bad
  | x, y => match asL M x, asL M y with
    | some xs, some ys => if xs.length + ys.length ≤ sizeLine then .ok (.lst (xs ++ ys)) M else .bad
    | _, _ => .bad
def fSub (x y : D) (M : Mem) : Res D := match x, y with
  | .int i, .int j => .ok (.int (i - j)) M
  | _, _ => .bad
open Classical in
noncomputable def fMul (x y : D) (M : Mem) : Res D := match x, y with
  | .int i, .int j => if CMulW i j then .ok (.int (i * j)) M else .bad
  | _, _ => .bad
open Classical in
noncomputable def fDiv (x y : D) (M : Mem) : Res D := match x, y with
  | .int i, .int j => if CDivW i j then .ok (.int (i / j)) M else .bad
  | _, _ => .bad
def fMod (x y : D) (M : Mem) : Res D := match x, y with
  | .int i, .int j => if 0 < j then .ok (.int (i % j)) M else .bad
  | _, _ => .bad
def fPow (x y : D) (M : Mem) : Res D := match x, y with
  | .int i, .int j => if 0 ≤ j ∧ j ≤ 1000000 ∧ i.natAbs < 2 ^ 64 then .ok (.int (i ^ j.toNat)) M else .bad
  | _, _ => .bad
/-- list + list -/
def rCatL (K : PySem.W.Frag) : R2 := fun x y H Q => ∃ l b xs zs, x = .ref l ∧ y = .ref b ∧ SqL K H l xs ∧ SqL K H b zs ∧ xs.length + zs.length ≤ sizeLine ∧ ∀ p, H p = none → Q (.ref p) (upd H p (.lst (xs ++ zs)))
section
variable {X : Cx}
theorem op_catL : OpR X (binaryOp .Add) (rCatL X.K) := by
  intro pins s σ H x y v u Q I rx ry h
  obtain ⟨l, b, xs, zs, rfl, rfl, hH, hB, hz, q⟩ := h
  cases rx
  cases ry
  obtain ⟨its, r, p1, z1⟩ := I.list hH
  obtain ⟨its2, r2, p2, z2⟩ := I.list hB
  obtain ⟨o1, n1, e1, c1, d1, k1⟩ := p1
  obtain ⟨o2, n2, e2, c2, d2, k2⟩ := p2
  have l1 := r.length
  have l2 := r2.length
  obtain ⟨oc1, od1, ok1, os1⟩ := o1
  obtain ⟨oc2, od2, ok2, os2⟩ := o2
  simp only at c1 d1 k1 c2 d2 k2
  subst c1 d1 k1 c2 d2 k2
  have ea : its.toArray ++ its2.toArray = (its ++ its2).toArray := by simp
  refine concat_meets ⟨_, e1, rfl⟩ ⟨_, e2, rfl⟩ noFill_list_add seq_list_add PySem.F.slot_list_add PySem.F.entry_list_add (PySem.F.args_list_add_2 _ _)
    (PyProof.Rows.list_addW l b its.toArray its2.toArray n1 n2 none none os1 os2 (by simp; omega)) ⟨e1, e2, ?_⟩
  rw [ea]
  exact ⟨.ref _, _, I.lnew (t' := s.toks) (r.append r2) (by rw [List.length_append]; omega), rfl, q _ I.fresh⟩
end
section
variable {X : Cx} {c : Cn}
def rAddA (K : PySem.W.Frag) : R2 := fun x y H Q => (rI0 (fun i j => .int (i + j)) x y H Q ∨ (∃ i j, x = .str i ∧ y = .str j ∧ i.length + j.length ≤ sizeLine ∧ Q (.str (i ++ j)) H)) ∨ rCatL K x y H Q
theorem op_addA : OpR X (binaryOp .Add) (rAddA X.K) := (op_add.or op_add_str).or op_catL
theorem r2_add : R2s c fAdd (rAddA c.K) := by
  intro W σ G H M x y dx dy Q r qx qy p
  unfold fAdd at p
  split at p
  · cases (show x = _ from qx)
    cases (show y = _ from qy)
    exact .inl (.inl ⟨_, _, rfl, rfl, p G _ H (Gr.refl _) r rfl⟩)
  · cases (show x = _ from qx)
    cases (show y = _ from qy)
    split at p
    · rename_i hz
      exact .inl (.inr ⟨_, _, rfl, rfl, hz, p G _ H (Gr.refl _) r rfl⟩)
    · exact p.elim
  · split at p
    · rename_i xs ys h1 h2
      split at p
      · rename_i hz
        obtain ⟨a, vs, e1, s1, t1⟩ := asL_at r qx h1
        obtain ⟨b, ws, e2, s2, t2⟩ := asL_at r qy h2
        refine .inr ⟨a, b, vs, ws, e1, e2, s1, s2, by rw [t1.length, t2.length]; exact hz, fun p' hp => ?_⟩
        have g := Gr.newF (G := G) (o := .lst (vs ++ ws)) (r.fz.free hp)
        exact p _ _ _ g (r.newF hp) ⟨p', _, rfl, .inl (.inl upd_same), (t1.append t2).mono g⟩
      · exact p.elim
    · exact p.elim
theorem r2_II {f : D → D → Mem → Res D} {C : Int → Int → Prop} {g : Int → Int → Int} (h : ∀ x y M, f x y M ≠ .bad → ∃ i j, x = .int i ∧ y = .int j ∧ C i j ∧ f x y M = .ok (.int (g i j)) M) : R2s c f (rI C fun i j => .int (g i j)) := by
  intro W σ G H M x y dx dy Q r qx qy p
  have nb : f dx dy M ≠ .bad := fun e => by rw [e] at p; exact p
  obtain ⟨i, j, rfl, rfl, hc, e⟩ := h dx dy M nb
  rw [e] at p
  exact ⟨i, j, qx, qy, hc, p G _ H (Gr.refl _) r rfl⟩
theorem r2_sub : R2s c fSub (rI0 fun i j => .int (i - j)) := by
  intro W σ G H M x y dx dy Q r qx qy p
  unfold fSub at p
  split at p
  · exact ⟨_, _, qx, qy, p G _ H (Gr.refl _) r rfl⟩
  · exact p.elim
theorem r2_mul : R2s c fMul (rI CMulW fun i j => .int (i * j)) := r2_II fun x y M h => by
  unfold fMul at h ⊢
  split at h
  · split at h
    · rename_i hc
      exact ⟨_, _, rfl, rfl, hc, by simp [hc]⟩
    · exact absurd rfl h
  · exact absurd rfl h
theorem r2_div : R2s c fDiv (rI CDivW fun i j => .int (i / j)) := r2_II fun x y M h => by
  unfold fDiv at h ⊢
  split at h
  · split at h
    · rename_i hc
      exact ⟨_, _, rfl, rfl, hc, by simp [hc]⟩
    · exact absurd rfl h
  · exact absurd rfl h
theorem r2_mod : R2s c fMod (rI (fun _ j => 0 < j) fun i j => .int (i % j)) := r2_II fun x y M h => by
  unfold fMod at h ⊢
  split at h
  · split at h
    · rename_i hc
      exact ⟨_, _, rfl, rfl, hc, by simp [hc]⟩
    · exact absurd rfl h
  · exact absurd rfl h
theorem r2_pow : R2s c fPow (rI CPow fun i j => .int (i ^ j.toNat)) := r2_II fun x y M h => by
  unfold fPow at h ⊢
  split at h
  · split at h
    · rename_i hc
      exact ⟨_, _, rfl, rfl, hc, by simp [hc]⟩
    · exact absurd rfl h
  · exact absurd rfl h
variable {W : WX} {pos : Pos} {a b : Expr} {fa fb : EF}
theorem qadd (ha : QE X W a fa) (hb : QE X W b fb) : QE X W (.BinOp a .Add b pos) (e2 fAdd fa fb) := q_op op_addA r2_add ha hb
theorem qsub (ha : QE X W a fa) (hb : QE X W b fb) : QE X W (.BinOp a .Sub b pos) (e2 fSub fa fb) := q_op op_sub r2_sub ha hb
theorem qmul (ha : QE X W a fa) (hb : QE X W b fb) : QE X W (.BinOp a .Mult b pos) (e2 fMul fa fb) := q_op op_mulW r2_mul ha hb
theorem qdiv (ha : QE X W a fa) (hb : QE X W b fb) : QE X W (.BinOp a .FloorDiv b pos) (e2 fDiv fa fb) := q_op op_fdivW r2_div ha hb
theorem qmod (ha : QE X W a fa) (hb : QE X W b fb) : QE X W (.BinOp a .Mod b pos) (e2 fMod fa fb) := q_op op_mod r2_mod ha hb
theorem qpow (ha : QE X W a fa) (hb : QE X W b fb) : QE X W (.BinOp a .Pow b pos) (e2 fPow fa fb) := q_op op_pow r2_pow ha hb
def eNeg (a : EF) : EF := fun S M => (a S M).bind fun x M1 => match x with
  | .int i => .ok (.int (-i)) M1
  | _ => .bad
theorem qneg (ha : QE X W a fa) : QE X W (.UnaryOp .USub a pos) (eNeg fa) := PE.imp (pe_un un_neg ha) fun σ H Q h => by
  refine Up.imp (Up.bind h) fun v H1 ⟨G, S, d, M, r1, s, q, p⟩ => ?_
  split at p
  · exact ⟨_, q, p G _ H1 (Gr.refl _) r1 rfl⟩
  · exact p.elim
end

/-! ### data without a store: what == and < say -/
mutual
def toPy : D → PyData
  | .non => .none
  | .bl b => .bool b
  | .int i => .int i
  | .str x => .str x
  | .tup ds => .tuple (toPys ds)
  | .lst ds => .list (toPys ds)
  | _ => .none
def toPys : List D → List PyData
  | [] => []
  | d :: r => toPy d :: toPys r
end
mutual
/-- plain data of depth below n -/
def okD : Nat → D → Bool
  | _, .non => true
  | _, .bl _ => true
  | _, .int _ => true
  | _, .str x => PyData.strOk x
  | n, .tup ds => match n with
    | 0 => false
    | n + 1 => okDs n ds
  | n, .lst ds => match n with
    | 0 => false
    | n + 1 => okDs n ds
  | _, _ => false
def okDs : Nat → List D → Bool
  | _, [] => true
  | n, d :: r => okD n d && okDs n r
end
mutual
theorem okD_lay : ∀ {n : Nat} {d : D}, okD n d = true → (toPy d).canLay0 = true ∧ (toPy d).depth ≤ n
  | _, .non, _ => by simp [toPy, PyData.canLay0, PyData.depth]
  | _, .bl _, _ => by simp [toPy, PyData.canLay0, PyData.depth]
  | _, .int _, _ => by simp [toPy, PyData.canLay0, PyData.depth]
  | _, .str x, h => by
    simp only [okD] at h
    simp [toPy, PyData.canLay0, PyData.depth, h]
  | 0, .tup ds, h => by simp [okD] at h
  | n + 1, .tup ds, h => by
    simp only [okD] at h
    obtain ⟨h1, h2⟩ := okDs_lay h
    simp only [toPy, PyData.canLay0, PyData.depth]
    exact ⟨h1, by omega⟩
  | 0, .lst ds, h => by simp [okD] at h
  | n + 1, .lst ds, h => by
    simp only [okD] at h
    obtain ⟨h1, h2⟩ := okDs_lay h
    simp only [toPy, PyData.canLay0, PyData.depth]
    exact ⟨h1, by omega⟩
  | _, .ptr _, h => by simp [okD] at h
  | _, .raw _, h => by simp [okD] at h
  | _, .dK _, h => by simp [okD] at h
  | _, .dT _, h => by simp [okD] at h
  | _, .obj _ _, h => by simp [okD] at h
  | _, .exc _ _ _ _, h => by simp [okD] at h
theorem okDs_lay : ∀ {n : Nat} {ds : List D}, okDs n ds = true → PyData.canLayAll0 (toPys ds) = true ∧ PyData.depthAll (toPys ds) ≤ n
  | _, [], _ => by simp [toPys, PyData.canLayAll0, PyData.depthAll]
  | n, d :: r, h => by
    simp only [okDs, Bool.and_eq_true] at h
    obtain ⟨a1, a2⟩ := okD_lay h.1
    obtain ⟨b1, b2⟩ := okDs_lay h.2
    simp only [toPys, PyData.canLayAll0, PyData.depthAll, Bool.and_eq_true]
    exact ⟨⟨a1, b1⟩, by omega⟩
end
theorem okD_shaped {d : D} (h : okD 64 d = true) : SeqAt.shaped (toPy d) = true := by
  obtain ⟨h1, h2⟩ := okD_lay h
  unfold SeqAt.shaped
  rw [h1, Bool.true_and]
  exact decide_eq_true h2
section
variable {c : Cn} {G : Gd} {H : Hp}
mutual
theorem DV.dp (z : Fz G.F H) : ∀ {n : Nat} {d : D} {v : V}, okD n d = true → DV c G d v → Dp c.K H v (toPy d)
  | _, .non, _, _, q => by rw [show _ = V.non from q, toPy]; exact .non
  | _, .bl b, _, _, q => by rw [show _ = V.bl b from q, toPy]; exact .bl b
  | _, .int b, _, _, q => by rw [show _ = V.int b from q, toPy]; exact .int b
  | _, .str b, _, _, q => by rw [show _ = V.str b from q, toPy]; exact .str b
  | 0, .tup ds, _, h, q => by simp [okD] at h
  | n + 1, .tup ds, _, h, q => by
    simp only [okD] at h
    obtain ⟨a, vs, rfl, s, t⟩ := q
    rw [toPy]
    exact .tup (.inl (.inl (z.tup s))) (DVs.dp z h t)
  | 0, .lst ds, _, h, q => by simp [okD] at h
  | n + 1, .lst ds, _, h, q => by
    simp only [okD] at h
    obtain ⟨a, vs, rfl, s, t⟩ := q
    rw [toPy]
    exact .lst (z.sqL s) (DVs.dp z h t)
  | _, .ptr _, _, h, _ => by simp [okD] at h
  | _, .raw _, _, h, _ => by simp [okD] at h
  | _, .dK _, _, h, _ => by simp [okD] at h
  | _, .dT _, _, h, _ => by simp [okD] at h
  | _, .obj _ _, _, h, _ => by simp [okD] at h
  | _, .exc _ _ _ _, _, h, _ => by simp [okD] at h
theorem DVs.dp (z : Fz G.F H) : ∀ {n : Nat} {ds : List D} {vs : List V}, okDs n ds = true → DVs c G ds vs → DpAll c.K H vs (toPys ds)
  | _, [], _, _, q => by rw [show _ = ([] : List V) from q, toPys]; exact .nil
  | n, d :: r, _, h, q => by
    simp only [okDs, Bool.and_eq_true] at h
    obtain ⟨v, t, rfl, q1, q2⟩ := q
    rw [toPys]
    exact .cons (DV.dp z h.1 q1) (DVs.dp z h.2 q2)
end
end
/-- what a place of the store holds, as data -/
def der (M : Mem) (d : D) : D := match asL M d with
  | some ds => .lst ds
  | none => d
theorem der_dp {c : Cn} {G : Gd} {H : Hp} {M : Mem} {d : D} {v : V} (r : Rep c G H M) (q : DV c G d v) (h : okD 64 (der M d) = true) : Dp c.K H v (toPy (der M d)) := by
  unfold der at h ⊢
  cases e : asL M d with
  | none =>
    rw [e] at h
    exact DV.dp r.fz h q
  | some ds =>
    rw [e] at h
    simp only at h ⊢
    obtain ⟨a, vs, rfl, s, t⟩ := asL_at r q e
    rw [toPy]
    have h' : okDs 63 ds = true := by simpa [okD] using h
    exact .lst s (DVs.dp r.fz h' t)
/-- x == y -/
def fEq (x y : D) (M : Mem) : Res D := match x, y with
  | .int i, .int j => .ok (.bl (decide (i = j))) M
  | .str i, .str j => .ok (.bl (decide (i = j))) M
  | x, y => if okD 64 (der M x) = true ∧ okD 64 (der M y) = true then .ok (.bl (PyData.eqv (toPy (der M x)) (toPy (der M y)))) M else .bad
def fNe (x y : D) (M : Mem) : Res D := match x, y with
  | .int i, .int j => .ok (.bl (!decide (i = j))) M
  | .str i, .str j => .ok (.bl (!decide (i = j))) M
  | x, y => if okD 64 (der M x) = true ∧ okD 64 (der M y) = true then .ok (.bl (!PyData.eqv (toPy (der M x)) (toPy (der M y)))) M else .bad
section
variable {c : Cn}
theorem r2_eq : R2s c fEq (fun x y H Q => rEq x y H Q ∨ rEqD c.K x y H Q) := by
  intro W σ G H M x y dx dy Q r qx qy p
  unfold fEq at p
  split at p
  · cases (show x = _ from qx)
    cases (show y = _ from qy)
    refine .inl ⟨rfl, ?_⟩
    have e : ∀ i j : Int, decide (V.int i = V.int j) = decide (i = j) := fun i j => by simp
    rw [e]
    exact p G _ H (Gr.refl _) r rfl
  · cases (show x = _ from qx)
    cases (show y = _ from qy)
    refine .inl ⟨rfl, ?_⟩
    have e : ∀ i j : Str, decide (V.str i = V.str j) = decide (i = j) := fun i j => by simp
    rw [e]
    exact p G _ H (Gr.refl _) r rfl
  · split at p
    · rename_i h
      exact .inr ⟨_, _, der_dp r qx h.1, der_dp r qy h.2, okD_shaped h.1, okD_shaped h.2, p G _ H (Gr.refl _) r rfl⟩
    · exact p.elim
theorem r2_ne : R2s c fNe (fun x y H Q => rNe x y H Q ∨ rNeD c.K x y H Q) := by
  intro W σ G H M x y dx dy Q r qx qy p
  unfold fNe at p
  split at p
  · cases (show x = _ from qx)
    cases (show y = _ from qy)
    refine .inl ⟨rfl, ?_⟩
    have e : ∀ i j : Int, decide (V.int i = V.int j) = decide (i = j) := fun i j => by simp
    rw [e]
    exact p G _ H (Gr.refl _) r rfl
  · cases (show x = _ from qx)
    cases (show y = _ from qy)
    refine .inl ⟨rfl, ?_⟩
    have e : ∀ i j : Str, decide (V.str i = V.str j) = decide (i = j) := fun i j => by simp
    rw [e]
    exact p G _ H (Gr.refl _) r rfl
  · split at p
    · rename_i h
      exact .inr ⟨_, _, der_dp r qx h.1, der_dp r qy h.2, okD_shaped h.1, okD_shaped h.2, p G _ H (Gr.refl _) r rfl⟩
    · exact p.elim
/-- comparisons of two ints -/
def fCmp (o : Int → Int → Bool) (x y : D) (M : Mem) : Res D := match x, y with
  | .int i, .int j => .ok (.bl (o i j)) M
  | _, _ => .bad
theorem r2_cmp {o : Int → Int → Bool} : R2s c (fCmp o) (rI0 fun i j => .bl (o i j)) := by
  intro W σ G H M x y dx dy Q r qx qy p
  unfold fCmp at p
  split at p
  · exact ⟨_, _, qx, qy, p G _ H (Gr.refl _) r rfl⟩
  · exact p.elim
def fLt := fCmp fun i j => decide (i < j)
def fLe := fCmp fun i j => decide (i ≤ j)
def fGt := fCmp fun i j => decide (j < i)
def fGe := fCmp fun i j => decide (j ≤ i)
/-- is None, is not None -/
def fIsN (x y : D) (M : Mem) : Res D := match y with
  | .non => match x with
    | .non => .ok (.bl true) M
    | _ => .ok (.bl false) M
  | _ => .bad
def fNotN (x y : D) (M : Mem) : Res D := match y with
  | .non => match x with
    | .non => .ok (.bl false) M
    | _ => .ok (.bl true) M
  | _ => .bad
theorem DV.notNon {G : Gd} {d : D} {v : V} (h : d ≠ .non) (hr : ∀ u, d ≠ .raw u) (q : DV c G d v) : v ≠ .non := by
  intro e
  subst e
  cases d with
  | non => exact h rfl
  | raw u => exact hr u rfl
  | bl _ => cases (show V.non = _ from q)
  | int _ => cases (show V.non = _ from q)
  | str _ => cases (show V.non = _ from q)
  | ptr _ => obtain ⟨_, _, e⟩ := q; cases e
  | tup _ => obtain ⟨_, _, e, _⟩ := q; cases e
  | lst _ => obtain ⟨_, _, e, _⟩ := q; cases e
  | dK _ => obtain ⟨_, _, _, e, _⟩ := q; cases e
  | dT _ => obtain ⟨_, _, _, e, _⟩ := q; cases e
  | obj _ _ => obtain ⟨_, _, _, _, e, _⟩ := q; cases e
  | exc _ _ _ _ => obtain ⟨e, _⟩ := q; cases e
end
section
variable {X : Cx} {W : WX} {pos : Pos} {a b : Expr} {fa fb : EF}
theorem op_eqA (hu : X.A.units + 64 < cLine) : OpR X (compareOp .Eq) (fun x y H Q => rEq x y H Q ∨ rEqD X.K x y H Q) := op_eq.or (op_eqD hu)
theorem op_neA (hu : X.A.units + 64 < cLine) : OpR X (compareOp .NotEq) (fun x y H Q => rNe x y H Q ∨ rNeD X.K x y H Q) := op_ne.or (op_neD hu)
theorem qeq (hu : X.A.units + 64 < cLine) (ha : QE X W a fa) (hb : QE X W b fb) : QE X W (.Compare a [.Eq] [b] pos) (e2 fEq fa fb) := q_cmp (op_eqA hu) r2_eq (nomark _) ha hb
theorem qne (hu : X.A.units + 64 < cLine) (ha : QE X W a fa) (hb : QE X W b fb) : QE X W (.Compare a [.NotEq] [b] pos) (e2 fNe fa fb) := q_cmp (op_neA hu) r2_ne (nomark _) ha hb
theorem qlt (ha : QE X W a fa) (hb : QE X W b fb) : QE X W (.Compare a [.Lt] [b] pos) (e2 fLt fa fb) := q_cmp op_lt r2_cmp (nomark _) ha hb
theorem qle (ha : QE X W a fa) (hb : QE X W b fb) : QE X W (.Compare a [.LtE] [b] pos) (e2 fLe fa fb) := q_cmp op_le r2_cmp (nomark _) ha hb
theorem qgt (ha : QE X W a fa) (hb : QE X W b fb) : QE X W (.Compare a [.Gt] [b] pos) (e2 fGt fa fb) := q_cmp op_gt r2_cmp (nomark _) ha hb
theorem qge (ha : QE X W a fa) (hb : QE X W b fb) : QE X W (.Compare a [.GtE] [b] pos) (e2 fGe fa fb) := q_cmp op_ge r2_cmp (nomark _) ha hb
theorem tEq (hu : X.A.units + 64 < cLine) (ha : QE X W a fa) (hb : QE X W b fb) : QT X W (.Compare a [.Eq] [b] pos) (bV (e2 fEq fa fb)) := qt_cmp (op_eqA hu) r2_eq (nomark _) ha hb
theorem tNe (hu : X.A.units + 64 < cLine) (ha : QE X W a fa) (hb : QE X W b fb) : QT X W (.Compare a [.NotEq] [b] pos) (bV (e2 fNe fa fb)) := qt_cmp (op_neA hu) r2_ne (nomark _) ha hb
theorem tLt' (ha : QE X W a fa) (hb : QE X W b fb) : QT X W (.Compare a [.Lt] [b] pos) (bV (e2 fLt fa fb)) := qt_cmp op_lt r2_cmp (nomark _) ha hb
theorem tLe' (ha : QE X W a fa) (hb : QE X W b fb) : QT X W (.Compare a [.LtE] [b] pos) (bV (e2 fLe fa fb)) := qt_cmp op_le r2_cmp (nomark _) ha hb
theorem tGt' (ha : QE X W a fa) (hb : QE X W b fb) : QT X W (.Compare a [.Gt] [b] pos) (bV (e2 fGt fa fb)) := qt_cmp op_gt r2_cmp (nomark _) ha hb
theorem tGe' (ha : QE X W a fa) (hb : QE X W b fb) : QT X W (.Compare a [.GtE] [b] pos) (bV (e2 fGe fa fb)) := qt_cmp op_ge r2_cmp (nomark _) ha hb
/-- a < b < c, by two operators -/
def e3 (f g : D → D → Mem → Res D) (a b c : EF) : EF := fun S M => (a S M).bind fun x M1 => (b S M1).bind fun y M2 => (f x y M2).bind fun z M3 => match z with
  | .bl true => (c S M3).bind fun u M4 => g y u M4
  | .bl false => .ok (.bl false) M3
  | _ => .bad
end
end QL
end
section
set_option Elab.async false
set_option linter.all false
set_option maxRecDepth 100000
set_option maxHeartbeats 4000000
set_option autoImplicit false
/-! QLoop: what is walked, for, comprehensions. -/
namespace QL
open PySem PySem.Spec L2
open Classical

/-- the iterator J walks ds, as long as gd holds of the store -/
def Wk (c : Cn) (G : Gd) (J : It) (ds : List D) (gd : Mem → Prop) : Prop := ∀ G' H M, Gr0 G G' → Rep c G' H M → gd M →
  (∀ i, i < ds.length → J.go i H ∧ ∀ x H', J.yld i H x H' → ∃ G2 d, ds[i]? = some d ∧ Gr G' G2 ∧ Rep c G2 H' M ∧ DV c G2 d x) ∧ (∀ i, ds.length ≤ i → J.stop i H)
theorem Wk.mono {c : Cn} {G G1 : Gd} {J : It} {ds : List D} {gd : Mem → Prop} (h : Wk c G J ds gd) (g : Gr0 G G1) : Wk c G1 J ds gd := fun G' H M g' r k => h G' H M (g.trans g') r k
/-- what is walked: the items; the place of the store that they stand at, if they may change -/
structure Its where
  ds : List D
  at_ : Option Nat
def Its.gd (I : Its) (M : Mem) : Prop := match I.at_ with
  | none => True
  | some k => M[k]? = some (.lst I.ds)
abbrev IF := Sl → Mem → Res Its
def PostI (c : Cn) (W : WX) (σ : St) (G : Gd) (r : Res Its) (R : It → Hp → Prop) : Prop := match r with
  | .ok I M => ∀ G' J H, Gr G G' → Rep c G' H M → Wk c G' J I.ds I.gd → R J H
  | .rz x M => ∀ G' cls dd H, Gr G G' → Rep c G' H M → ExV c G' x cls dd → W cls dd σ H
  | .bad => False
def UpI (c : Cn) (W : WX) (f : IF) : TI := fun σ H R => ∃ G S M, Rep c G H M ∧ SlR c G S σ ∧ PostI c W σ G (f S M) R
def QI (X : Cx) (W : WX) (tg iter : Expr) (f : IF) : Prop := PI X tg iter (UpI (cn X) W f)
theorem PI.imp {X : Cx} {tg e : Expr} {t t' : TI} (h : PI X tg e t) (k : ∀ σ H Q, t' σ H Q → t σ H Q) : PI X tg e t' := ⟨fun pins s σ H Q I z => h.run pins s σ H Q I (k σ H Q z)⟩
theorem PostI.bind {α β : Type} {c : Cn} {W : WX} {σ : St} {G : Gd} {rel : Gd → α → β → Prop} {r : Res α} {k : α → Mem → Res Its} {R : It → Hp → Prop} (h : PostI c W σ G (r.bind k) R) :
    Post c W σ G rel r (fun v H => ∃ G' d M, Gr G G' ∧ Rep c G' H M ∧ rel G' d v ∧ PostI c W σ G' (k d M) R) := by
  cases r with
  | ok d M =>
    refine fun G2 v H g2 r q => ⟨G2, d, M, g2, r, q, ?_⟩
    have h' : PostI c W σ G (k d M) R := h
    revert h'
    cases k d M with
    | ok d M => exact fun h G3 J H g3 r w => h G3 J H (g2.trans g3) r w
    | rz x M => exact fun h G3 cls dd H g3 r w => h G3 cls dd H (g2.trans g3) r w
    | bad => exact fun h => h
  | rz x M => exact h
  | bad => exact h
theorem UpI.bind {α β : Type} {c : Cn} {W : WX} {σ : St} {H : Hp} {rel : Gd → α → β → Prop} {e : Sl → Mem → Res α} {k : Sl → α → Mem → Res Its} {R : It → Hp → Prop} (h : UpI c W (fun S M => (e S M).bind (k S)) σ H R) :
    Up c W rel e σ H (fun v H' => ∃ G S d M, Rep c G H' M ∧ SlR c G S σ ∧ rel G d v ∧ PostI c W σ G (k S d M) R) := by
  obtain ⟨G, S, M, r, s, p⟩ := h
  exact ⟨G, S, M, r, s, (PostI.bind p).imp fun v H' ⟨G', d, M', g, r', q, p'⟩ => ⟨G', S, d, M', r', s.mono g, q, p'⟩⟩

/-! ### what can be walked -/
/-- a list, a tuple -/
def iSeq (e : EF) : IF := fun S M => (e S M).bind fun d M1 => match d with
  | .lst ds => .ok ⟨ds, none⟩ M1
  | .ptr k => match M1[k]? with
    | some (.lst ds) => .ok ⟨ds, some k⟩ M1
    | _ => .bad
  | _ => .bad
def iTupF (e : EF) : IF := fun S M => (e S M).bind fun d M1 => match d with
  | .tup ds => .ok ⟨ds, none⟩ M1
  | _ => .bad
/-- range(n), range(a, b) -/
def rangeD (a : Int) (n : Nat) : List D := (List.range n).map fun i => .int (a + (i : Nat))
def iRange1 (a : AF) : IF := fun S M => (a S M).bind fun ds M1 => match ds with
  | [.int j] => if -(2 ^ 62) ≤ j ∧ j < 2 ^ 62 then .ok ⟨rangeD 0 j.toNat, none⟩ M1 else .bad
  | _ => .bad
def iRange2 (a : AF) : IF := fun S M => (a S M).bind fun ds M1 => match ds with
  | [.int i, .int j] => if -(2 ^ 62) ≤ i ∧ i < 2 ^ 62 ∧ -(2 ^ 62) ≤ j ∧ j < 2 ^ 62 then .ok ⟨rangeD i (j - i).toNat, none⟩ M1 else .bad
  | _ => .bad
/-- a text, sign by sign -/
def signsD (x : Str) : List D := x.cps.toList.map fun c => .str ⟨#[c]⟩
def iStrF (e : EF) : IF := fun S M => (e S M).bind fun d M1 => match d with
  | .str x => .ok ⟨signsD x, none⟩ M1
  | _ => .bad
/-- enumerate(list), zip(list, list) -/
def enumD (i : Nat) : List D → List D
  | [] => []
  | d :: r => .tup [.int (i : Nat), d] :: enumD (i + 1) r
def atOf (M : Mem) (d : D) : Option Its := match d with
  | .lst ds => some ⟨ds, none⟩
  | .ptr k => match M[k]? with
    | some (.lst ds) => some ⟨ds, some k⟩
    | _ => none
  | _ => none
def iEnumF (a : AF) : IF := fun S M => (a S M).bind fun ds M1 => match ds with
  | [.lst xs] => .ok ⟨enumD 0 xs, none⟩ M1
  | _ => .bad
def zipD : List D → List D → List D
  | a :: r, b :: t => .tup [a, b] :: zipD r t
  | _, _ => []
def iZipF (a : AF) : IF := fun S M => (a S M).bind fun ds M1 => match ds with
  | [.lst xs, .lst ys] => .ok ⟨zipD xs ys, none⟩ M1
  | _ => .bad
section
variable {X : Cx} {W : WX} {tg l : Expr} {f : EF}
theorem wk_list {c : Cn} {G : Gd} {a : Addr} {ds : List D} {gd : Mem → Prop} (hs : ∀ G' H M, Gr0 G G' → Rep c G' H M → gd M → ∃ xs, SqL c.K H a xs ∧ DVs c G' ds xs) : Wk c G (Itl c.K a) ds gd := fun G' H M g r k => by
  obtain ⟨xs, s, t⟩ := hs G' H M g r k
  refine ⟨fun i hi => ?_, fun i hi => ⟨xs, s, by rw [t.length]; exact hi⟩⟩
  obtain ⟨v, ev, qv⟩ := t.get (List.getElem?_eq_getElem hi)
  refine ⟨⟨xs, v, s, ev⟩, fun x H' y => ?_⟩
  obtain ⟨rfl, y⟩ := y
  have e := y xs s
  rw [ev] at e
  cases e
  exact ⟨G', ds[i], List.getElem?_eq_getElem hi, Gr.refl _, r, qv⟩
theorem wk_tup {c : Cn} {G : Gd} {a : Addr} {ds : List D} {gd : Mem → Prop} (hs : ∀ G' H M, Gr0 G G' → Rep c G' H M → gd M → ∃ xs, SqT c.K H a xs ∧ DVs c G' ds xs) : Wk c G (Itt c.K a) ds gd := fun G' H M g r k => by
  obtain ⟨xs, s, t⟩ := hs G' H M g r k
  refine ⟨fun i hi => ?_, fun i hi => ⟨xs, s, by rw [t.length]; exact hi⟩⟩
  obtain ⟨v, ev, qv⟩ := t.get (List.getElem?_eq_getElem hi)
  refine ⟨⟨xs, v, s, ev⟩, fun x H' y => ?_⟩
  obtain ⟨rfl, y⟩ := y
  have e := y xs s
  rw [ev] at e
  cases e
  exact ⟨G', ds[i], List.getElem?_eq_getElem hi, Gr.refl _, r, qv⟩
theorem qi_list (h : QE X W l f) : QI X W tg l (iSeq f) := PI.imp (pi_list h) fun σ H R h => by
  refine Up.imp (UpI.bind h) fun v H1 ⟨G, S, d, M, r, s, q, p⟩ => ?_
  split at p
  · rename_i ds
    obtain ⟨a, vs, rfl, sq, t⟩ := q
    exact ⟨a, rfl, ⟨vs, r.fz.sqL sq⟩, p G _ H1 (Gr.refl _) r (wk_list fun G' H M g r' _ => ⟨vs, r'.fz.sqL (g.sqL sq), t.mono0 g⟩)⟩
  · rename_i k
    split at p
    · rename_i ds ek
      obtain ⟨a, e1, rfl⟩ := q
      obtain ⟨vs, hu, t⟩ := r.mem k _ a ek e1
      refine ⟨a, rfl, ⟨vs, .inl (.inl hu)⟩, ?_⟩
      refine p G _ H1 (Gr.refl _) r (wk_list fun G' H' M' g r' k' => ?_)
      obtain ⟨vs', hu', t'⟩ := r'.mem k _ a (show M'[k]? = some (.lst ds) from k') (g.at e1)
      exact ⟨vs', .inl (.inl hu'), t'⟩
    · exact p.elim
  · exact p.elim
theorem qi_tup (h : QE X W l f) : QI X W tg l (iTupF f) := PI.imp (pi_tup h) fun σ H R h => by
  refine Up.imp (UpI.bind h) fun v H1 ⟨G, S, d, M, r, s, q, p⟩ => ?_
  split at p
  · rename_i ds
    obtain ⟨a, vs, rfl, sq, t⟩ := q
    exact ⟨a, rfl, ⟨vs, .inl (.inl (r.fz.tup sq))⟩, p G _ H1 (Gr.refl _) r (wk_tup fun G' H M g r' _ => ⟨vs, .inl (.inl (r'.fz.tup (g.F _ _ sq))), t.mono0 g⟩)⟩
  · exact p.elim
theorem rangeD_at {a : Int} {n i : Nat} (h : i < n) : (rangeD a n)[i]? = some (.int (a + (i : Nat))) := by
  unfold rangeD
  rw [List.getElem?_map, List.getElem?_range h]
  rfl
theorem rangeD_len (a : Int) (n : Nat) : (rangeD a n).length = n := by
  unfold rangeD
  rw [List.length_map, List.length_range]
theorem wk_range {c : Cn} {G : Gd} {a : Int} {n : Nat} {gd : Mem → Prop} : Wk c G (Itr a n) (rangeD a n) gd := fun G' H M g r k => by
  refine ⟨fun i hi => ?_, fun i hi => by rw [rangeD_len] at hi; exact hi⟩
  rw [rangeD_len] at hi
  refine ⟨hi, fun x H' y => ?_⟩
  obtain ⟨rfl, rfl⟩ := y
  exact ⟨G', _, rangeD_at hi, Gr.refl _, r, rfl⟩
variable {a b : Expr} {ta : AF} {pp pos : Pos}
theorem qi_range1 (hg : Gl X "range") (hm : X.mg "range" = none) (ha : QA X W [a] ta) (hs : starEach [a] X.env = [(false, eval a X.env)] := by rfl) : QI X W tg (.Call (.Name "range" pp) [a] [] pos) (iRange1 ta) := PI.imp (pi_range1 hg hm ha hs) fun σ H R h => by
  refine Up.imp (UpI.bind h) fun v H1 ⟨G, S, d, M, r, s, q, p⟩ => ?_
  split at p
  · rename_i j
    split at p
    · rename_i hb
      have e := DVs.ints (ns := [j]) q
      exact ⟨j, e, hb.1, hb.2, p G _ H1 (Gr.refl _) r wk_range⟩
    · exact p.elim
  · exact p.elim
theorem qi_range2 (hg : Gl X "range") (hm : X.mg "range" = none) (ha : QA X W [a, b] ta) (hs : starEach [a, b] X.env = [(false, eval a X.env), (false, eval b X.env)] := by rfl) (hs2 : starEach [b] X.env = [(false, eval b X.env)] := by rfl) :
    QI X W tg (.Call (.Name "range" pp) [a, b] [] pos) (iRange2 ta) := PI.imp (pi_range2 hg hm ha hs hs2) fun σ H R h => by
  refine Up.imp (UpI.bind h) fun v H1 ⟨G, S, d, M, r, s, q, p⟩ => ?_
  split at p
  · rename_i i j
    split at p
    · rename_i hb
      have e := DVs.ints (ns := [i, j]) q
      exact ⟨i, j, e, hb, p G _ H1 (Gr.refl _) r wk_range⟩
    · exact p.elim
  · exact p.elim
theorem qi_str (h : QE X W l f) : QI X W tg l (iStrF f) := PI.imp (pi_str h) fun σ H R h => by
  refine Up.imp (UpI.bind h) fun v H1 ⟨G, S, d, M, r, s, q, p⟩ => ?_
  split at p
  · rename_i x
    refine ⟨x, q, p G _ H1 (Gr.refl _) r fun G' H' M' g r' _ => ?_⟩
    have hl : (signsD x).length = x.cps.size := by simp [signsD]
    refine ⟨fun i hi => ?_, fun i hi => by rw [hl] at hi; exact hi⟩
    rw [hl] at hi
    refine ⟨hi, fun y H2 z => ?_⟩
    obtain ⟨rfl, c, e, rfl⟩ := z
    refine ⟨G', .str ⟨#[c]⟩, ?_, Gr.refl _, r', rfl⟩
    unfold signsD
    rw [List.getElem?_map, Array.getElem?_toList, e]
    rfl
  · exact p.elim
theorem enumD_at : ∀ {xs : List D} {i j : Nat} {d : D}, xs[j]? = some d → (enumD i xs)[j]? = some (.tup [.int ((i + j : Nat) : Int), d])
  | [], _, _, _, h => by simp at h
  | x :: r, i, 0, d, h => by
    cases Option.some.inj h
    rfl
  | x :: r, i, j + 1, d, h => by
    have ih := enumD_at (xs := r) (i := i + 1) (j := j) (d := d) h
    show (enumD (i + 1) r)[j]? = _
    rw [ih, show i + 1 + j = i + (j + 1) by omega]
theorem enumD_len : ∀ (xs : List D) (i : Nat), (enumD i xs).length = xs.length
  | [], _ => rfl
  | x :: r, i => by
    show (enumD (i + 1) r).length + 1 = r.length + 1
    rw [enumD_len r]
theorem zipD_at : ∀ {xs ys : List D} {j : Nat} {d e : D}, xs[j]? = some d → ys[j]? = some e → (zipD xs ys)[j]? = some (.tup [d, e])
  | [], _, _, _, _, h, _ => by simp at h
  | _ :: _, [], _, _, _, _, h => by simp at h
  | x :: r, y :: t, 0, d, e, h, h2 => by
    cases Option.some.inj h
    cases Option.some.inj h2
    rfl
  | x :: r, y :: t, j + 1, d, e, h, h2 => zipD_at (xs := r) (ys := t) (j := j) h h2
theorem zipD_len : ∀ (xs ys : List D), (zipD xs ys).length = min xs.length ys.length
  | [], ys => by simp [zipD]
  | x :: r, [] => by simp [zipD]
  | x :: r, y :: t => by
    show (zipD r t).length + 1 = _
    rw [zipD_len r t]
    simp
/-- a pair that is made on the way -/
theorem pair_new {c : Cn} {G : Gd} {H : Hp} {M : Mem} {T : Addr} {x y : V} {d e : D} (r : Rep c G H M) (hT : H T = none) (q1 : DV c G d x) (q2 : DV c G e y) : ∃ G2, Gr G G2 ∧ Rep c G2 (upd H T (.tup [x, y])) M ∧ DV c G2 (.tup [d, e]) (.ref T) := by
  have g := Gr.newF (G := G) (o := .tup [x, y]) (r.fz.free hT)
  exact ⟨_, g, r.newF hT, T, [x, y], rfl, upd_same, DVs.cons (q1.mono g) (DVs.one (q2.mono g))⟩
theorem qi_enum {elts : List Expr} {kk : Nat} {tpos : Pos} (hg : Gl X "enumerate") (hm : X.mg "enumerate" = none) (ha : QA X W [a] ta) (hs : starEach [a] X.env = [(false, eval a X.env)] := by rfl) :
    QI X W (.Tuple elts kk tpos) (.Call (.Name "enumerate" pp) [a] [] pos) (iEnumF ta) := PI.imp (pi_enum hg hm ha hs) fun σ H R h => by
  refine Up.imp (UpI.bind h) fun v H1 ⟨G, S, d, M, r, s, q, p⟩ => ?_
  split at p
  · rename_i xs
    obtain ⟨v1, t1, rfl, q1, rfl⟩ := q
    obtain ⟨b, vs, rfl, sq, t⟩ := q1
    refine ⟨b, vs, rfl, r.fz.sqL sq, p G _ H1 (Gr.refl _) r fun G' H' M' g r' _ => ?_⟩
    have sq' : SqL (cn X).K H' b vs := r'.fz.sqL (g.sqL sq)
    have t' := t.mono0 g
    refine ⟨fun i hi => ?_, fun i hi => ⟨vs, sq', by rw [t'.length]; rw [enumD_len] at hi; exact hi⟩⟩
    rw [enumD_len] at hi
    obtain ⟨w, ew, qw⟩ := t'.get (List.getElem?_eq_getElem hi)
    refine ⟨⟨vs, w, sq', ew⟩, fun y H2 z => ?_⟩
    obtain ⟨T, x1, rfl, nT, rfl, f1⟩ := z
    have e1 := f1 vs sq'
    rw [ew] at e1
    cases e1
    obtain ⟨G2, g2, r2, q2⟩ := pair_new (d := .int (i : Nat)) (x := .int (i : Nat)) r' nT rfl qw
    refine ⟨G2, _, ?_, g2, r2, q2⟩
    rw [enumD_at (List.getElem?_eq_getElem hi), Nat.zero_add]
  · exact p.elim
theorem qi_zip {elts : List Expr} {kk : Nat} {tpos : Pos} (hg : Gl X "zip") (hm : X.mg "zip" = none) (ha : QA X W [a, b] ta) (hs : starEach (a :: [b]) X.env = (false, eval a X.env) :: starEach [b] X.env := by rfl) (hpl : (backTo pos (starEach [b] X.env)).any (·.1) = false := by rfl) :
    QI X W (.Tuple elts kk tpos) (.Call (.Name "zip" pp) [a, b] [] pos) (iZipF ta) := PI.imp (pi_zip hg hm ha hs hpl) fun σ H R h => by
  refine Up.imp (UpI.bind h) fun v H1 ⟨G, S, d, M, r, s, q, p⟩ => ?_
  split at p
  · rename_i xs ys
    obtain ⟨v1, t1, rfl, q1, v2, t2, rfl, q2, rfl⟩ := q
    obtain ⟨b1, vs, rfl, sq, t⟩ := q1
    obtain ⟨b2, ws, rfl, sq2, u⟩ := q2
    refine ⟨b1, b2, vs, ws, rfl, r.fz.sqL sq, r.fz.sqL sq2, p G _ H1 (Gr.refl _) r fun G' H' M' g r' _ => ?_⟩
    have s1 : SqL (cn X).K H' b1 vs := r'.fz.sqL (g.sqL sq)
    have s2 : SqL (cn X).K H' b2 ws := r'.fz.sqL (g.sqL sq2)
    have t' := t.mono0 g
    have u' := u.mono0 g
    refine ⟨fun i hi => ?_, fun i hi => ⟨vs, ws, s1, s2, ?_⟩⟩
    · rw [zipD_len] at hi
      have h1 : i < xs.length := by omega
      have h2 : i < ys.length := by omega
      obtain ⟨w1, ew1, qw1⟩ := t'.get (List.getElem?_eq_getElem h1)
      obtain ⟨w2, ew2, qw2⟩ := u'.get (List.getElem?_eq_getElem h2)
      refine ⟨⟨vs, ws, w1, w2, s1, s2, ew1, ew2⟩, fun y H2 z => ?_⟩
      obtain ⟨T, x1, x2, rfl, nT, rfl, f1, f2⟩ := z
      have e1 := f1 vs s1
      have e2 := f2 ws s2
      rw [ew1] at e1
      rw [ew2] at e2
      cases e1
      cases e2
      obtain ⟨G2, g2, r2, q2⟩ := pair_new r' nT qw1 qw2
      exact ⟨G2, _, zipD_at (List.getElem?_eq_getElem h1) (List.getElem?_eq_getElem h2), g2, r2, q2⟩
    · rw [zipD_len] at hi
      rw [t'.length, u'.length]
      omega
  · exact p.elim
end

/-! ### for -/
noncomputable def forL (gd : Mem → Prop) (g : GF) (t : TF) (vs : List Nat) : List D → Sl → Mem → SR
  | [], S, M => if gd M then .nx S M else .bad
  | d :: r, S, M => if gd M then (g d S M).thn S fun S1 M1 => match t S1 M1 with
      | .nx S2 M2 => forL gd g t vs r (kl vs S2) M2
      | .ct S2 M2 => forL gd g t vs r (kl vs S2) M2
      | .bk S2 M2 => .nx S2 M2
      | r => r
    else .bad
noncomputable def kFor (f : IF) (g : GF) (t : TF) (vs : List Nat) : TF := fun S M => (f S M).thn S fun I M1 => forL I.gd g t vs I.ds S M1
section
variable {X : Cx} {W : WX} {pos : Pos} {tg iter : Expr} {body : List Stmt} {f : IF} {g : GF} {t : TF} {vs : List Nat}
theorem qfor (hp : PassesOwn (model X.prog X.w) X.A X.env X.xe) (hc : X.calm = true) (hi : QI X W tg iter f) (hg : QG X W tg g) (hb : QSs X W body t) (hs : ∀ x, foldedSetIterable iter X.env x = pure x := by intro _; rfl) :
    QS X W (.For tg iter body [] pos) (kFor f g t vs) := PS.imp (ps_for hp hc hi hg hb hs) fun D σ H h => by
  obtain ⟨G, S, M, r, s, p⟩ := h
  refine ⟨G, S, M, r, s, ?_⟩
  unfold kFor at p
  cases ef : f S M with
  | bad => rw [ef] at p; exact p
  | rz x M1 => rw [ef] at p; exact fun G2 cls dd H2 g2 r2 q2 => p G2 cls dd σ H2 g2 r2 (s.mono g2) q2
  | ok I M1 =>
    rw [ef] at p
    intro G1 J H1 g1 r1 w1
    have p1 : PostS (cn X) W G1 D (forL I.gd g t vs I.ds S M1) := PostS.mono g1 p
    refine ⟨fun i m σ H => m = I.ds.length - i ∧ i ≤ I.ds.length ∧ ∃ G S M, Gr G1 G ∧ Rep (cn X) G H M ∧ SlR (cn X) G S σ ∧ PostS (cn X) W G D (forL I.gd g t vs (I.ds.drop i) S M),
      ⟨I.ds.length, by simp, Nat.zero_le _, G1, S, M1, Gr.refl _, r1, s.mono g1, p1⟩, ?_⟩
    rintro i m σ H ⟨rfl, hi, G2, S2, M2, g2, r2, s2, p2⟩
    by_cases hlt : i < I.ds.length
    · have ed : I.ds.drop i = I.ds[i] :: I.ds.drop (i + 1) := List.drop_eq_getElem_cons hlt
      rw [ed] at p2
      unfold forL at p2
      by_cases hk : I.gd M2
      · rw [if_pos hk] at p2
        obtain ⟨go, yl⟩ := (w1 G2 H M2 g2.toGr0 r2 hk).1 i hlt
        refine .inr ⟨go, fun σ H => ∃ G S M, Gr G1 G ∧ Rep (cn X) G H M ∧ SlR (cn X) G S σ ∧ PostS (cn X) W G D (forL I.gd g t vs (I.ds.drop (i + 1)) S M), fun σ' H' z => ⟨_, by omega, rfl, hlt, z⟩, fun x H' y => ?_⟩
        obtain ⟨G3, d, ed3, g3, r3, q3⟩ := yl x H' y
        rw [List.getElem?_eq_getElem hlt] at ed3
        cases ed3
        refine ⟨G3, S2, M2, _, r3, s2.mono g3, q3, (PostS.thnE (s2.mono g3) (PostS.mono g3 p2)).imp fun σ4 H4 ⟨G4, S4, M4, g4, r4, s4, p4⟩ => ?_⟩
        refine ⟨G4, S4, M4, r4, s4, ?_⟩
        have gg := (g2.trans g3).trans g4
        cases et : t S4 M4 with
        | nx S5 M5 => rw [et] at p4; exact fun G5 σ5 H5 g5 r5 s5 => ⟨G5, _, M5, gg.trans g5, r5, s5.kl, PostS.mono g5 p4⟩
        | ct S5 M5 => rw [et] at p4; exact fun G5 σ5 H5 g5 r5 s5 => ⟨G5, _, M5, gg.trans g5, r5, s5.kl, PostS.mono g5 p4⟩
        | bk S5 M5 => rw [et] at p4; exact p4
        | rt _ _ => rw [et] at p4; exact p4
        | rz _ _ _ => rw [et] at p4; exact p4
        | bad => rw [et] at p4; exact p4
      · rw [if_neg hk] at p2
        exact p2.elim
    · have ei : i = I.ds.length := by omega
      subst ei
      rw [List.drop_length] at p2
      unfold forL at p2
      by_cases hk : I.gd M2
      · rw [if_pos hk] at p2
        exact .inl ⟨(w1 G2 H M2 g2.toGr0 r2 hk).2 _ (Nat.le_refl _), p2 G2 σ H (Gr.refl _) r2 s2⟩
      · rw [if_neg hk] at p2
        exact p2.elim
end

/-! ### list comprehensions -/
/-- the items that the turns give -/
noncomputable def lcL (gd : Mem → Prop) (g : GF) (b : BF) (e : EF) (S0 : Sl) : List D → List D → Mem → Res (List D)
  | [], acc, M => if gd M then .ok acc M else .bad
  | d :: r, acc, M => if gd M then match g d S0 M with
      | .ok S1 M1 => match b S1 M1 with
        | .ok true M2 => match e S1 M2 with
          | .ok y M3 => if acc.length < sizeLine then lcL gd g b e S0 r (acc ++ [y]) M3 else .bad
          | _ => .bad
        | .ok false M2 => lcL gd g b e S0 r acc M2
        | _ => .bad
      | _ => .bad
    else .bad
/-- a new list that will not change; vs: the slots of the comprehension's own names -/
noncomputable def eLc (f : IF) (g : GF) (b : BF) (e : EF) (vs : List Nat) : EF := fun S M => (f S M).bind fun I M1 => (lcL I.gd g b e (kl vs S) I.ds [] M1).bind fun ys M2 => .ok (.lst ys) M2
/-- .. that may change -/
noncomputable def eLcP (f : IF) (g : GF) (b : BF) (e : EF) (vs : List Nat) : EF := fun S M => (f S M).bind fun I M1 => (lcL I.gd g b e (kl vs S) I.ds [] M1).bind fun ys M2 => .ok (.ptr M2.length) (M2 ++ [.lst ys])
def W0 : WX := fun _ _ _ _ => False
def bYes : BF := fun _ M => .ok true M
end QL
end
section
set_option Elab.async false
set_option linter.all false
set_option maxRecDepth 100000
set_option maxHeartbeats 4000000
set_option autoImplicit false
/-! QComp: list comprehensions. -/
namespace QL
open PySem PySem.Spec L2
open Classical

theorem set_wipe (σ : St) (i : Nat) (x y : Option V) : ∀ vs : List Nat, (wipe (σ.set i x) vs).set i y = (wipe σ vs).set i y
  | [] => by show (σ.set i x).set i y = σ.set i y; rw [List.set_set]
  | v :: vs => by
    show ((wipe (σ.set i x) vs).set v none).set i y = ((wipe σ vs).set v none).set i y
    by_cases h : v = i
    · subst h
      rw [List.set_set, List.set_set]
      exact set_wipe σ v x y vs
    · rw [List.set_comm _ _ h, List.set_comm _ _ h, set_wipe σ i x y vs]
theorem wipe_set {σ : St} {i : Nat} {x : Option V} : ∀ {vs : List Nat}, i ∈ vs → wipe (σ.set i x) vs = wipe σ vs
  | v :: vs, h => by
    show (wipe (σ.set i x) vs).set v none = (wipe σ vs).set v none
    by_cases e : i = v
    · subst e
      exact set_wipe σ i x none vs
    · rcases List.mem_cons.mp h with z | z
      · exact absurd z e
      · rw [wipe_set z]
def UpGv (c : Cn) (W : WX) (vs : List Nat) (g : GF) : TG := fun v σ H Q => ∃ G S M d, Rep c G H M ∧ SlR c G S σ ∧ DV c G d v ∧ Post c W σ G (fun G' S' σ' => SlR c G' S' σ' ∧ wipe σ' vs = wipe σ vs) (g d S M) Q
def UpGsv (c : Cn) (W : WX) (vs : List Nat) (g : GsF) : TGs := fun v σ H Q => ∃ G S M d, Rep c G H M ∧ SlR c G S σ ∧ DVs c G d v ∧ Post c W σ G (fun G' S' σ' => SlR c G' S' σ' ∧ wipe σ' vs = wipe σ vs) (g d S M) Q
def QGv (X : Cx) (vs : List Nat) (tg : Expr) (g : GF) : Prop := PG X tg (UpGv (cn X) W0 vs g)
def QGsv (X : Cx) (vs : List Nat) (tg : List Expr) (g : GsF) : Prop := PGs X tg (UpGsv (cn X) W0 vs g)
section
variable {X : Cx} {vs : List Nat} {pos : Pos} {e : Expr} {es : List Expr} {g : GF} {gs : GsF}
theorem qv_name {i : Nat} {x : Str} (hN : X.N.Nodup) (hi : X.N[i]? = some x) (hv : i ∈ vs) (hx : Loc X.env.scope x := by first | exact .inl rfl | exact .inr rfl) (hf : X.fn x = true ∨ X.env.scope.names.lookup x = some .local := by first | exact .inl rfl | exact .inr rfl) : QGv X vs (.Name x pos) (gN i) := PG.imp (pg_name hN hi hx hf) fun v σ H Q h => by
  obtain ⟨G, S, M, d, r, s, q, p⟩ := h
  exact p G _ H (Gr.refl G) r ⟨s.set q, wipe_set hv⟩
theorem qvs_nil : QGsv X vs [] gNilF := PGs.imp pgs_nil fun v σ H Q h => by
  obtain ⟨G, S, M, ds, r, s, q, p⟩ := h
  cases ds with
  | nil => exact ⟨q, p G σ H (Gr.refl G) r ⟨s, rfl⟩⟩
  | cons d t => exact (show False from p).elim
theorem qvs_cons (h1 : QGv X vs e g) (h2 : QGsv X vs es gs) (hs : (assignEach (e :: es) X.env).map (·.2) = assign e X.env :: (assignEach es X.env).map (·.2) := by rfl) : QGsv X vs (e :: es) (gConsF g gs) := PGs.imp (pgs_cons h1 h2 hs) fun us σ H Q h => by
  obtain ⟨G, S, M, ds, r, s, q, p⟩ := h
  cases ds with
  | nil => exact (show False from p).elim
  | cons d t =>
    obtain ⟨v, vt, rfl, qd, qt⟩ := q
    refine ⟨v, vt, rfl, G, S, M, d, r, s, qd, (Post.bind (rel := fun G' S' σ' => SlR (cn X) G' S' σ' ∧ wipe σ' vs = wipe σ vs) p).imp fun σ1 H1 ⟨G1, S1, M1, g1, r1, ⟨s1, w1⟩, p1⟩ => ?_⟩
    refine ⟨G1, S1, M1, t, r1, s1, qt.mono g1, ?_⟩
    cases e : gs t S1 M1 with
    | ok S2 M2 => rw [e] at p1; exact fun G2 σ2 H2 g2 r2 ⟨s2, w2⟩ => p1 G2 σ2 H2 g2 r2 ⟨s2, w2.trans w1⟩
    | rz x M2 => rw [e] at p1; exact fun G2 cls dd H2 g2 r2 q2 => p1 G2 cls dd H2 g2 r2 q2
    | bad => rw [e] at p1; exact p1
theorem qv_tup {k : Nat} {n : Nat} (hc : X.calm = true) (h : QGsv X vs es gs) (hn : (assignEach es X.env).length = n := by rfl) (hst : (assignEach es X.env).findIdx? (·.1) = none := by rfl) : QGv X vs (.Tuple es k pos) (gTupF n gs) := PG.imp (pg_tup hc h hn hst) fun v σ H Q h => by
  obtain ⟨G, S, M, d, r, s, q, p⟩ := h
  unfold gTupF at p
  split at p
  · rename_i ds
    split at p
    · rename_i hl
      obtain ⟨a, us, rfl, hs, qs⟩ := q
      exact ⟨a, us, rfl, .inl (.inl (r.fz.tup hs)), by rw [qs.length]; exact hl, G, S, M, ds, r, s, qs, p⟩
    · exact p.elim
  · exact p.elim
def QTs (X : Cx) (ifs : List Expr) (f : BF) : Prop := PTs X ifs (Up (cn X) W0 (fun _ (a b : Bool) => a = b) f)
theorem PTs.imp {ifs : List Expr} {t t' : TT} (h : PTs X ifs t) (k : ∀ σ H Q, t' σ H Q → t σ H Q) : PTs X ifs t' := ⟨fun pins s σ H Q I z => h.run pins s σ H Q I (k σ H Q z)⟩
theorem qts_nil : QTs X [] bYes := PTs.imp pts_nil fun σ H Q h => by
  obtain ⟨G, S, M, r, s, p⟩ := h
  exact p G true H (Gr.refl G) r rfl
theorem qts_one {c : Expr} {f : BF} (h : QT X W0 c f) : QTs X [c] f := pts_one h
theorem takesB {s : Shared} {H : Hp} {scope : Scope} {ce : Env} {fp : List Addr} : Takes (X.blk s H scope ce fp) W0 := takes0
end
theorem SlR.klw {c : Cn} {G : Gd} {S : Sl} {σ : St} : ∀ {vs : List Nat} {S : Sl}, SlR c G S σ → SlR c G (QL.kl vs S) (wipe σ vs) := fun {vs S} h => by
  have h1 := SlR.kl (vs := vs) h
  have off : ∀ (vs : List Nat) (S : Sl) (i : Nat) d, (QL.kl vs S)[i]? = some (some d) → i ∉ vs := by
    intro vs
    induction vs with
    | nil => intro S i d _; simp
    | cons v vs ih =>
      intro S i d e
      have h2 := ih (S.set v none) i d e
      have h3 : ∀ (vs : List Nat) (S : Sl), (∀ d, S[i]? ≠ some (some d)) → ∀ d, (QL.kl vs S)[i]? ≠ some (some d) := by
        intro vs
        induction vs with
        | nil => exact fun S h => h
        | cons v' vs ih2 =>
          intro S h
          refine ih2 (S.set v' none) fun d e => ?_
          by_cases z : v' = i
          · subst z
            have hl : v' < S.length := by
              have := (List.getElem?_eq_some_iff.mp e).1
              rwa [List.length_set] at this
            rw [List.getElem?_set_self hl] at e
            cases Option.some.inj e
          · rw [List.getElem?_set_ne z] at e
            exact h d e
      intro hm
      rcases List.mem_cons.mp hm with z | z
      · subst z
        refine h3 vs (S.set i none) (fun d e => ?_) d e
        by_cases hl : i < S.length
        · rw [List.getElem?_set_self hl] at e
          cases Option.some.inj e
        · rw [List.getElem?_eq_none (by rw [List.length_set]; omega)] at e
          cases e
      · exact h2 z
  refine ⟨by rw [wipe_length]; exact h1.1, fun i d e => ?_⟩
  obtain ⟨v, e1, q⟩ := h1.2 i d e
  exact ⟨v, by rw [wipe_out (off vs S i d e)]; exact e1, q⟩

section
variable {X : Cx} {W : WX} {tg iter elt : Expr} {ifs : List Expr} {scope : Scope} {own : List (Str × Nat)} {pos : Pos} {f : IF} {g : GF} {b : BF} {e : EF}
/-- the turns of a comprehension -/
theorem lc_turns {c : Cn} {σ : St} {vs : List Nat} {G1 : Gd} {S : Sl} {H1 : Hp} {M1 : Mem} {I : Its} {J : It} {D : Addr} {Qd : Hp → Prop} (r1 : Rep c G1 H1 M1) (s1 : SlR c G1 S σ) (w1 : Wk c G1 J I.ds I.gd) (hD : H1 D = none)
    (ne : lcL I.gd g b e (kl vs S) I.ds [] M1 ≠ .bad) (hq : ∀ ys M2, lcL I.gd g b e (kl vs S) I.ds [] M1 = .ok ys M2 → ∀ G2 H2 us, Gr0 G1 G2 → G2.P = (D, .lst us) :: G1.P → Rep c G2 H2 M2 → DVs c G2 ys us → Qd H2) :
    ∃ Wd : Nat → Nat → Hp → Prop, (∃ m, Wd 0 m (upd H1 D (.lst []))) ∧ ∀ i m H, Wd i m H →
      (J.stop i H ∧ Qd H) ∨ (J.go i H ∧ ∃ Nx : Hp → Prop, (∀ H', Nx H' → ∃ m', m' < m ∧ Wd (i + 1) m' H') ∧ ∀ x H', J.yld i H x H' → UpGv c W0 vs g x (wipe σ vs) H' fun σ2 H2 => wipe σ2 vs = wipe σ vs ∧ Up c W0 (fun _ (a b : Bool) => a = b) b σ2 H2 fun b' H3 =>
        if b' = true then Up c W0 (DV c) e σ2 H3 fun y H4 => ∃ acc, H4 D = some (.lst acc) ∧ acc.length < sizeLine ∧ Nx (upd H4 D (.lst (acc ++ [y]))) else Nx H3) := by
  have nP : ∀ q ∈ G1.P, q.1 ≠ D := fun q hq z => by
    obtain ⟨h1, _⟩ := r1.pin q hq
    rw [z, hD] at h1
    cases h1
  obtain ⟨R0, eR0⟩ : ∃ R0, lcL I.gd g b e (kl vs S) I.ds [] M1 = R0 := ⟨_, rfl⟩
  rw [eR0] at ne hq
  refine ⟨fun i m H => m = I.ds.length - i ∧ i ≤ I.ds.length ∧ ∃ G acc us M, Gr0 G1 G ∧ G.P = (D, .lst us) :: G1.P ∧ Rep c G H M ∧ DVs c G acc us ∧ lcL I.gd g b e (kl vs S) (I.ds.drop i) acc M = R0,
    ⟨I.ds.length, by simp, Nat.zero_le _, { G1 with P := (D, .lst []) :: G1.P }, [], [], M1, ⟨fun _ _ h => h, [], (List.append_nil _).symm⟩, rfl, r1.pinNew hD, rfl, eR0⟩, ?_⟩
  rintro i m H ⟨rfl, hi, G, acc, us, M, g0, eP, r, q, el⟩
  by_cases hlt : i < I.ds.length
  · have ed : I.ds.drop i = I.ds[i] :: I.ds.drop (i + 1) := List.drop_eq_getElem_cons hlt
    rw [ed] at el
    unfold lcL at el
    by_cases hk : I.gd M
    · rw [if_pos hk] at el
      obtain ⟨go, yl⟩ := (w1 G H M g0 r hk).1 i hlt
      refine .inr ⟨go, fun H => ∃ G acc us M, Gr0 G1 G ∧ G.P = (D, .lst us) :: G1.P ∧ Rep c G H M ∧ DVs c G acc us ∧ lcL I.gd g b e (kl vs S) (I.ds.drop (i + 1)) acc M = R0,
        fun H' z => ⟨_, by omega, rfl, hlt, z⟩, fun x H' y => ?_⟩
      obtain ⟨G3, d, ed3, g3, r3, q3⟩ := yl x H' y
      rw [List.getElem?_eq_getElem hlt] at ed3
      cases ed3
      refine ⟨G3, kl vs S, M, _, r3, SlR.klw (S := S) (⟨s1.1, fun i d e => let ⟨v, z, w⟩ := s1.2 i d e; ⟨v, z, w.mono0 (g0.trans g3.toGr0)⟩⟩), q3, ?_⟩
      cases eg : g I.ds[i] (kl vs S) M with
      | rz x M2 => rw [eg] at el; exact absurd el.symm ne
      | bad => rw [eg] at el; exact absurd el.symm ne
      | ok S4 M4 =>
        rw [eg] at el
        intro G4 σ4 H4 g4 r4 ⟨s4, w4⟩
        have ww : wipe σ4 vs = wipe σ vs := by
          rw [w4]
          have id1 : ∀ (vs : List Nat) (σ : St), wipe (wipe σ vs) vs = wipe σ vs := by
            intro vs σ
            have st : ∀ (i : Nat) (τ : St), (wipe τ vs)[i]? = if i ∈ vs then (τ[i]?).map (fun _ => (none : Option V)) else τ[i]? := by
              induction vs with
              | nil => intro i τ; simp [wipe]
              | cons v vs ih =>
                intro i τ
                show ((wipe τ vs).set v none)[i]? = _
                by_cases hv : v = i
                · subst hv
                  rw [if_pos (List.mem_cons_self)]
                  rw [List.getElem?_set]
                  rw [if_pos rfl, wipe_length]
                  by_cases hl : v < τ.length
                  · rw [if_pos hl, List.getElem?_eq_getElem hl]; rfl
                  · rw [if_neg hl, List.getElem?_eq_none (by omega)]; rfl
                · rw [List.getElem?_set_ne hv, ih i τ]
                  by_cases hm : i ∈ vs
                  · rw [if_pos hm, if_pos (List.mem_cons_of_mem _ hm)]
                  · rw [if_neg hm, if_neg (by intro z; rcases List.mem_cons.mp z with z | z; exact hv z.symm; exact hm z)]
            apply List.ext_getElem?
            intro i
            rw [st i (wipe σ vs), st i σ]
            by_cases hm : i ∈ vs
            · rw [if_pos hm, if_pos hm]
              cases σ[i]? <;> rfl
            · rw [if_neg hm, if_neg hm]
          exact id1 vs σ
        refine ⟨ww, G4, S4, M4, r4, s4, ?_⟩
        have gg := (g0.trans g3.toGr0).trans g4.toGr0
        have eP4 : G4.P = (D, .lst us) :: G1.P := by rw [g4.P, g3.P, eP]
        have q4 := q.mono0 (g3.toGr0.trans g4.toGr0)
        cases eb : b S4 M4 with
        | rz x M5 => simp only [eb] at el; exact absurd el.symm ne
        | bad => simp only [eb] at el; exact absurd el.symm ne
        | ok k M5 =>
          simp only [eb] at el
          intro G5 k' H5 g5 r5 hk'
          subst hk'
          have eP5 : G5.P = (D, .lst us) :: G1.P := by rw [g5.P, eP4]
          cases k with
          | false =>
            rw [if_neg Bool.false_ne_true]
            exact ⟨G5, acc, us, M5, gg.trans g5.toGr0, eP5, r5, q4.mono g5, el⟩
          | true =>
            rw [if_pos rfl]
            refine ⟨G5, S4, M5, r5, s4.mono g5, ?_⟩
            cases ee : e S4 M5 with
            | rz x M6 => simp only [ee] at el; exact absurd el.symm ne
            | bad => simp only [ee] at el; exact absurd el.symm ne
            | ok y M6 =>
              simp only [ee] at el
              by_cases hz : acc.length < sizeLine
              · rw [if_pos hz] at el
                intro G6 v H6 g6 r6 q6
                have eP6 : G6.P = (D, .lst us) :: G1.P := by rw [g6.P, eP5]
                have hpin := r6.pin (D, .lst us) (by rw [eP6]; exact List.mem_cons_self)
                have q5 := (q4.mono g5).mono g6
                refine ⟨us, hpin.1, by rw [q5.length]; exact hz, ?_⟩
                have e6 : G6 = { G6 with P := (D, .lst us) :: G1.P } := by
                  obtain ⟨F6, θ6, P6⟩ := G6
                  have eP6' : P6 = (D, .lst us) :: G1.P := eP6
                  rw [eP6']
                rw [e6] at r6
                have r7 := r6.pinSet (o' := .lst (us ++ [v])) nP
                refine ⟨{ G6 with P := (D, .lst (us ++ [v])) :: G1.P }, acc ++ [y], us ++ [v], M6, ⟨(gg.trans (g5.toGr0.trans g6.toGr0)).F, (gg.trans (g5.toGr0.trans g6.toGr0)).θ⟩, rfl, r7, ?_, el⟩
                have g7 : Gr0 G6 { G6 with P := (D, .lst (us ++ [v])) :: G1.P } := ⟨fun _ _ h => h, [], (List.append_nil _).symm⟩
                exact (q5.append (DVs.one q6)).mono0 g7
              · rw [if_neg hz] at el
                exact absurd el.symm ne
    · rw [if_neg hk] at el
      exact absurd el.symm ne
  · have ei : i = I.ds.length := by omega
    subst ei
    rw [List.drop_length] at el
    unfold lcL at el
    by_cases hk : I.gd M
    · rw [if_pos hk] at el
      exact .inl ⟨(w1 G H M g0 r hk).2 _ (Nat.le_refl _), hq _ _ el.symm G H us g0 eP r q⟩
    · rw [if_neg hk] at el
      exact absurd el.symm ne
theorem up_lc {c : Cn} {vs : List Nat} {σ : St} {H : Hp} {Q : VK} (h : Up c W (DV c) (eLc f g b e vs) σ H Q) : tLc (UpI c W f) (UpGv c W0 vs g) (Up c W0 (fun _ (a b : Bool) => a = b) b) (Up c W0 (DV c) e) vs σ H Q := by
  obtain ⟨G, S, M, r, s, p⟩ := h
  refine ⟨G, S, M, r, s, ?_⟩
  unfold eLc at p
  cases ef : f S M with
  | bad => rw [ef] at p; exact p
  | rz x M1 => rw [ef] at p; exact p
  | ok I M1 =>
    rw [ef] at p
    intro G1 J H1 g1 r1 w1 D hD
    have p1 : Post c W σ G1 (DV c) ((lcL I.gd g b e (kl vs S) I.ds [] M1).bind fun ys M2 => .ok (.lst ys) M2) Q := Post.mono g1 p
    have ne : lcL I.gd g b e (kl vs S) I.ds [] M1 ≠ .bad := fun z => by rw [z] at p1; exact p1
    refine lc_turns r1 (s.mono g1) w1 hD ne fun ys M2 ey G2 H2 us g2 eP r2 q2 => ?_
    rw [ey] at p1
    have nP : ∀ q ∈ G1.P, q.1 ≠ D := fun q hq z => by
      obtain ⟨h1, _⟩ := r1.pin q hq
      rw [z, hD] at h1
      cases h1
    have e2 : G2 = { G2 with P := (D, .lst us) :: G1.P } := by
      obtain ⟨F6, θ6, P6⟩ := G2
      have eP6' : P6 = (D, .lst us) :: G1.P := eP
      rw [eP6']
    rw [e2] at r2
    have hf := (r2.pin (D, .lst us) List.mem_cons_self).2.1
    have r3 := r2.pinF nP
    have g3 : Gr0 G2 { G2 with F := upd G2.F D (.lst us), P := G1.P } := ⟨fun a u e => by show upd G2.F D _ a = some u; rw [upd_ne (ne_of_none e hf)]; exact e, [], (List.append_nil _).symm⟩
    exact p1 _ _ H2 ⟨g2.trans g3, rfl⟩ r3 ⟨D, us, rfl, .inl (.inl upd_same), q2.mono0 g3⟩
theorem up_lcP {c : Cn} {vs : List Nat} {σ : St} {H : Hp} {Q : VK} (h : Up c W (DV c) (eLcP f g b e vs) σ H Q) : tLc (UpI c W f) (UpGv c W0 vs g) (Up c W0 (fun _ (a b : Bool) => a = b) b) (Up c W0 (DV c) e) vs σ H Q := by
  obtain ⟨G, S, M, r, s, p⟩ := h
  refine ⟨G, S, M, r, s, ?_⟩
  unfold eLcP at p
  cases ef : f S M with
  | bad => rw [ef] at p; exact p
  | rz x M1 => rw [ef] at p; exact p
  | ok I M1 =>
    rw [ef] at p
    intro G1 J H1 g1 r1 w1 D hD
    have p1 : Post c W σ G1 (DV c) ((lcL I.gd g b e (kl vs S) I.ds [] M1).bind fun ys M2 => .ok (.ptr M2.length) (M2 ++ [.lst ys])) Q := Post.mono g1 p
    have ne : lcL I.gd g b e (kl vs S) I.ds [] M1 ≠ .bad := fun z => by rw [z] at p1; exact p1
    refine lc_turns r1 (s.mono g1) w1 hD ne fun ys M2 ey G2 H2 us g2 eP r2 q2 => ?_
    rw [ey] at p1
    have nP : ∀ q ∈ G1.P, q.1 ≠ D := fun q hq z => by
      obtain ⟨h1, _⟩ := r1.pin q hq
      rw [z, hD] at h1
      cases h1
    have e2 : G2 = { G2 with P := (D, .lst us) :: G1.P } := by
      obtain ⟨F6, θ6, P6⟩ := G2
      have eP6' : P6 = (D, .lst us) :: G1.P := eP
      rw [eP6']
    rw [e2] at r2
    have hd := (r2.pin (D, .lst us) List.mem_cons_self).1
    have g3 : Gr0 G2 { G2 with θ := G2.θ ++ [D], P := G1.P } := ⟨fun a u e => e, [D], rfl⟩
    have r3 := r2.pinP (mo := .lst ys) nP ⟨us, hd, q2.mono0 g3⟩
    have hl : G2.θ.length = M2.length := r2.len
    refine p1 _ _ H2 ⟨g2.trans g3, rfl⟩ r3 ⟨D, ?_, rfl⟩
    show (G2.θ ++ [D])[M2.length]? = some D
    rw [← hl, List.getElem?_append_right (Nat.le_refl _), Nat.sub_self]
    rfl
theorem qlc (hc : X.calm = true) (hN : X.N.Nodup) (hi : QI X W tg iter f) (ok : BlkOk X.N X.env.scope scope own)
    (hg : ∀ (s : Shared) (H : Hp) (C : Addr) (cl : List (Str × Addr)) (fp : List Addr), QGv (X.blk s H scope (compEnvC scope cl C X.env) fp) (own.map (·.2)) tg g) (ht : ∀ (s : Shared) (H : Hp) (C : Addr) (cl : List (Str × Addr)) (fp : List Addr), QTs (X.blk s H scope (compEnvC scope cl C X.env) fp) ifs b)
    (he : ∀ (s : Shared) (H : Hp) (C : Addr) (cl : List (Str × Addr)) (fp : List Addr), QE (X.blk s H scope (compEnvC scope cl C X.env) fp) W0 elt e) (hs : ∀ x, foldedSetIterable iter X.env x = pure x := by intro _; rfl) :
    QE X W (.ListComp elt [⟨tg, iter, ifs, 0⟩] scope pos) (eLc f g b e (own.map (·.2))) := PE.imp (pe_lc (g := UpGv (cn X) W0 (own.map fun p : Str × Nat => p.2) g) (tt := Up (cn X) W0 (fun _ (a b : Bool) => a = b) b) (te := Up (cn X) W0 (DV (cn X)) e) hc hN hi ok hg ht he hs) fun _ _ _ h => up_lc h
theorem qlcP (hc : X.calm = true) (hN : X.N.Nodup) (hi : QI X W tg iter f) (ok : BlkOk X.N X.env.scope scope own)
    (hg : ∀ (s : Shared) (H : Hp) (C : Addr) (cl : List (Str × Addr)) (fp : List Addr), QGv (X.blk s H scope (compEnvC scope cl C X.env) fp) (own.map (·.2)) tg g) (ht : ∀ (s : Shared) (H : Hp) (C : Addr) (cl : List (Str × Addr)) (fp : List Addr), QTs (X.blk s H scope (compEnvC scope cl C X.env) fp) ifs b)
    (he : ∀ (s : Shared) (H : Hp) (C : Addr) (cl : List (Str × Addr)) (fp : List Addr), QE (X.blk s H scope (compEnvC scope cl C X.env) fp) W0 elt e) (hs : ∀ x, foldedSetIterable iter X.env x = pure x := by intro _; rfl) :
    QE X W (.ListComp elt [⟨tg, iter, ifs, 0⟩] scope pos) (eLcP f g b e (own.map (·.2))) := PE.imp (pe_lc (g := UpGv (cn X) W0 (own.map fun p : Str × Nat => p.2) g) (tt := Up (cn X) W0 (fun _ (a b : Bool) => a = b) b) (te := Up (cn X) W0 (DV (cn X)) e) hc hN hi ok hg ht he hs) fun _ _ _ h => up_lcP h
/-- name = [..] -/
theorem qsetLc {i : Nat} {y : Str} {py spos : Pos} {h : EF} (hh : h = eLc f g b e (own.map (·.2)) ∨ h = eLcP f g b e (own.map (·.2))) (hc : X.calm = true) (hN : X.N.Nodup) (hy : X.N[i]? = some y) (hyl : X.env.scope.names.lookup y = some .local)
    (hsw : swapsWith (.ListComp elt [⟨tg, iter, ifs, 0⟩] scope pos) (some (.Name y py)) spos.line X.env = pure true) (hi : QI X W tg iter f) (ok : BlkOk X.N X.env.scope scope own)
    (hg : ∀ (s : Shared) (H : Hp) (C : Addr) (cl : List (Str × Addr)) (fp : List Addr), QGv (X.blk s H scope (compEnvC scope cl C X.env) fp) (own.map (·.2)) tg g) (ht : ∀ (s : Shared) (H : Hp) (C : Addr) (cl : List (Str × Addr)) (fp : List Addr), QTs (X.blk s H scope (compEnvC scope cl C X.env) fp) ifs b)
    (he : ∀ (s : Shared) (H : Hp) (C : Addr) (cl : List (Str × Addr)) (fp : List Addr), QE (X.blk s H scope (compEnvC scope cl C X.env) fp) W0 elt e) (hs : ∀ x, foldedSetIterable iter X.env x = pure x := by intro _; rfl) :
    QS X W (.Assign [.Name y py] (.ListComp elt [⟨tg, iter, ifs, 0⟩] scope pos) spos) (kAsg h (gN i)) := PS.imp (ps_setLc (g := UpGv (cn X) W0 (own.map fun p : Str × Nat => p.2) g) (tt := Up (cn X) W0 (fun _ (a b : Bool) => a = b) b) (te := Up (cn X) W0 (DV (cn X)) e) hc hN hy hyl hsw hi ok hg ht he hs) fun D σ H hp => by
  have z : Up (cn X) W (DV (cn X)) h σ H (fun x H1 => gName i x σ H1 D.nx) := by
    refine Up.imp (UpS.thn hp) fun v H1 ⟨G, S, d, M, r, s, q, p⟩ => ?_
    exact p G _ H1 (Gr.refl G) r (s.set q)
  rcases hh with rfl | rfl
  · exact up_lc z
  · exact up_lcP z
end
end QL
end
section
set_option Elab.async false
set_option linter.all false
set_option maxRecDepth 100000
set_option maxHeartbeats 4000000
set_option autoImplicit false
/-! QDict: dicts, their keys ints, texts or tuples of these. -/
namespace QL
open PySem PySem.Spec L2
open Classical

def keyOf : D → Option Key
  | .int i => some (.inl i)
  | .str x => some (.inr x)
  | _ => none
def keysOf : List D → Option (List Key)
  | [] => some []
  | d :: r => match keyOf d, keysOf r with
    | some k, some t => some (k :: t)
    | _, _ => none
section
variable {κ : Type} [DecidableEq κ]
def valD (kvs : List (κ × D)) (k : κ) : Option D := (kvs.find? fun kv => decide (kv.1 = k)).map (·.2)
def putKD (kvs : List (κ × D)) (k : κ) (d : D) : List (κ × D) :=
  if kvs.any (fun kv => decide (kv.1 = k)) = true then kvs.map (fun kv => if kv.1 = k then (kv.1, d) else kv) else kvs ++ [(k, d)]
/-- pairs that stand for pairs -/
def KR (c : Cn) (G : Gd) (p : κ × D) (q : κ × V) : Prop := q.1 = p.1 ∧ DV c G p.2 q.2
variable {c : Cn} {G : Gd}
/-- what is there, in data and in values -/
def ORel (c : Cn) (G : Gd) : Option D → Option V → Prop
  | some d, some w => DV c G d w
  | none, none => True
  | _, _ => False
theorem kr_val {kvs : List (κ × D)} {ws : List (κ × V)} (h : Paired (KR c G) kvs ws) (k : κ) : ORel c G (valD kvs k) (valV ws k) := by
  induction h with
  | nil => trivial
  | @cons p q ps qs r t ih =>
    obtain ⟨e, r⟩ := r
    by_cases z : p.1 = k
    · have e1 : valD (p :: ps) k = some p.2 := by simp [valD, List.find?_cons, z]
      rw [e1, valV_pos (e.trans z)]
      exact r
    · have e1 : valD (p :: ps) k = valD ps k := by simp [valD, List.find?_cons, z]
      rw [e1, valV_neg (fun y => z (e.symm.trans y))]
      exact ih
theorem kr_any {kvs : List (κ × D)} {ws : List (κ × V)} (h : Paired (KR c G) kvs ws) (k : κ) : (ws.any fun kv => decide (kv.1 = k)) = kvs.any fun kv => decide (kv.1 = k) := by
  induction h with
  | nil => rfl
  | @cons p q ps qs r t ih =>
    rw [List.any_cons, List.any_cons, ih, r.1]
theorem paired_map2 {α β α' β' : Type} {R : α → β → Prop} {R' : α' → β' → Prop} {f : α → α'} {g : β → β'} {xs : List α} {ys : List β} (h : Paired R xs ys) (k : ∀ a b, R a b → R' (f a) (g b)) : Paired R' (xs.map f) (ys.map g) := by
  induction h with
  | nil => exact .nil
  | cons r _ ih => exact .cons (k _ _ r) ih
theorem paired_app {α β : Type} {R : α → β → Prop} {xs xs' : List α} {ys ys' : List β} (h : Paired R xs ys) (h' : Paired R xs' ys') : Paired R (xs ++ xs') (ys ++ ys') := by
  induction h with
  | nil => exact h'
  | cons r _ ih => exact .cons r ih
theorem kr_put {kvs : List (κ × D)} {ws : List (κ × V)} (h : Paired (KR c G) kvs ws) (k : κ) {d : D} {v : V} (q : DV c G d v) : Paired (KR c G) (putKD kvs k d) (putK ws k v) := by
  unfold putKD putK
  rw [kr_any h k]
  split
  · refine paired_map2 h fun a b ⟨e, r⟩ => ?_
    by_cases z : a.1 = k
    · rw [if_pos z, if_pos (e.trans z)]
      exact ⟨e, q⟩
    · rw [if_neg z, if_neg (fun y => z (e.symm.trans y))]
      exact ⟨e, r⟩
  · exact paired_app h (.cons ⟨rfl, q⟩ .nil)
theorem kr_len {kvs : List (κ × D)} {ws : List (κ × V)} (h : Paired (KR c G) kvs ws) : ws.length = kvs.length := by
  induction h with
  | nil => rfl
  | cons r _ ih => rw [List.length_cons, List.length_cons, ih]
end
section
variable {c : Cn} {G G' : Gd} {H : Hp} {M : Mem}
theorem DVk.pr : ∀ {ds : List (Key × D)} {vs : List (Key × V)}, DVk c G ds vs → Paired (KR c G) ds vs
  | [], _, h => by rw [show _ = ([] : List (Key × V)) from h]; exact .nil
  | (k, d) :: r, _, h => by
    obtain ⟨v, t, rfl, q, h⟩ := h
    exact .cons q (DVk.pr h)
theorem DVk.of : ∀ {ds : List (Key × D)} {vs : List (Key × V)}, Paired (KR c G) ds vs → DVk c G ds vs
  | [], _, h => by cases h; exact rfl
  | (k, d) :: r, _, h => by
    cases h with
    | cons q t => exact ⟨_, _, rfl, q, DVk.of t⟩
theorem DVt.pr : ∀ {ds : List (List Key × D)} {vs : List (List Key × V)}, DVt c G ds vs → Paired (KR c G) ds vs
  | [], _, h => by rw [show _ = ([] : List (List Key × V)) from h]; exact .nil
  | (k, d) :: r, _, h => by
    obtain ⟨v, t, rfl, q, h⟩ := h
    exact .cons q (DVt.pr h)
theorem DVt.of : ∀ {ds : List (List Key × D)} {vs : List (List Key × V)}, Paired (KR c G) ds vs → DVt c G ds vs
  | [], _, h => by cases h; exact rfl
  | (k, d) :: r, _, h => by
    cases h with
    | cons q t => exact ⟨_, _, rfl, q, DVt.of t⟩
theorem keyOf_at {d : D} {v : V} {k : Key} (q : DV c G d v) (h : keyOf d = some k) : v = kV k := by
  unfold keyOf at h
  split at h
  · cases h; exact q
  · cases h; exact q
  · cases h
theorem keysOf_at : ∀ {ds : List D} {vs : List V} {k : List Key}, DVs c G ds vs → keysOf ds = some k → vs = k.map kV
  | [], _, _, q, h => by cases h; exact q
  | d :: r, _, k, q, h => by
    obtain ⟨v, t, rfl, q1, q2⟩ := q
    unfold keysOf at h
    split at h
    · rename_i k1 k2 e1 e2
      cases h
      rw [keyOf_at q1 e1, keysOf_at q2 e2]
      rfl
    · cases h
/-- what x holds at y, if x is a dict -/
def look (M : Mem) (x y : D) : Option (Option D) := match asK M x with
  | some kvs => match keyOf y with
    | some k => some (valD kvs k)
    | none => none
  | none => match asTt M x with
    | some kvs => match y with
      | .tup ds => match keysOf ds with
        | some k => some (valD kvs k)
        | none => none
      | _ => none
    | none => none
def isDict (M : Mem) (x : D) : Bool := (asK M x).isSome || (asTt M x).isSome
theorem look_at {x y : D} {v u : V} {o : Option D} (r : Rep c G H M) (qx : DV c G x v) (qy : DV c G y u) (h : look M x y = some o) :
    ∃ a ov, v = .ref a ∧ DGet H a u ov ∧ ORel c G o ov := by
  unfold look at h
  cases ek : asK M x with
  | some kvs =>
    rw [ek] at h
    simp only at h
    cases e1 : keyOf y with
    | none => rw [e1] at h; cases h
    | some k =>
      rw [e1] at h
      cases h
      obtain ⟨a, ws, rfl, rd, t⟩ := asK_at r qx ek
      have kv := kr_val t.pr k
      exact ⟨a, valV ws k, rfl, .inl ⟨ws, k, rd, keyOf_at qy e1, rfl⟩, kv⟩
  | none =>
    rw [ek] at h
    simp only at h
    cases et : asTt M x with
    | none => rw [et] at h; cases h
    | some kvs =>
      rw [et] at h
      simp only at h
      cases y with
      | tup ds =>
        simp only at h
        cases e1 : keysOf ds with
        | none => rw [e1] at h; cases h
        | some k =>
          rw [e1] at h
          cases h
          obtain ⟨a, ws, rfl, rd, t⟩ := asTt_at r qx et
          obtain ⟨b, us, rfl, fb, q2⟩ := qy
          have kv := kr_val t.pr k
          exact ⟨a, valV ws k, rfl, .inr ⟨ws, k, b, rd, rfl, by rw [← keysOf_at q2 e1]; exact r.fz.tup fb, rfl⟩, kv⟩
      | _ => cases h
end
theorem ORel.some_of {c : Cn} {G : Gd} {d : D} {ov : Option V} (h : ORel c G (some d) ov) : ∃ w, ov = some w ∧ DV c G d w := by
  cases ov with
  | some w => exact ⟨w, rfl, h⟩
  | none => exact h.elim
theorem ORel.none_of {c : Cn} {G : Gd} {ov : Option V} (h : ORel c G none ov) : ov = none := by
  cases ov with
  | some w => exact h.elim
  | none => rfl
/-- d[k] -/
def fDIx (x y : D) (M : Mem) : Res D := match look M x y with
  | some (some d) => .ok d M
  | _ => .bad
def fIn (x y : D) (M : Mem) : Res D := match look M y x with
  | some o => .ok (.bl o.isSome) M
  | _ => .bad
def fNotIn (x y : D) (M : Mem) : Res D := match look M y x with
  | some o => .ok (.bl (!o.isSome)) M
  | _ => .bad
section
variable {X : Cx} {W : WX} {pos : Pos} {o i : Expr} {fo fi : EF}
theorem PE.or {e : Expr} {t t' : TE} (h : PE X e t) (h' : PE X e t') : PE X e (fun σ H Q => t σ H Q ∨ t' σ H Q) := ⟨fun pins s σ H Q I z => z.elim (h.run pins s σ H Q I) (h'.run pins s σ H Q I)⟩
theorem PT.or {e : Expr} {t t' : TT} (h : PT X e t) (h' : PT X e t') : PT X e (fun σ H Q => t σ H Q ∨ t' σ H Q) := ⟨fun pins s σ H Q I z => z.elim (h.run pins s σ H Q I) (h'.run pins s σ H Q I)⟩
theorem qdix (hu : X.A.units + 1 < cLine) (ho : QE X W o fo) (hi : QE X W i fi) (hs : NoSl i := by exact fun _ _ => rfl) : QE X W (.Subscript o i pos) (e2 fDIx fo fi) := PE.imp (pe_dget hu ho hi hs) fun σ H Q h => by
  refine Up.imp (Up.bind h) fun v H1 ⟨G, S, d, M, r1, s, q, p⟩ => ?_
  refine ⟨G, S, M, r1, s, (Post.bind (rel := DV (cn X)) p).imp fun u H2 ⟨G2, d2, M2, g2, r2, q2, p2⟩ => ?_⟩
  unfold fDIx at p2
  split at p2
  · rename_i d3 el
    obtain ⟨a, ov, rfl, dg, ho⟩ := look_at r2 (q.mono g2) q2 el
    obtain ⟨w, rfl, qw⟩ := ho.some_of
    exact ⟨a, w, rfl, dg, p2 G2 w H2 (Gr.refl _) r2 qw⟩
  · exact p2.elim
theorem up_din {f : D → D → Mem → Res D} {c : Cn} {σ : St} {H : Hp} {Q : VK} {g : Bool → Bool} (hf : ∀ x y M, f x y M = match look M y x with | some o => .ok (.bl (g o.isSome)) M | none => .bad) (h : Up c W (DV c) (e2 f fi fo) σ H Q) :
    Up c W (DV c) fi σ H fun y H1 => Up c W (DV c) fo σ H1 fun x H2 => ∃ a o, x = .ref a ∧ DGet H2 a y o ∧ Q (.bl (g o.isSome)) H2 := by
  refine Up.imp (Up.bind h) fun v H1 ⟨G, S, d, M, r1, s, q, p⟩ => ?_
  refine ⟨G, S, M, r1, s, (Post.bind (rel := DV c) p).imp fun u H2 ⟨G2, d2, M2, g2, r2, q2, p2⟩ => ?_⟩
  rw [hf] at p2
  split at p2
  · rename_i o3 el
    obtain ⟨a, ov, rfl, dg, ho⟩ := look_at r2 q2 (q.mono g2) el
    refine ⟨a, ov, rfl, dg, p2 G2 _ H2 (Gr.refl _) r2 ?_⟩
    cases o3 with
    | some d3 => obtain ⟨w, rfl, _⟩ := ho.some_of; exact rfl
    | none => cases ho.none_of; exact rfl
  · exact p2.elim
theorem qdin (hu : X.A.units + 1 < cLine) (hi : QE X W i fi) (ho : QE X W o fo) (hm : behindInMarks .In o = false := by rfl) : QE X W (.Compare i [.In] [o] pos) (e2 fIn fi fo) := PE.imp (pe_cmp (pc_din hu hi ho) hm) fun σ H Q h => up_din (f := fIn) (g := id) (fun x y M => by (first | unfold fIn | unfold fNotIn); cases look M y x <;> rfl) h
theorem qdnotin (hu : X.A.units + 1 < cLine) (hi : QE X W i fi) (ho : QE X W o fo) (hm : behindInMarks .NotIn o = false := by rfl) : QE X W (.Compare i [.NotIn] [o] pos) (e2 fNotIn fi fo) := PE.imp (pe_cmp (pc_dnotin hu hi ho) hm) fun σ H Q h => up_din (f := fNotIn) (g := fun b => !b) (fun x y M => by (first | unfold fIn | unfold fNotIn); cases look M y x <;> rfl) h
theorem tdin (hu : X.A.units + 1 < cLine) (hi : QE X W i fi) (ho : QE X W o fo) (hm : behindInMarks .In o = false := by rfl) : QT X W (.Compare i [.In] [o] pos) (bV (e2 fIn fi fo)) := PT.imp (pt_cmp (pc_din hu hi ho) hm) fun σ H Q h => by
  have h2 := Up.bind (rel := DV (cn X)) h
  refine up_din (Q := fun x H1 => ∃ c, x = .bl c ∧ Q c H1) (f := fIn) (g := id) (fun x y M => by (first | unfold fIn | unfold fNotIn); cases look M y x <;> rfl) (Up.imp h2 fun v H1 ⟨G, S, d, M, r1, s, q, p⟩ => ?_)
  split at p
  · cases (show v = _ from q)
    exact ⟨_, rfl, p G _ H1 (Gr.refl _) r1 rfl⟩
  · exact p.elim
theorem tdnotin (hu : X.A.units + 1 < cLine) (hi : QE X W i fi) (ho : QE X W o fo) (hm : behindInMarks .NotIn o = false := by rfl) : QT X W (.Compare i [.NotIn] [o] pos) (bV (e2 fNotIn fi fo)) := PT.imp (pt_cmp (pc_dnotin hu hi ho) hm) fun σ H Q h => by
  have h2 := Up.bind (rel := DV (cn X)) h
  refine up_din (Q := fun x H1 => ∃ c, x = .bl c ∧ Q c H1) (f := fNotIn) (g := fun b => !b) (fun x y M => by (first | unfold fIn | unfold fNotIn); cases look M y x <;> rfl) (Up.imp h2 fun v H1 ⟨G, S, d, M, r1, s, q, p⟩ => ?_)
  split at p
  · cases (show v = _ from q)
    exact ⟨_, rfl, p G _ H1 (Gr.refl _) r1 rfl⟩
  · exact p.elim
/-- d.get(k, x) -/
def eGet2 (o i x : EF) : EF := fun S M => (o S M).bind fun d M1 => if isDict M1 d = true then (i S M1).bind fun y M2 => (x S M2).bind fun z M3 => match look M3 d y with
    | some (some w) => .ok w M3
    | some none => .ok z M3
    | none => .bad
  else .bad
theorem isDict_at {c : Cn} {G : Gd} {H : Hp} {M : Mem} {d : D} {v : V} (r : Rep c G H M) (q : DV c G d v) (h : isDict M d = true) : ∃ a, v = .ref a ∧ IsD H a := by
  unfold isDict at h
  cases ek : asK M d with
  | some kvs =>
    obtain ⟨a, ws, rfl, rd, _⟩ := asK_at r q ek
    exact ⟨a, rfl, .inl ⟨ws, rd⟩⟩
  | none =>
    cases et : asTt M d with
    | some kvs =>
      obtain ⟨a, ws, rfl, rd, _⟩ := asTt_at r q et
      exact ⟨a, rfl, .inr ⟨ws, rd⟩⟩
    | none => rw [ek, et] at h; cases h
theorem qget2 {x : Expr} {fx : EF} {apos : Pos} (hu : X.A.units + 1 < cLine) (ho : QE X W o fo) (hi : QE X W i fi) (hx : QE X W x fx) (m : M2 X o "get" apos i x pos := by exact ⟨rfl, rfl, rfl, rfl⟩) : QE X W (.Call (.Attribute o "get" apos) [i, x] [] pos) (eGet2 fo fi fx) := PE.imp (pe_dget2 hu ho hi hx m) fun σ H Q h => by
  refine Up.imp (Up.bind h) fun v H1 ⟨G, S, d, M, r1, s, q, p⟩ => ?_
  split at p
  · rename_i hd
    obtain ⟨a, rfl, di⟩ := isDict_at r1 q hd
    refine ⟨a, rfl, di, G, S, M, r1, s, (Post.bind (rel := DV (cn X)) p).imp fun u H2 ⟨G2, d2, M2, g2, r2, q2, p2⟩ => ?_⟩
    refine ⟨G2, S, M2, r2, s.mono g2, (Post.bind (rel := DV (cn X)) p2).imp fun z H3 ⟨G3, d3, M3, g3, r3, q3, p3⟩ => ?_⟩
    split at p3
    · rename_i w el
      obtain ⟨a', ov, e, dg, ho⟩ := look_at r3 ((q.mono g2).mono g3) (q2.mono g3) el
      obtain ⟨w', rfl, qw⟩ := ho.some_of
      cases e
      exact ⟨some w', dg, p3 G3 _ H3 (Gr.refl _) r3 qw⟩
    · rename_i el
      obtain ⟨a', ov, e, dg, ho⟩ := look_at r3 ((q.mono g2).mono g3) (q2.mono g3) el
      cases ho.none_of
      cases e
      exact ⟨none, dg, p3 G3 _ H3 (Gr.refl _) r3 q3⟩
    · exact p3.elim
  · exact p.elim
/-- {} -/
def eDnewK : EF := fun _ M => .ok (.dK []) M
def eDnewT : EF := fun _ M => .ok (.dT []) M
def eDnewKP : EF := fun _ M => .ok (.ptr M.length) (M ++ [.dK []])
def eDnewTP : EF := fun _ M => .ok (.ptr M.length) (M ++ [.dT []])
theorem qdnewK : QE X W (.Dict [] [] pos) eDnewK := PE.imp (pe_lkO pe_dnewK) fun σ H Q h => by
  obtain ⟨G, S, M, r, s, p⟩ := h
  intro a ha
  refine .inr ⟨a, _, upd_same, trivial, fun od => ?_⟩
  rw [upd_upd]
  exact p _ _ _ (Gr.newF (r.fz.free ha)) (r.newF ha) ⟨a, [], od, rfl, upd_same, rfl⟩
theorem qdnewT : QE X W (.Dict [] [] pos) eDnewT := PE.imp (pe_lkO pe_dnewT) fun σ H Q h => by
  obtain ⟨G, S, M, r, s, p⟩ := h
  intro a ha
  refine .inr ⟨a, _, upd_same, trivial, fun od => ?_⟩
  rw [upd_upd]
  exact p _ _ _ (Gr.newF (r.fz.free ha)) (r.newF ha) ⟨a, [], od, rfl, upd_same, rfl⟩
theorem ptr_new {G : Gd} {c : Cn} {H : Hp} {M : Mem} {a : Addr} (r : Rep c G H M) : DV c { G with θ := G.θ ++ [a] } (.ptr M.length) (.ref a) := by
  refine ⟨a, ?_, rfl⟩
  show (G.θ ++ [a])[M.length]? = some a
  rw [← r.len, List.getElem?_append_right (Nat.le_refl _), Nat.sub_self]
  rfl
theorem qdnewKP : QE X W (.Dict [] [] pos) eDnewKP := PE.imp pe_dnewK fun σ H Q h => by
  obtain ⟨G, S, M, r, s, p⟩ := h
  intro a ha
  exact p _ _ _ (Gr.newP a) (r.newP ha (mo := .dK []) ⟨[], upd_same, rfl⟩) (ptr_new r)
theorem qdnewTP : QE X W (.Dict [] [] pos) eDnewTP := PE.imp pe_dnewT fun σ H Q h => by
  obtain ⟨G, S, M, r, s, p⟩ := h
  intro a ha
  exact p _ _ _ (Gr.newP a) (r.newP ha (mo := .dT []) ⟨[], upd_same, rfl⟩) (ptr_new r)
/-- d[k] = v -/
def dput (k : Nat) (y v : D) (M : Mem) : Option Mem := match M[k]? with
  | some (.dK kvs) => match keyOf y with
    | some key => if kvs.length < sizeLine then some (M.set k (.dK (putKD kvs key v))) else none
    | none => none
  | some (.dT kvs) => match y with
    | .tup ds => match keysOf ds with
      | some key => if kvs.length < sizeLine then some (M.set k (.dT (putKD kvs key v))) else none
      | none => none
    | _ => none
  | _ => none
theorem dput_at {c : Cn} {G : Gd} {H : Hp} {M M' : Mem} {k : Nat} {y v : D} {x u w : V} (r : Rep c G H M) (qx : DV c G (.ptr k) x) (qy : DV c G y u) (qv : DV c G v w) (h : dput k y v M = some M') :
    ∃ a H', x = .ref a ∧ DPut H a u w H' ∧ Rep c G H' M' := by
  obtain ⟨a, e1, rfl⟩ := qx
  unfold dput at h
  split at h
  · rename_i kvs em
    split at h
    · rename_i key ek
      split at h
      · rename_i hl
        cases h
        obtain ⟨ws, hu, t⟩ := r.mem k _ a em e1
        have t2 := kr_put t.pr key qv
        refine ⟨a, _, rfl, .inl ⟨ws, key, hu, keyOf_at qy ek, by rw [kr_len t.pr]; exact hl, rfl⟩, r.write em e1 rfl ⟨_, upd_same, DVk.of t2⟩⟩
      · cases h
    · cases h
  · rename_i kvs em
    split at h
    · rename_i ds
      split at h
      · rename_i key ek
        split at h
        · rename_i hl
          cases h
          obtain ⟨ws, hu, t⟩ := r.mem k _ a em e1
          obtain ⟨b, us, rfl, fb, q2⟩ := qy
          have t2 := kr_put t.pr key qv
          refine ⟨a, _, rfl, .inr ⟨ws, key, b, hu, rfl, by rw [← keysOf_at q2 ek]; exact r.fz.tup fb, by rw [kr_len t.pr]; exact hl, rfl⟩, r.write em e1 rfl ⟨_, upd_same, DVt.of t2⟩⟩
        · cases h
      · cases h
    · cases h
  · cases h
def kDPut (o i v : EF) : TF := fun S M => (v S M).thn S fun dv M1 => (o S M1).thn S fun d M2 => (i S M2).thn S fun y M3 => match d with
  | .ptr k => match dput k y dv M3 with
    | some M4 => .nx S M4
    | none => .bad
  | _ => .bad
theorem qdput {v : Expr} {fv : EF} {pos' : Pos} (hu : X.A.units + 1 < cLine) (ho : QE X W o fo) (hi : QE X W i fi) (hv : QE X W v fv) (hs : swapsWith v (some (.Subscript o i pos')) pos.line X.env = pure false := by rfl) :
    QS X W (.Assign [.Subscript o i pos'] v pos) (kDPut fo fi fv) := PS.imp (ps_dput hu ho hi hv hs) fun D σ H h => by
  refine Up.imp (UpS.thn h) fun y H1 ⟨G, S, dy, M, r, s, q, p⟩ => ?_
  refine ⟨G, S, M, r, s, (PostS.thnE (rel := DV (cn X)) s p).imp fun x H2 ⟨G2, d, M2, g2, r2, q2, p2⟩ => ?_⟩
  refine ⟨G2, S, M2, r2, s.mono g2, (PostS.thnE (rel := DV (cn X)) (s.mono g2) p2).imp fun z H3 ⟨G3, d3, M3, g3, r3, q3, p3⟩ => ?_⟩
  split at p3
  · rename_i k
    split at p3
    · rename_i M4 ed
      obtain ⟨a, H', rfl, dp, r4⟩ := dput_at r3 (q2.mono g3) q3 ((q.mono g2).mono g3) ed
      exact ⟨a, H', rfl, dp, p3 G3 σ H' (Gr.refl _) r4 ((s.mono g2).mono g3)⟩
    · exact p3.elim
  · exact p3.elim
/-- d[k] += e, -= e, on ints -/
def kDAug (o i v : EF) (op : Int → Int → Int) : TF := fun S M => (o S M).thn S fun d M1 => (i S M1).thn S fun y M2 => match d with
  | .ptr k => match look M2 d y with
    | some (some (.int a)) => (v S M2).thn S fun w M3 => match w with
      | .int b => match dput k y (.int (op a b)) M3 with
        | some M4 => .nx S M4
        | none => .bad
      | _ => .bad
    | _ => .bad
  | _ => .bad
def rIp (op : Int → Int → Int) : V → V → Hp → VK → Prop := fun x y H Q => ∃ i j, x = .int i ∧ y = .int j ∧ Q (.int (op i j)) H
theorem qdaug {v : Expr} {fv : EF} {op : Operator} {f : Int → Int → Int} {tpos : Pos} (hu : X.A.units + 1 < cLine) (ho : QE X W o fo) (hi : QE X W i fi) (hv : QE X W v fv) (hop : InOp X op (rIp f))
    (ha : ∀ ov iv new, augStore i ov iv new = (do holding [new, ov, iv] (setItem ov iv new); release [new, ov, iv] []; pure .next) := by intros; rfl) : QS X W (.AugAssign (.Subscript o i tpos) op v pos) (kDAug fo fi fv f) := PS.imp (ps_daug hu ho hi hv hop ha) fun D σ H h => by
  refine Up.imp (UpS.thn h) fun x H1 ⟨G, S, d, M, r, s, q, p⟩ => ?_
  refine ⟨G, S, M, r, s, (PostS.thnE (rel := DV (cn X)) s p).imp fun y H2 ⟨G2, d2, M2, g2, r2, q2, p2⟩ => ?_⟩
  split at p2
  · rename_i k
    split at p2
    · rename_i n el
      obtain ⟨a, ov, rfl, dg, ho⟩ := look_at r2 (q.mono g2) q2 el
      obtain ⟨w, rfl, qw⟩ := ho.some_of
      cases (show w = _ from qw)
      refine ⟨a, _, rfl, dg, G2, S, M2, r2, s.mono g2, (PostS.thnE (rel := DV (cn X)) (s.mono g2) p2).imp fun z H3 ⟨G3, d3, M3, g3, r3, q3, p3⟩ => ?_⟩
      split at p3
      · rename_i m
        split at p3
        · rename_i M4 ed
          cases (show z = _ from q3)
          obtain ⟨a', H', e, dp, r4⟩ := dput_at (v := .int (f n m)) (w := .int (f n m)) r3 ((q.mono g2).mono g3) (q2.mono g3) rfl ed
          cases e
          exact ⟨n, m, rfl, rfl, H', dp, p3 G3 σ H' (Gr.refl _) r4 ((s.mono g2).mono g3)⟩
        · exact p3.elim
      · exact p3.elim
    · exact p2.elim
  · exact p2.elim
theorem qdadd {v : Expr} {fv : EF} {tpos : Pos} (hu : X.A.units + 1 < cLine) (ho : QE X W o fo) (hi : QE X W i fi) (hv : QE X W v fv) (ha : ∀ ov iv new, augStore i ov iv new = (do holding [new, ov, iv] (setItem ov iv new); release [new, ov, iv] []; pure .next) := by intros; rfl) :
    QS X W (.AugAssign (.Subscript o i tpos) .Add v pos) (kDAug fo fi fv fun a b => a + b) := qdaug hu ho hi hv in_add ha
theorem qdsub {v : Expr} {fv : EF} {tpos : Pos} (hu : X.A.units + 1 < cLine) (ho : QE X W o fo) (hi : QE X W i fi) (hv : QE X W v fv) (ha : ∀ ov iv new, augStore i ov iv new = (do holding [new, ov, iv] (setItem ov iv new); release [new, ov, iv] []; pure .next) := by intros; rfl) :
    QS X W (.AugAssign (.Subscript o i tpos) .Sub v pos) (kDAug fo fi fv fun a b => a - b) := qdaug hu ho hi hv in_sub ha
end
end QL
end
section
set_option Elab.async false
set_option linter.all false
set_option maxRecDepth 100000
set_option maxHeartbeats 4000000
set_option autoImplicit false
/-! QMore: subscripts, slices, in, isinstance, built-ins, methods. -/
namespace QL
open PySem PySem.Spec L2
open Classical

/-! ### a[i] -/
def fIx (x y : D) (M : Mem) : Res D := match x with
  | .tup ds => match y with
    | .int i => match atI ds i with
      | some d => .ok d M
      | none => .bad
    | _ => .bad
  | .str z => match y with
    | .int i => if z.length ≤ sizeLine then match atI z.cps.toList i with
        | some c => .ok (.str ⟨#[c]⟩) M
        | none => .bad
      else .bad
    | _ => .bad
  | x => match asL M x with
    | some ds => match y with
      | .int i => match atI ds i with
        | some d => .ok d M
        | none => .bad
      | _ => .bad
    | none => .bad
section
variable {c : Cn} {G : Gd}
theorem DVs.atI {ds : List D} {vs : List V} {i : Int} {d : D} (q : DVs c G ds vs) (h : L2.atI ds i = some d) : ∃ v, L2.atI vs i = some v ∧ DV c G d v := by
  unfold L2.atI at h ⊢
  rw [q.length]
  cases e : ixN ds.length i with
  | none => rw [e] at h; cases h
  | some j =>
    rw [e] at h
    obtain ⟨v, e1, q1⟩ := q.get (show ds[j]? = some d from h)
    exact ⟨v, e1, q1⟩
theorem r2_ix : R2s c fIx (rIx c.K) := by
  intro W σ G H M x y dx dy Q r qx qy p
  unfold fIx at p
  split at p
  · rename_i ds
    split at p
    · rename_i i
      split at p
      · rename_i d hd
        obtain ⟨a, vs, rfl, s, t⟩ := qx
        obtain ⟨v, ev, qv⟩ := t.atI hd
        exact .inr (.inl ⟨a, vs, i, v, rfl, qy, .inl (.inl (r.fz.tup s)), ev, p G _ H (Gr.refl _) r qv⟩)
      · exact p.elim
    · exact p.elim
  · rename_i z
    split at p
    · rename_i i
      split at p
      · rename_i hz
        split at p
        · rename_i ch hc
          exact .inr (.inr ⟨z, i, ch, qx, qy, hz, hc, p G _ H (Gr.refl _) r rfl⟩)
        · exact p.elim
      · exact p.elim
    · exact p.elim
  · split at p
    · rename_i ds hds
      split at p
      · rename_i i
        split at p
        · rename_i d hd
          obtain ⟨a, vs, rfl, s, t⟩ := asL_at r qx hds
          obtain ⟨v, ev, qv⟩ := t.atI hd
          exact .inl ⟨a, vs, i, v, rfl, qy, s, ev, p G _ H (Gr.refl _) r qv⟩
        · exact p.elim
      · exact p.elim
    · exact p.elim
end
section
variable {X : Cx} {W : WX} {pos p2 : Pos} {o i a b : Expr} {lo hi : Option Expr} {fo fi fa fb : EF}
theorem qix (ha : QE X W a fa) (hb : QE X W b fb) (hs : PlainIx b := by exact fun _ _ => rfl) : QE X W (.Subscript a b pos) (e2 fIx fa fb) := q_ix ix_seq r2_ix ha hb hs

/-! ### slices -/
abbrev OF := Sl → Mem → Res (Option Int)
def relO : Gd → Option Int → Option Int → Prop := fun _ a b => a = b
def QO (X : Cx) (W : WX) (e : Option Expr) (f : OF) : Prop := PO X e (Up (cn X) W relO f)
theorem PO.imp {e : Option Expr} {t t' : TO} (h : PO X e t) (k : ∀ σ H Q, t' σ H Q → t σ H Q) : PO X e t' := ⟨fun pins s σ H Q I z => h.run pins s σ H Q I (k σ H Q z)⟩
def oNone : OF := fun _ M => .ok none M
def oSome (e : EF) : OF := fun S M => (e S M).bind fun d M1 => match d with
  | .int i => .ok (some i) M1
  | _ => .bad
theorem qo_none : QO X W none oNone := PO.imp po_none fun σ H Q h => by
  obtain ⟨G, S, M, r, s, p⟩ := h
  exact p G none H (Gr.refl G) r rfl
theorem qo_some (h : QE X W a fa) : QO X W (some a) (oSome fa) := PO.imp (po_some h) fun σ H Q h => by
  refine Up.imp (Up.bind h) fun v H1 ⟨G, S, d, M, r1, s, q, p⟩ => ?_
  split at p
  · exact ⟨_, q, p G _ H1 (Gr.refl _) r1 rfl⟩
  · exact p.elim
def cutD (xs : List D) (lo hi : Option Int) : List D := (xs.drop (HT.sIx xs.length 0 lo)).take (HT.sIx xs.length xs.length hi - HT.sIx xs.length 0 lo)
theorem DVs.cut {c : Cn} {G : Gd} {ds : List D} {vs : List V} (q : DVs c G ds vs) (lo hi : Option Int) : DVs c G (cutD ds lo hi) (cutV vs lo hi) := by
  unfold cutD cutV
  rw [q.length]
  exact (q.drop _).take _
def fSl (x : D) (lo hi : Option Int) (M : Mem) : Res D := match x with
  | .str z => if z.length ≤ sizeLine then .ok (.str (cutS z lo hi)) M else .bad
  | .tup ds => if HT.sIx ds.length 0 lo = 0 ∧ HT.sIx ds.length ds.length hi = ds.length then .bad else .ok (.tup (cutD ds lo hi)) M
  | x => match asL M x with
    | some ds => .ok (.lst (cutD ds lo hi)) M
    | none => .bad
def eSl (e : EF) (l h : OF) : EF := fun S M => (e S M).bind fun d M1 => (l S M1).bind fun lo M2 => (h S M2).bind fun hi M3 => fSl d lo hi M3
theorem qsl {fl fh : OF} (he : QE X W a fa) (hl : QO X W lo fl) (hu : QO X W hi fh) : QE X W (.Subscript a (.Slice lo hi none p2) pos) (eSl fa fl fh) :=
  PE.imp (pe_slice (sl_list.or (sl_str.or sl_tup)) he hl hu) fun σ H Q h => by
  refine Up.imp (Up.bind h) fun v H1 ⟨G, S, d, M, r1, s, q, p⟩ => ?_
  refine ⟨G, S, M, r1, s, (Post.bind (rel := relO) p).imp fun l H2 ⟨G2, l2, M2, g2, r2, e2, p2⟩ => ?_⟩
  refine ⟨G2, S, M2, r2, s.mono g2, (Post.bind (rel := relO) p2).imp fun u H3 ⟨G3, u3, M3, g3, r3, e3, p3⟩ => ?_⟩
  cases e2
  cases e3
  have q3 := (q.mono g2).mono g3
  unfold fSl at p3
  split at p3
  · split at p3
    · rename_i hz
      exact .inr (.inl ⟨_, q3, hz, p3 G3 _ H3 (Gr.refl _) r3 rfl⟩)
    · exact p3.elim
  · split at p3
    · exact p3.elim
    · rename_i hw
      obtain ⟨a, vs, rfl, s, t⟩ := q3
      refine .inr (.inr ⟨a, vs, rfl, .inl (.inl (r3.fz.tup s)), by rw [t.length]; exact hw, fun p' hp => ?_⟩)
      have g := Gr.newF (G := G3) (o := .tup (cutV vs l u)) (r3.fz.free hp)
      exact p3 _ _ _ g (r3.newF hp) ⟨p', _, rfl, upd_same, (t.cut l u).mono g⟩
  · split at p3
    · rename_i ds hds
      obtain ⟨a, vs, rfl, s, t⟩ := asL_at r3 q3 hds
      refine .inl ⟨a, vs, rfl, s, fun p' hp => ?_⟩
      have g := Gr.newF (G := G3) (o := .lst (cutV vs l u)) (r3.fz.free hp)
      exact p3 _ _ _ g (r3.newF hp) ⟨p', _, rfl, .inl (.inl upd_same), (t.cut l u).mono g⟩
    · exact p3.elim

/-! ### in, not in: a sign in a text, an item in a list or a tuple -/
def flatD : D → Bool
  | .non => true
  | .bl _ => true
  | .int _ => true
  | .str _ => true
  | _ => false
def toV : D → V
  | .non => .non
  | .bl b => .bl b
  | .int i => .int i
  | .str x => .str x
  | _ => .non
theorem flat_at {c : Cn} {G : Gd} {d : D} {v : V} (h : flatD d = true) (q : DV c G d v) : v = toV d ∧ flatV v = true := by
  cases d with
  | non => cases (show v = _ from q); exact ⟨rfl, rfl⟩
  | bl b => cases (show v = _ from q); exact ⟨rfl, rfl⟩
  | int b => cases (show v = _ from q); exact ⟨rfl, rfl⟩
  | str b => cases (show v = _ from q); exact ⟨rfl, rfl⟩
  | _ => cases h
theorem flats_at {c : Cn} {G : Gd} : ∀ {ds : List D} {vs : List V}, ds.all flatD = true → DVs c G ds vs → vs = ds.map toV ∧ vs.all flatV = true
  | [], _, _, q => by rw [show _ = ([] : List V) from q]; exact ⟨rfl, rfl⟩
  | d :: r, _, h, q => by
    obtain ⟨v, t, rfl, q1, q2⟩ := q
    rw [List.all_cons, Bool.and_eq_true] at h
    obtain ⟨e1, f1⟩ := flat_at h.1 q1
    obtain ⟨e2, f2⟩ := flats_at h.2 q2
    exact ⟨by rw [e1, e2]; rfl, by rw [List.all_cons, f1, f2]; rfl⟩
/-- Python's == of flat things -/
def eqFlat (a b : D) : Bool := eqV (toV a) (toV b)
def memD (x : D) (ds : List D) : Bool := ds.any fun y => eqFlat y x
theorem memD_V (x : D) (ds : List D) : inV (toV x) (ds.map toV) = memD x ds := by
  unfold inV memD eqFlat
  rw [List.any_map]
  rfl
def seqOf (M : Mem) : D → Option (List D)
  | .tup ds => some ds
  | d => asL M d
theorem seqOf_at {c : Cn} {G : Gd} {H : Hp} {M : Mem} {d : D} {v : V} {ds : List D} (r : Rep c G H M) (q : DV c G d v) (h : seqOf M d = some ds) : ∃ a vs, v = .ref a ∧ (SqL c.K H a vs ∨ SqT c.K H a vs) ∧ DVs c G ds vs := by
  unfold seqOf at h
  split at h
  · cases h
    obtain ⟨a, vs, rfl, s, t⟩ := q
    exact ⟨a, vs, rfl, .inr (.inl (.inl (r.fz.tup s))), t⟩
  · obtain ⟨a, vs, rfl, s, t⟩ := asL_at r q h
    exact ⟨a, vs, rfl, .inl s, t⟩
def fInG (neg : Bool) (x y : D) (M : Mem) : Res D := match y with
  | .str z => match x with
    | .str w => .ok (.bl (neg ^^ !(Builtin.Str.occurrences z w 0 z.length 1).isEmpty)) M
    | _ => .bad
  | y => match seqOf M y with
    | some ds => if flatD x = true ∧ ds.all flatD = true then .ok (.bl (neg ^^ memD x ds)) M else .bad
    | none => .bad
theorem r2_in {c : Cn} : R2s c (fInG false) (fun x y H Q => rIn c.K false x y H Q ∨ (∃ i j, x = .str i ∧ y = .str j ∧ Q (.bl (!(Builtin.Str.occurrences j i 0 j.length 1).isEmpty)) H)) := by
  intro W σ G H M x y dx dy Q r qx qy p
  unfold fInG at p
  split at p
  · split at p
    · exact .inr ⟨_, _, qx, qy, by simpa using p G _ H (Gr.refl _) r rfl⟩
    · exact p.elim
  · split at p
    · rename_i ds hds
      split at p
      · rename_i hf
        obtain ⟨a, vs, rfl, s, t⟩ := seqOf_at r qy hds
        obtain ⟨e1, f1⟩ := flat_at hf.1 qx
        obtain ⟨e2, f2⟩ := flats_at hf.2 t
        refine .inl ⟨a, vs, rfl, s, f1, f2, ?_⟩
        rw [if_neg Bool.false_ne_true, e1, e2, memD_V]
        exact p G _ H (Gr.refl _) r (by simp; rfl)
      · exact p.elim
    · exact p.elim
theorem r2_notin {c : Cn} : R2s c (fInG true) (fun x y H Q => rIn c.K true x y H Q ∨ (∃ i j, x = .str i ∧ y = .str j ∧ Q (.bl (!(!(Builtin.Str.occurrences j i 0 j.length 1).isEmpty))) H)) := by
  intro W σ G H M x y dx dy Q r qx qy p
  unfold fInG at p
  split at p
  · split at p
    · exact .inr ⟨_, _, qx, qy, by simpa using p G _ H (Gr.refl _) r rfl⟩
    · exact p.elim
  · split at p
    · rename_i ds hds
      split at p
      · rename_i hf
        obtain ⟨a, vs, rfl, s, t⟩ := seqOf_at r qy hds
        obtain ⟨e1, f1⟩ := flat_at hf.1 qx
        obtain ⟨e2, f2⟩ := flats_at hf.2 t
        refine .inl ⟨a, vs, rfl, s, f1, f2, ?_⟩
        rw [if_pos rfl, e1, e2, memD_V]
        exact p G _ H (Gr.refl _) r (by simp; rfl)
      · exact p.elim
    · exact p.elim
theorem qin (hm : behindInMarks .In b = false) (ha : QE X W a fa) (hb : QE X W b fb) : QE X W (.Compare a [.In] [b] pos) (e2 (fInG false) fa fb) := q_cmp (op_in_seq.or op_in_str) r2_in hm ha hb
theorem qnotin (hm : behindInMarks .NotIn b = false) (ha : QE X W a fa) (hb : QE X W b fb) : QE X W (.Compare a [.NotIn] [b] pos) (e2 (fInG true) fa fb) := q_cmp (op_notIn_seq.or op_notin_str) r2_notin hm ha hb
theorem tin (hm : behindInMarks .In b = false) (ha : QE X W a fa) (hb : QE X W b fb) : QT X W (.Compare a [.In] [b] pos) (bV (e2 (fInG false) fa fb)) := qt_cmp (op_in_seq.or op_in_str) r2_in hm ha hb
theorem tnotin (hm : behindInMarks .NotIn b = false) (ha : QE X W a fa) (hb : QE X W b fb) : QT X W (.Compare a [.NotIn] [b] pos) (bV (e2 (fInG true) fa fb)) := qt_cmp (op_notIn_seq.or op_notin_str) r2_notin hm ha hb

/-! ### a op b op c -/
theorem up_chain {c : Cn} {f g : D → D → Mem → Res D} {r r' : R2} {fx fy fz : EF} {σ : St} {H : Hp} {Q : VK} (hr : R2s c f r) (hr' : R2s c g r') (h : Up c W (DV c) (e3 f g fx fy fz) σ H Q) : tChain r r' (Up c W (DV c) fx) (Up c W (DV c) fy) (Up c W (DV c) fz) σ H Q := by
  refine Up.imp (Up.bind h) fun v H1 ⟨G, S, d, M, r1, s, q, p⟩ => ?_
  refine ⟨G, S, M, r1, s, (Post.bind (rel := DV c) p).imp fun u H2 ⟨G2, d2, M2, g2, r2, q2, p2⟩ => ?_⟩
  refine hr W σ G2 H2 M2 v u d d2 _ r2 (q.mono g2) q2 ((Post.bind (rel := DV c) p2).imp fun z H3 ⟨G3, d3, M3, g3, r3, q3, p3⟩ => ?_)
  split at p3
  · cases (show z = _ from q3)
    refine ⟨true, rfl, ?_⟩
    rw [if_pos rfl]
    refine ⟨G3, S, M3, r3, (s.mono g2).mono g3, (Post.bind (rel := DV c) p3).imp fun w H4 ⟨G4, d4, M4, g4, r4, q4, p4⟩ => ?_⟩
    exact hr' W σ G4 H4 M4 u w d2 d4 Q r4 ((q2.mono g3).mono g4) q4 p4
  · cases (show z = _ from q3)
    refine ⟨false, rfl, ?_⟩
    rw [if_neg Bool.false_ne_true]
    exact p3 G3 _ H3 (Gr.refl _) r3 rfl
  · exact p3.elim
end
end QL
end
section
set_option Elab.async false
set_option linter.all false
set_option maxRecDepth 100000
set_option maxHeartbeats 4000000
set_option autoImplicit false
/-! QBlt: built-in functions and methods of built-in types. -/
namespace QL
open PySem PySem.Spec L2
open Classical

/-- a function on data does what r asks -/
def RCs (c : Cn) (f : List D → Mem → Res D) (r : List V → Hp → VK → Prop) : Prop := ∀ (W : WX) (σ : St) (G : Gd) (H : Hp) (M : Mem) (vs : List V) (ds : List D) (Q : VK), Rep c G H M → DVs c G ds vs → Post c W σ G (DV c) (f ds M) Q → r vs H Q
section
variable {X : Cx} {W : WX} {x : Str} {p pos apos : Pos} {e o : Expr} {es : List Expr} {a : AF} {f : List D → Mem → Res D} {r : List V → Hp → VK → Prop} {id T : String}
theorem up_cb {c : Cn} {σ : St} {H : Hp} {Q : VK} (hf : RCs c f r) (h : Up c W (DV c) (eCall f a) σ H Q) : tCB r (Up c W (DVs c) a) σ H Q := by
  refine Up.imp (Up.bind h) fun vs H1 ⟨G, S, ds, M, rp, s, q, p⟩ => ?_
  exact hf W σ G H1 M vs ds Q rp q p
theorem q_cb (hc : CallR X (.builtin id) r) (hf : RCs (cn X) f r) (hg : Gl X x) (hm : X.mg x = none) (ha : QA X W (e :: es) a) (hv : bootBuiltins x = some (.builtin id)) (hn : x ≠ "__name__" := by decide) (hdb : (x == ("__debug__" : Str)) = false := by decide)
    (he : starEach (e :: es) X.env = (false, eval e X.env) :: starEach es X.env := by rfl) (hpl : (backTo pos (starEach es X.env)).any (·.1) = false := by rfl) : QE X W (.Call (.Name x p) (e :: es) [] pos) (eCall f a) :=
  PE.imp (pe_callB hc hg hm hv ha hn hdb he hpl) fun _ _ _ h => up_cb hf h
theorem q_ct (hc : CallR X (.type T) r) (hf : RCs (cn X) f r) (hg : Gl X x) (hm : X.mg x = none) (ha : QA X W (e :: es) a) (hv : bootBuiltins x = some (.type T)) (hn : x ≠ "__name__" := by decide) (hdb : (x == ("__debug__" : Str)) = false := by decide)
    (he : starEach (e :: es) X.env = (false, eval e X.env) :: starEach es X.env := by rfl) (hpl : (backTo pos (starEach es X.env)).any (·.1) = false := by rfl) : QE X W (.Call (.Name x p) (e :: es) [] pos) (eCall f a) :=
  PE.imp (pe_callTy hc hg hm hv ha hn hdb he hpl) fun _ _ _ h => up_cb hf h
end
/-! ### len, abs, sum, all, any, min, max of two ints -/
def bLen (ds : List D) (M : Mem) : Res D := match ds with
  | [.str z] => if z.length ≤ sizeLine then .ok (.int z.length) M else .bad
  | [d] => match seqOf M d with
    | some xs => .ok (.int xs.length) M
    | none => .bad
  | _ => .bad
/-- len of a dict -/
def bLenD (ds : List D) (M : Mem) : Res D := match ds with
  | [d] => match asK M d with
    | some kvs => .ok (.int kvs.length) M
    | none => .bad
  | _ => .bad
def bAbs (ds : List D) (M : Mem) : Res D := match ds with
  | [.int i] => .ok (.int (if i < 0 then -i else i)) M
  | _ => .bad
def bSum (ds : List D) (M : Mem) : Res D := match ds with
  | [d] => match asL M d with
    | some xs => match intsOf xs with
      | some ns => .ok (.int ns.sum) M
      | none => .bad
    | none => .bad
  | _ => .bad
def bAll (ds : List D) (M : Mem) : Res D := match ds with
  | [d] => match asL M d with
    | some xs => match blsOf xs with
      | some ns => .ok (.bl (ns.all id)) M
      | none => .bad
    | none => .bad
  | _ => .bad
def bAny (ds : List D) (M : Mem) : Res D := match ds with
  | [d] => match asL M d with
    | some xs => match blsOf xs with
      | some ns => .ok (.bl (ns.any id)) M
      | none => .bad
    | none => .bad
  | _ => .bad
def bMin2 (ds : List D) (M : Mem) : Res D := match ds with
  | [.int i, .int j] => .ok (.int (if j < i then j else i)) M
  | _ => .bad
def bMax2 (ds : List D) (M : Mem) : Res D := match ds with
  | [.int i, .int j] => .ok (.int (if j > i then j else i)) M
  | _ => .bad
def bInt (ds : List D) (M : Mem) : Res D := match ds with
  | [.int i] => .ok (.int i) M
  | [.bl b] => .ok (.int (if b then 1 else 0)) M
  | _ => .bad
/-- list(..) of a list or a tuple: a new one -/
def bList (ds : List D) (M : Mem) : Res D := match ds with
  | [d] => match seqOf M d with
    | some xs => .ok (.lst xs) M
    | none => .bad
  | _ => .bad
def bListP (ds : List D) (M : Mem) : Res D := match ds with
  | [d] => match seqOf M d with
    | some xs => .ok (.ptr M.length) (M ++ [.lst xs])
    | none => .bad
  | _ => .bad
def bTuple (ds : List D) (M : Mem) : Res D := match ds with
  | [.tup xs] => .ok (.tup xs) M
  | [d] => match asL M d with
    | some xs => .ok (.tup xs) M
    | none => .bad
  | _ => .bad
section
variable {c : Cn}
theorem rc_len : RCs c bLen (fun xs H Q => (∃ z, xs = [.str z] ∧ z.length ≤ sizeLine ∧ Q (.int z.length) H) ∨ ∃ p ys, xs = [.ref p] ∧ (SqL c.K H p ys ∨ SqT c.K H p ys) ∧ Q (.int ys.length) H) := by
  intro W σ G H M vs ds Q r q p
  unfold bLen at p
  split at p
  · split at p
    · rename_i hz
      obtain ⟨v, t, rfl, q1, rfl⟩ := q
      cases (show v = _ from q1)
      exact .inl ⟨_, rfl, hz, p G _ H (Gr.refl _) r rfl⟩
    · exact p.elim
  · split at p
    · rename_i xs hx
      obtain ⟨v, t, rfl, q1, rfl⟩ := q
      obtain ⟨a, us, rfl, s, t⟩ := seqOf_at r q1 hx
      exact .inr ⟨a, us, rfl, s, p G _ H (Gr.refl _) r (by rw [t.length]; rfl)⟩
    · exact p.elim
  · exact p.elim
theorem rc_lenD : RCs c bLenD (fun xs H Q => ∃ p kvs, xs = [.ref p] ∧ Rd H p (.dK kvs) ∧ Q (.int kvs.length) H) := by
  intro W σ G H M vs ds Q r q p
  unfold bLenD at p
  split at p
  · split at p
    · rename_i xs hx
      obtain ⟨v, t, rfl, q1, rfl⟩ := q
      obtain ⟨a, us, rfl, s, t⟩ := asK_at r q1 hx
      exact ⟨a, us, rfl, s, p G _ H (Gr.refl _) r (by rw [kr_len t.pr]; rfl)⟩
    · exact p.elim
  · exact p.elim
theorem rc_abs : RCs c bAbs (fun xs H Q => ∃ i, xs = [.int i] ∧ Q (.int (if i < 0 then -i else i)) H) := by
  intro W σ G H M vs ds Q r q p
  unfold bAbs at p
  split at p
  · exact ⟨_, DVs.ints (ns := [_]) q, p G _ H (Gr.refl _) r rfl⟩
  · exact p.elim
theorem rc_sum : RCs c bSum (rSum c.K) := by
  intro W σ G H M vs ds Q r q p
  unfold bSum at p
  split at p
  · split at p
    · rename_i xs hx
      split at p
      · rename_i ns hn
        obtain ⟨v, t, rfl, q1, rfl⟩ := q
        obtain ⟨a, us, rfl, s, t⟩ := asL_at r q1 hx
        rw [intsOf_eq hn] at t
        rw [t.ints] at s
        exact ⟨a, ns, rfl, s, p G _ H (Gr.refl _) r rfl⟩
      · exact p.elim
    · exact p.elim
  · exact p.elim
theorem rc_all : RCs c bAll (rAll c.K) := by
  intro W σ G H M vs ds Q r q p
  unfold bAll at p
  split at p
  · split at p
    · rename_i xs hx
      split at p
      · rename_i ns hn
        obtain ⟨v, t, rfl, q1, rfl⟩ := q
        obtain ⟨a, us, rfl, s, t⟩ := asL_at r q1 hx
        rw [blsOf_eq hn] at t
        rw [t.bls] at s
        exact ⟨a, ns, rfl, s, p G _ H (Gr.refl _) r rfl⟩
      · exact p.elim
    · exact p.elim
  · exact p.elim
theorem rc_any : RCs c bAny (rAny c.K) := by
  intro W σ G H M vs ds Q r q p
  unfold bAny at p
  split at p
  · split at p
    · rename_i xs hx
      split at p
      · rename_i ns hn
        obtain ⟨v, t, rfl, q1, rfl⟩ := q
        obtain ⟨a, us, rfl, s, t⟩ := asL_at r q1 hx
        rw [blsOf_eq hn] at t
        rw [t.bls] at s
        exact ⟨a, ns, rfl, s, p G _ H (Gr.refl _) r rfl⟩
      · exact p.elim
    · exact p.elim
  · exact p.elim
theorem rc_min2 : RCs c bMin2 (fun xs H Q => ∃ i j, xs = [.int i, .int j] ∧ Q (.int (if j < i then j else i)) H) := by
  intro W σ G H M vs ds Q r q p
  unfold bMin2 at p
  split at p
  · exact ⟨_, _, DVs.ints (ns := [_, _]) q, p G _ H (Gr.refl _) r rfl⟩
  · exact p.elim
theorem rc_max2 : RCs c bMax2 (fun xs H Q => ∃ i j, xs = [.int i, .int j] ∧ Q (.int (if j > i then j else i)) H) := by
  intro W σ G H M vs ds Q r q p
  unfold bMax2 at p
  split at p
  · exact ⟨_, _, DVs.ints (ns := [_, _]) q, p G _ H (Gr.refl _) r rfl⟩
  · exact p.elim
theorem rc_int : RCs c bInt (fun xs H Q => (∃ i, xs = [.int i] ∧ Q (.int i) H) ∨ ∃ k, xs = [.bl k] ∧ Q (.int (if k then 1 else 0)) H) := by
  intro W σ G H M vs ds Q r q p
  unfold bInt at p
  split at p
  · exact .inl ⟨_, DVs.ints (ns := [_]) q, p G _ H (Gr.refl _) r rfl⟩
  · exact .inr ⟨_, DVs.bls (ns := [_]) q, p G _ H (Gr.refl _) r rfl⟩
  · exact p.elim
theorem rc_list : RCs c bList (fun xs H Q => ∃ p ys, xs = [.ref p] ∧ (SqL c.K H p ys ∨ SqT c.K H p ys) ∧ ∀ l, H l = none → Q (.ref l) (upd H l (.lst ys))) := by
  intro W σ G H M vs ds Q r q p
  unfold bList at p
  split at p
  · split at p
    · rename_i xs hx
      obtain ⟨v, t, rfl, q1, rfl⟩ := q
      obtain ⟨a, us, rfl, s, t⟩ := seqOf_at r q1 hx
      refine ⟨a, us, rfl, s, fun l hl => ?_⟩
      have g := Gr.newF (G := G) (o := .lst us) (r.fz.free hl)
      exact p _ _ _ g (r.newF hl) ⟨l, us, rfl, .inl (.inl upd_same), t.mono g⟩
    · exact p.elim
  · exact p.elim
theorem rc_listP : RCs c bListP (fun xs H Q => ∃ p ys, xs = [.ref p] ∧ (SqL c.K H p ys ∨ SqT c.K H p ys) ∧ ∀ l, H l = none → Q (.ref l) (upd H l (.lst ys))) := by
  intro W σ G H M vs ds Q r q p
  unfold bListP at p
  split at p
  · split at p
    · rename_i xs hx
      obtain ⟨v, t, rfl, q1, rfl⟩ := q
      obtain ⟨a, us, rfl, s, t⟩ := seqOf_at r q1 hx
      refine ⟨a, us, rfl, s, fun l hl => ?_⟩
      exact p _ _ _ (Gr.newP l) (r.newP hl (mo := .lst xs) ⟨us, upd_same, t.mono (Gr.newP l)⟩) (ptr_new r)
    · exact p.elim
  · exact p.elim
theorem rc_tuple : RCs c bTuple (fun xs H Q => ∃ p ys, xs = [.ref p] ∧ ((SqL c.K H p ys ∧ ∀ l, H l = none → Q (.ref l) (upd H l (.tup ys))) ∨ (SqT c.K H p ys ∧ Q (.ref p) H))) := by
  intro W σ G H M vs ds Q r q p
  unfold bTuple at p
  split at p
  · obtain ⟨v, t, rfl, q1, rfl⟩ := q
    obtain ⟨a, us, rfl, s, t⟩ := q1
    exact ⟨a, us, rfl, .inr ⟨.inl (.inl (r.fz.tup s)), p G _ H (Gr.refl _) r ⟨a, us, rfl, s, t⟩⟩⟩
  · split at p
    · rename_i xs hx
      obtain ⟨v, t, rfl, q1, rfl⟩ := q
      obtain ⟨a, us, rfl, s, t⟩ := asL_at r q1 hx
      refine ⟨a, us, rfl, .inl ⟨s, fun l hl => ?_⟩⟩
      have g := Gr.newF (G := G) (o := .tup us) (r.fz.free hl)
      exact p _ _ _ g (r.newF hl) ⟨l, us, rfl, upd_same, t.mono g⟩
    · exact p.elim
  · exact p.elim
end
section
variable {X : Cx} {W : WX} {p pos apos : Pos} {e o e1 e2' : Expr} {es : List Expr} {a : AF} {fo fe : EF}
theorem call_lenDk : CallR X (.builtin "len") (fun xs H Q => ∃ p kvs, xs = [.ref p] ∧ Rd H p (.dK kvs) ∧ Q (.int (kvs.length : Nat)) H) := by
  intro pins s σ H xs us Q I r h
  obtain ⟨a, kvs, rfl, e, q⟩ := h
  rw [Vals.ref1 r]
  exact d_len I e fun t s' I' => ⟨.int kvs.length, H, I', ⟨t, rfl⟩, q⟩
theorem qlen (hg : Gl X "len") (hm : X.mg "len" = none) (ha : QA X W [e] a) (he : starEach [e] X.env = (false, eval e X.env) :: starEach [] X.env := by rfl) (hpl : (backTo pos (starEach [] X.env)).any (·.1) = false := by rfl) :
    QE X W (.Call (.Name "len" p) [e] [] pos) (eCall bLen a) := q_cb (call_len_str.or call_len_seq) rc_len hg hm ha PySem.boot_len (by decide) (by decide) he hpl
theorem qlenD (hg : Gl X "len") (hm : X.mg "len" = none) (ha : QA X W [e] a) (he : starEach [e] X.env = (false, eval e X.env) :: starEach [] X.env := by rfl) (hpl : (backTo pos (starEach [] X.env)).any (·.1) = false := by rfl) :
    QE X W (.Call (.Name "len" p) [e] [] pos) (eCall bLenD a) := q_cb call_lenDk rc_lenD hg hm ha PySem.boot_len (by decide) (by decide) he hpl
theorem qabs (hg : Gl X "abs") (hm : X.mg "abs" = none) (ha : QA X W [e] a) (he : starEach [e] X.env = (false, eval e X.env) :: starEach [] X.env := by rfl) (hpl : (backTo pos (starEach [] X.env)).any (·.1) = false := by rfl) :
    QE X W (.Call (.Name "abs" p) [e] [] pos) (eCall bAbs a) := q_cb call_abs rc_abs hg hm ha (by decide +kernel) (by decide) (by decide) he hpl
theorem qsum (hc : X.calm = true) (hg : Gl X "sum") (hm : X.mg "sum" = none) (ha : QA X W [e] a) (he : starEach [e] X.env = (false, eval e X.env) :: starEach [] X.env := by rfl) (hpl : (backTo pos (starEach [] X.env)).any (·.1) = false := by rfl) :
    QE X W (.Call (.Name "sum" p) [e] [] pos) (eCall bSum a) := q_cb (cr_sum hc) rc_sum hg hm ha (by decide +kernel) (by decide) (by decide) he hpl
theorem qall (hc : X.calm = true) (hg : Gl X "all") (hm : X.mg "all" = none) (ha : QA X W [e] a) (he : starEach [e] X.env = (false, eval e X.env) :: starEach [] X.env := by rfl) (hpl : (backTo pos (starEach [] X.env)).any (·.1) = false := by rfl) :
    QE X W (.Call (.Name "all" p) [e] [] pos) (eCall bAll a) := q_cb (cr_all hc) rc_all hg hm ha (by decide +kernel) (by decide) (by decide) he hpl
theorem qany (hc : X.calm = true) (hg : Gl X "any") (hm : X.mg "any" = none) (ha : QA X W [e] a) (he : starEach [e] X.env = (false, eval e X.env) :: starEach [] X.env := by rfl) (hpl : (backTo pos (starEach [] X.env)).any (·.1) = false := by rfl) :
    QE X W (.Call (.Name "any" p) [e] [] pos) (eCall bAny a) := q_cb (cr_any hc) rc_any hg hm ha (by decide +kernel) (by decide) (by decide) he hpl
theorem qmin2 (hc : X.calm = true) (hg : Gl X "min") (hm : X.mg "min" = none) (ha : QA X W [e1, e2'] a) (he : starEach [e1, e2'] X.env = (false, eval e1 X.env) :: starEach [e2'] X.env := by rfl) (hpl : (backTo pos (starEach [e2'] X.env)).any (·.1) = false := by rfl) :
    QE X W (.Call (.Name "min" p) [e1, e2'] [] pos) (eCall bMin2 a) := q_cb (call_min2 hc) rc_min2 hg hm ha (by decide +kernel) (by decide) (by decide) he hpl
theorem qmax2 (hc : X.calm = true) (hg : Gl X "max") (hm : X.mg "max" = none) (ha : QA X W [e1, e2'] a) (he : starEach [e1, e2'] X.env = (false, eval e1 X.env) :: starEach [e2'] X.env := by rfl) (hpl : (backTo pos (starEach [e2'] X.env)).any (·.1) = false := by rfl) :
    QE X W (.Call (.Name "max" p) [e1, e2'] [] pos) (eCall bMax2 a) := q_cb (call_max2 hc) rc_max2 hg hm ha (by decide +kernel) (by decide) (by decide) he hpl
theorem qint1 (hg : Gl X "int") (hm : X.mg "int" = none) (ha : QA X W [e] a) (he : starEach [e] X.env = (false, eval e X.env) :: starEach [] X.env := by rfl) (hpl : (backTo pos (starEach [] X.env)).any (·.1) = false := by rfl) :
    QE X W (.Call (.Name "int" p) [e] [] pos) (eCall bInt a) := q_ct call_int1 rc_int hg hm ha (by decide +kernel) (by decide) (by decide) he hpl
theorem qlist (hg : Gl X "list") (hm : X.mg "list" = none) (ha : QA X W [e] a) (he : starEach [e] X.env = (false, eval e X.env) :: starEach [] X.env := by rfl) (hpl : (backTo pos (starEach [] X.env)).any (·.1) = false := by rfl) :
    QE X W (.Call (.Name "list" p) [e] [] pos) (eCall bList a) := q_ct call_list_of rc_list hg hm ha (by decide +kernel) (by decide) (by decide) he hpl
theorem qlistP (hg : Gl X "list") (hm : X.mg "list" = none) (ha : QA X W [e] a) (he : starEach [e] X.env = (false, eval e X.env) :: starEach [] X.env := by rfl) (hpl : (backTo pos (starEach [] X.env)).any (·.1) = false := by rfl) :
    QE X W (.Call (.Name "list" p) [e] [] pos) (eCall bListP a) := q_ct call_list_of rc_listP hg hm ha (by decide +kernel) (by decide) (by decide) he hpl
theorem qtuple (hg : Gl X "tuple") (hm : X.mg "tuple" = none) (ha : QA X W [e] a) (he : starEach [e] X.env = (false, eval e X.env) :: starEach [] X.env := by rfl) (hpl : (backTo pos (starEach [] X.env)).any (·.1) = false := by rfl) :
    QE X W (.Call (.Name "tuple" p) [e] [] pos) (eCall bTuple a) := q_ct call_tuple_of rc_tuple hg hm ha (by decide +kernel) (by decide) (by decide) he hpl
end

/-! ### isinstance of built-in types -/
def tyName (M : Mem) : D → Option String
  | .non => some "NoneType"
  | .bl _ => some "bool"
  | .int _ => some "int"
  | .str _ => some "str"
  | .tup _ => some "tuple"
  | .lst _ => some "list"
  | .dK _ => some "dict"
  | .ptr k => match M[k]? with
    | some (.lst _) => some "list"
    | some (.dK _) => some "dict"
    | some (.dT _) => some "dict"
    | _ => none
  | _ => none
def tyNames : List String := ["NoneType", "bool", "int", "str", "tuple", "list", "dict"]
def isTy (a b : String) : Bool := a == b || (a == "bool" && b == "int")
theorem kit_all : ∀ a ∈ tyNames, ∀ b ∈ ["bool", "int", "str", "tuple", "list", "dict"], kitB a b = some (isTy a b) := by decide +kernel
theorem tyName_in {M : Mem} {d : D} {t : String} (h : tyName M d = some t) : t ∈ tyNames := by
  unfold tyName at h
  split at h <;> first | (cases h; simp [tyNames]) | (split at h <;> first | (cases h; simp [tyNames]) | cases h) | cases h
theorem tyName_at {c : Cn} {G : Gd} {H : Hp} {M : Mem} {d : D} {v : V} {t : String} (r : Rep c G H M) (q : DV c G d v) (h : tyName M d = some t) : TyX c.K H v (.type t) := by
  unfold tyName at h
  split at h
  · cases h; rw [show v = _ from q]; exact .base .non
  · cases h; rw [show v = _ from q]; exact .base (.bl _)
  · cases h; rw [show v = _ from q]; exact .base (.int _)
  · cases h; rw [show v = _ from q]; exact .base (.str _)
  · cases h; obtain ⟨a, vs, rfl, s, _⟩ := q; exact .base (.tup (r.fz.tup s))
  · cases h
    obtain ⟨a, vs, rfl, s, _⟩ := q
    rcases r.fz.sqL s with (z | ⟨o, z⟩) | ⟨o, its, n, hk, hc, _⟩
    · exact .base (.lst z)
    · exact .base (.frz z)
    · exact .kList hk hc
  · cases h
    obtain ⟨a, vs, o, rfl, s, _⟩ := q
    rcases r.fz _ _ s with z | ⟨z, _⟩
    · exact .fDict z
    · cases z
  · rename_i k
    split at h
    · rename_i ds ek
      cases h
      obtain ⟨a, e1, rfl⟩ := q
      obtain ⟨vs, hu, _⟩ := r.mem k _ a ek e1
      exact .base (.lst hu)
    · rename_i ds ek
      cases h
      obtain ⟨a, e1, rfl⟩ := q
      obtain ⟨vs, hu, _⟩ := r.mem k _ a ek e1
      exact .base (.dK hu)
    · rename_i ds ek
      cases h
      obtain ⟨a, e1, rfl⟩ := q
      obtain ⟨vs, hu, _⟩ := r.mem k _ a ek e1
      exact .base (.dT hu)
    · cases h
  · cases h
end QL
end
section
set_option Elab.async false
set_option linter.all false
set_option maxRecDepth 100000
set_option maxHeartbeats 4000000
set_option autoImplicit false
/-! QLst: lists that change, texts joined and split, copies of dicts, chained compares. -/
namespace QL
open PySem PySem.Spec L2
open Classical

/-! ### xs[i] = v, xs[i] += v -/
def lset (o i v : D) (M : Mem) : Option Mem := match o with
  | .ptr k => match M[k]? with
    | some (.lst ds) => match i with
      | .int j => match ixN ds.length j with
        | some n => some (M.set k (.lst (ds.set n v)))
        | none => none
      | _ => none
    | _ => none
  | _ => none
theorem DVs.set {c : Cn} {G : Gd} {d : D} {v : V} (q : DV c G d v) : ∀ {ds : List D} {vs : List V} (n : Nat), DVs c G ds vs → DVs c G (ds.set n d) (vs.set n v)
  | [], _, n, h => by rw [show _ = ([] : List V) from h]; exact rfl
  | e :: r, _, 0, h => by
    obtain ⟨u, t, rfl, h1, h2⟩ := h
    exact ⟨v, t, rfl, q, h2⟩
  | e :: r, _, n + 1, h => by
    obtain ⟨u, t, rfl, h1, h2⟩ := h
    exact ⟨u, t.set n v, rfl, h1, DVs.set q n h2⟩
theorem lset_at {c : Cn} {G : Gd} {H : Hp} {M M' : Mem} {o i v : D} {x y w : V} {Q : Hp → Prop} (r : Rep c G H M) (qo : DV c G o x) (qi : DV c G i y) (qv : DV c G v w) (h : lset o i v M = some M') (hQ : ∀ H', Rep c G H' M' → Q H') : rSetL x y w H Q := by
  unfold lset at h
  split at h
  · rename_i k
    split at h
    · rename_i ds ek
      split at h
      · rename_i j
        split at h
        · rename_i n hn
          cases h
          obtain ⟨a, e1, rfl⟩ := qo
          cases (show y = _ from qi)
          obtain ⟨vs, hu, q⟩ := r.mem k _ a ek e1
          exact ⟨a, vs, j, n, rfl, rfl, hu, by rw [q.length]; exact hn, hQ _ (r.write ek e1 rfl ⟨_, upd_same, q.set qv n⟩)⟩
        · cases h
      · cases h
    · cases h
  · cases h
def gSubL (o i : EF) : GF := fun d S M => (o S M).bind fun x M1 => (i S M1).bind fun y M2 => match lset x y d M2 with
  | some M3 => .ok S M3
  | none => .bad
section
variable {X : Cx} {W : WX} {pos apos tpos : Pos} {o i e : Expr} {es : List Expr} {fo fi fe : EF} {a : AF}
theorem qg_subL (ho : QE X W o fo) (hi : QE X W i fi)
    (ha : ∀ v, assign (.Subscript o i pos) X.env v = (do
      let ov ← holding [v] (eval o X.env)
      let iv ← holding [v, ov] (eval i X.env)
      standAt pos
      holding [v, ov, iv] (setItem ov iv v)
      release [v, ov, iv] []) := by intro _; rfl) : QG X W (.Subscript o i pos) (gSubL fo fi) := PG.imp (pg_sub ho hi set_list ha) fun v σ H Q h => by
  obtain ⟨G, S, M, d, r, s, q, p⟩ := h
  refine ⟨G, S, M, r, s, (Post.bind (rel := DV (cn X)) p).imp fun x H1 ⟨G1, dx, M1, g1, r1, q1, p1⟩ => ?_⟩
  refine ⟨G1, S, M1, r1, s.mono g1, (Post.bind (rel := DV (cn X)) p1).imp fun y H2 ⟨G2, dy, M2, g2, r2, q2, p2⟩ => ?_⟩
  split at p2
  · rename_i M3 hM
    exact lset_at r2 (q1.mono g2) q2 ((q.mono g1).mono g2) hM fun H' r' => p2 G2 σ H' (Gr.refl _) r' ((s.mono g1).mono g2)
  · exact p2.elim
theorem get_list : PGet X (rIxL X.K) := by
  rintro pins s σ H x y v u Q I rx ry ⟨a, xs, k, w, rfl, rfl, lies, at_k, post⟩
  cases rx
  obtain ⟨tk, rfl⟩ := ry
  obtain ⟨us, vals, pl, small⟩ := I.list lies
  obtain ⟨j, ix, at_j, _, low, high⟩ := atI_get at_k
  obtain ⟨z, here, rel⟩ := vals.get at_j
  have same := vals.length
  have fits := line63
  have done : EP X pins σ Q z s := ⟨w, H, I, rel, post⟩
  rcases Int.lt_or_le k 0 with neg | pos
  · rw [seqIndex_neg neg low] at ix
    have place : (k + (us.toArray.size : Int)).toNat = j := by
      rw [List.size_toArray, ← same]
      exact Option.some.inj ix
    exact wpAny_getItem_list_neg (x := z) pl.isList neg (by rw [List.size_toArray] <;> omega) (by omega) (by rw [place]; simpa using here) done
  · rw [seqIndex_of pos high] at ix
    have place : k.toNat = j := Option.some.inj ix
    exact wpAny_getItem_list (x := z) pl.isList pos (by omega) (by rw [place]; simpa using here) done
/-- o[i] op= v, o a list, ints -/
def kLAug (o i v : EF) (op : Int → Int → Int) : TF := fun S M => (o S M).thn S fun d M1 => (i S M1).thn S fun y M2 => match asL M2 d with
  | some ds => match y with
    | .int j => match L2.atI ds j with
      | some (.int n) => (v S M2).thn S fun z M3 => match z with
        | .int m => match lset d y (.int (op n m)) M3 with
          | some M4 => .nx S M4
          | none => .bad
        | _ => .bad
      | _ => .bad
    | _ => .bad
  | none => .bad
theorem qlaug {op : Operator} {f : Int → Int → Int} (ho : QE X W o fo) (hi : QE X W i fi) (he : QE X W e fe) (hp : PIp X op (ipI f))
    (ha : ∀ ov iv new, augStore i ov iv new = (do holding [new, ov, iv] (setItem ov iv new); release [new, ov, iv] []; pure .next) := by intros; rfl) : QS X W (.AugAssign (.Subscript o i tpos) op e pos) (kLAug fo fi fe f) := PS.imp (ps_augS ho hi get_list he hp set_list ha) fun D σ H h => by
  refine Up.imp (UpS.thn h) fun x H1 ⟨G, S, d, M, r, s, q, p⟩ => ?_
  refine ⟨G, S, M, r, s, (PostS.thnE (rel := DV (cn X)) s p).imp fun y H2 ⟨G2, dy, M2, g2, r2, q2, p2⟩ => ?_⟩
  split at p2
  · rename_i ds hds
    split at p2
    · rename_i j
      split at p2
      · rename_i n hn
        cases (show y = _ from q2)
        obtain ⟨a, vs, rfl, sq, t⟩ := asL_at r2 (q.mono g2) hds
        obtain ⟨v, ev, qv⟩ := t.atI hn
        cases (show v = _ from qv)
        refine ⟨a, vs, j, _, rfl, rfl, sq, ev, G2, S, M2, r2, s.mono g2, (PostS.thnE (rel := DV (cn X)) (s.mono g2) p2).imp fun z H3 ⟨G3, dz, M3, g3, r3, q3, p3⟩ => ?_⟩
        split at p3
        · rename_i m
          split at p3
          · rename_i M4 hM
            cases (show z = _ from q3)
            exact ⟨n, m, rfl, rfl, lset_at (i := .int j) (v := .int (f n m)) r3 ((q.mono g2).mono g3) rfl rfl hM fun H' r' => p3 G3 σ H' (Gr.refl _) r' ((s.mono g2).mono g3)⟩
          · exact p3.elim
        · exact p3.elim
      · exact p2.elim
    · exact p2.elim
  · exact p2.elim
/-! ### append, pop -/
def eApp (o v : EF) : EF := fun S M => (o S M).bind fun d M1 => match asL M1 d with
  | some _ => (v S M1).bind fun y M2 => match d with
    | .ptr k => match M2[k]? with
      | some (.lst ds) => if ds.length < sizeLine then .ok .non (M2.set k (.lst (ds ++ [y]))) else .bad
      | _ => .bad
    | _ => .bad
  | none => .bad
theorem qapp {pos : Pos} (ho : QE X W o fo) (he : QE X W e fe)
    (hbase : attributeBase o "append" X.env (eval o X.env) = eval o X.env := by rfl)
    (hfew : ((backTo pos (starEach [e] X.env)).all (fun x => !x.1) && (backToKw pos (keywordEach [] X.env)).all (fun x => x.1.isSome)
      && decide ([e].length + ([] : List Keyword).length + (if ([] : List Keyword).isEmpty then 0 else 1) < 30)) = true := by rfl)
    (hline : (apos.endLine == pos.line) = true := by rfl) (hs : starEach [e] X.env = (false, eval e X.env) :: starEach [] X.env := by rfl) (hplain : (backTo pos (starEach [] X.env)).any (·.1) = false := by rfl) :
    QE X W (.Call (.Attribute o "append" apos) [e] [] pos) (eApp fo fe) := PE.imp (pe_bm PySem.F.plainAttrs_list PySem.F.slot_list_append PySem.F.type_list_append mt_append ho (pa_cons he pa_nil hs) hbase hfew hline hs hplain) fun σ H Q h => by
  refine Up.imp (Up.bind h) fun x H1 ⟨G, S, d, M, r, s, q, p⟩ => ?_
  split at p
  · rename_i ds0 hds
    obtain ⟨a, vs, rfl, sq, t⟩ := asL_at r q hds
    refine ⟨.inl ⟨rfl, vs, sq⟩, G, S, M, r, s, (Post.bind (rel := DV (cn X)) p).imp fun y H2 ⟨G2, dy, M2, g2, r2, q2, p2⟩ => ?_⟩
    obtain ⟨k, rfl⟩ : ∃ k, d = .ptr k := by cases d <;> first | exact ⟨_, rfl⟩ | exact p2.elim
    simp only at p2
    split at p2
    · rename_i ds ek
      split at p2
      · rename_i hz
        obtain ⟨a2, e1, e2⟩ := q.mono g2
        cases e2
        obtain ⟨us, hu, q3⟩ := r2.mem k _ a ek e1
        exact ⟨a, us, y, rfl, rfl, hu, by rw [q3.length]; exact hz, p2 G2 _ _ (Gr.refl _) (r2.write ek e1 rfl ⟨_, upd_same, q3.append (DVs.one q2)⟩) rfl⟩
      · exact p2.elim
    · exact p2.elim
  · exact p.elim
def ePop (o : EF) : EF := fun S M => (o S M).bind fun d M1 => match d with
  | .ptr k => match M1[k]? with
    | some (.lst ds) => match ds[ds.length - 1]? with
      | some y => .ok y (M1.set k (.lst ds.dropLast))
      | none => .bad
    | _ => .bad
  | _ => .bad
theorem DVs.dropLast {c : Cn} {G : Gd} {ds : List D} {vs : List V} (h : DVs c G ds vs) : DVs c G ds.dropLast vs.dropLast := by
  rw [List.dropLast_eq_take, List.dropLast_eq_take, h.length]
  exact h.take _
theorem qpop {pos : Pos} (ho : QE X W o fo) (hbase : attributeBase o "pop" X.env (eval o X.env) = eval o X.env := by rfl) (hline : (apos.endLine == pos.line) = true := by rfl) :
    QE X W (.Call (.Attribute o "pop" apos) [] [] pos) (ePop fo) := PE.imp (pe_bm0 PySem.F.plainAttrs_list PySem.F.slot_list_pop PySem.F.type_list_pop mt_pop ho hbase hline) fun σ H Q h => by
  refine Up.imp (Up.bind h) fun x H1 ⟨G, S, d, M, r, s, q, p⟩ => ?_
  split at p
  · rename_i k
    split at p
    · rename_i ds ek
      split at p
      · rename_i y hy
        obtain ⟨a, e1, rfl⟩ := q
        obtain ⟨us, hu, q3⟩ := r.mem k _ a ek e1
        obtain ⟨v, ev, qv⟩ := q3.get hy
        exact ⟨.inl ⟨rfl, us, .inl (.inl hu)⟩, a, us, v, rfl, rfl, hu, by rw [q3.length]; exact ev, p G v _ (Gr.refl _) (r.write ek e1 rfl ⟨_, upd_same, q3.dropLast⟩) qv⟩
      · exact p.elim
    · exact p.elim
  · exact p.elim
/-! ### texts -/
def eJoin (o v : EF) : EF := fun S M => (o S M).bind fun d M1 => match d with
  | .str x => (v S M1).bind fun y M2 => match seqOf M2 y with
    | some ds => match strsOf ds with
      | some ys => if (ys.map (·.length)).sum + ys.length * x.length ≤ 16777216 then .ok (.str (Txt.join x ys)) M2 else .bad
      | none => .bad
    | none => .bad
  | _ => .bad
theorem qjoin (ho : QE X W o fo) (he : QE X W e fe) (hs : starEach [e] X.env = [(false, eval e X.env)] := by rfl) (hbase : attributeBase o "join" X.env (eval o X.env) = eval o X.env := by rfl) (hline : (apos.endLine == pos.line) = true := by rfl) :
    QE X W (.Call (.Attribute o "join" apos) [e] [] pos) (eJoin fo fe) := PE.imp (pe_join ho he hs hbase hline) fun σ H Q h => by
  refine Up.imp (Up.bind h) fun x H1 ⟨G, S, d, M, r, s, q, p⟩ => ?_
  split at p
  · rename_i z
    cases (show x = _ from q)
    refine ⟨⟨_, rfl⟩, G, S, M, r, s, (Post.bind (rel := DV (cn X)) p).imp fun y H2 ⟨G2, dy, M2, g2, r2, q2, p2⟩ => ?_⟩
    split at p2
    · rename_i ds hds
      split at p2
      · rename_i ys hys
        split at p2
        · rename_i hz
          obtain ⟨a, vs, rfl, sq, t⟩ := seqOf_at r2 q2 hds
          rw [strsOf_eq hys] at t
          rw [t.strs] at sq
          exact ⟨_, a, ys, rfl, rfl, sq, hz, p2 G2 _ _ (Gr.refl _) r2 rfl⟩
        · exact p2.elim
      · exact p2.elim
    · exact p2.elim
  · exact p.elim
def eSplit (o v : EF) : EF := fun S M => (o S M).bind fun d M1 => match d with
  | .str x => (v S M1).bind fun y M2 => match y with
    | .str b => if (b.length == 0) = false ∧ x.length + 2 ≤ sizeLine then .ok (.lst ((Txt.split x b).map D.str)) M2 else .bad
    | _ => .bad
  | _ => .bad
theorem DVs.ofStrs {c : Cn} {G : Gd} : ∀ ns : List Str, DVs c G (ns.map D.str) (ns.map V.str)
  | [] => rfl
  | n :: r => ⟨_, _, rfl, rfl, DVs.ofStrs r⟩
theorem qsplit (ho : QE X W o fo) (he : QE X W e fe) (hs : starEach [e] X.env = [(false, eval e X.env)] := by rfl) (hbase : attributeBase o "split" X.env (eval o X.env) = eval o X.env := by rfl) (hline : (apos.endLine == pos.line) = true := by rfl) :
    QE X W (.Call (.Attribute o "split" apos) [e] [] pos) (eSplit fo fe) := PE.imp (pe_split ho he hs hbase hline) fun σ H Q h => by
  refine Up.imp (Up.bind h) fun x H1 ⟨G, S, d, M, r, s, q, p⟩ => ?_
  split at p
  · rename_i z
    cases (show x = _ from q)
    refine ⟨⟨_, rfl⟩, G, S, M, r, s, (Post.bind (rel := DV (cn X)) p).imp fun y H2 ⟨G2, dy, M2, g2, r2, q2, p2⟩ => ?_⟩
    split at p2
    · rename_i b
      split at p2
      · rename_i hz
        cases (show y = _ from q2)
        refine ⟨_, b, rfl, rfl, hz.1, hz.2, fun p' hp => ?_⟩
        have g := Gr.newF (G := G2) (o := .lst ((Txt.split z b).map V.str)) (r2.fz.free hp)
        exact p2 _ _ _ g (r2.newF hp) ⟨p', _, rfl, .inl (.inl upd_same), DVs.ofStrs _⟩
      · exact p2.elim
    · exact p2.elim
  · exact p.elim
/-! ### dict(d), d of ints and texts -/
def bDictK (ds : List D) (M : Mem) : Res D := match ds with
  | [d] => match asK M d with
    | some kvs => .ok (.ptr M.length) (M ++ [.dK kvs])
    | none => .bad
  | _ => .bad
theorem rc_dictK {c : Cn} : RCs c bDictK (fun xs H Q => ∃ (a : Addr) (kvs : List (Key × V)), xs = [.ref a] ∧ Rd H a (.dK kvs) ∧ ∀ p, H p = none → Q (.ref p) (upd H p (.dK kvs))) := by
  intro W σ G H M vs ds Q r q p
  unfold bDictK at p
  split at p
  · split at p
    · rename_i kvs hk
      obtain ⟨v, t, rfl, q1, rfl⟩ := q
      obtain ⟨a, us, rfl, s, t⟩ := asK_at r q1 hk
      refine ⟨a, us, rfl, s, fun x hx => ?_⟩
      have g := Gr.newP (G := G) x
      exact p _ _ _ g (r.newP hx (mo := .dK kvs) ⟨us, upd_same, t.mono g⟩) (ptr_new r)
    · exact p.elim
  · exact p.elim
theorem qdictK {p : Pos} (hg : Gl X "dict") (hm : X.mg "dict" = none) (ha : QA X W [e] a) (he : starEach [e] X.env = (false, eval e X.env) :: starEach [] X.env := by rfl) (hpl : (backTo pos (starEach [] X.env)).any (·.1) = false := by rfl) :
    QE X W (.Call (.Name "dict" p) [e] [] pos) (eCall bDictK a) := q_ct call_dictD rc_dictK hg hm ha (by decide +kernel) (by decide) (by decide) he hpl
end
/-! ### chained compares -/
section
variable {X : Cx} {W : WX} {pos : Pos} {a b c : Expr} {fa fb fc : EF} {f g : D → D → Mem → Res D} {r r' : R2}
theorem qchain {op op' : CmpOp} (ho : OpR X (compareOp op) r) (ho' : OpR X (compareOp op') r') (hr : R2s (cn X) f r) (hr' : R2s (cn X) g r') (ha : QE X W a fa) (hb : QE X W b fb) (hc : QE X W c fc)
    (hm : lastMarks [op, op'] [b, c] = false := by with_unfolding_all rfl) : QE X W (.Compare a [op, op'] [b, c] pos) (e3 f g fa fb fc) := PE.imp (pe_chain ho ho' ha hb hc hm) fun _ _ _ h => up_chain hr hr' h
theorem tchain {op op' : CmpOp} (ho : OpR X (compareOp op) r) (ho' : OpR X (compareOp op') r') (hr : R2s (cn X) f r) (hr' : R2s (cn X) g r') (ha : QE X W a fa) (hb : QE X W b fb) (hc : QE X W c fc)
    (hm : lastMarks [op, op'] [b, c] = false := by with_unfolding_all rfl) : QT X W (.Compare a [op, op'] [b, c] pos) (bV (e3 f g fa fb fc)) := PT.imp (pt_chain ho ho' ha hb hc hm) fun σ H Q h => by
  have h2 := Up.bind (rel := DV (cn X)) h
  refine up_chain (Q := fun x H1 => ∃ c, x = .bl c ∧ Q c H1) hr hr' (Up.imp h2 fun v H1 ⟨G, S, d, M, r1, s, q, p⟩ => ?_)
  split at p
  · cases (show v = _ from q)
    exact ⟨_, rfl, p G _ H1 (Gr.refl _) r1 rfl⟩
  · exact p.elim
end
end QL
end
section
set_option Elab.async false
set_option linter.all false
set_option maxRecDepth 100000
set_option maxHeartbeats 4000000
set_option autoImplicit false
/-! QDc: dict comprehensions, keys ints or texts. -/
namespace QL
open PySem PySem.Spec L2
open Classical
/-- the pairs that the turns give -/
noncomputable def dcL (gd : Mem → Prop) (g : GF) (b : BF) (ke e : EF) (S0 : Sl) : List D → List (Key × D) → Mem → Res (List (Key × D))
  | [], acc, M => if gd M then .ok acc M else .bad
  | d :: r, acc, M => if gd M then match g d S0 M with
      | .ok S1 M1 => match b S1 M1 with
        | .ok true M2 => match ke S1 M2 with
          | .ok kd M3 => match keyOf kd with
            | some k => match e S1 M3 with
              | .ok y M4 => if acc.length < sizeLine then dcL gd g b ke e S0 r (putKD acc k y) M4 else .bad
              | _ => .bad
            | none => .bad
          | _ => .bad
        | .ok false M2 => dcL gd g b ke e S0 r acc M2
        | _ => .bad
      | _ => .bad
    else .bad
/-- a new dict that may change -/
noncomputable def eDc (f : IF) (g : GF) (b : BF) (ke e : EF) (vs : List Nat) : EF := fun S M => (f S M).bind fun I M1 => (dcL I.gd g b ke e (kl vs S) I.ds [] M1).bind fun ys M2 => .ok (.ptr M2.length) (M2 ++ [.dK ys])
section
variable {X : Cx} {W : WX} {tg iter kx elt : Expr} {ifs : List Expr} {scope : Scope} {own : List (Str × Nat)} {pos : Pos} {f : IF} {g : GF} {b : BF} {ke e : EF}
/-- the turns of a comprehension -/
theorem dc_turns {c : Cn} {σ : St} {vs : List Nat} {G1 : Gd} {S : Sl} {H1 : Hp} {M1 : Mem} {I : Its} {J : It} {D : Addr} {Qd : Hp → Prop} (r1 : Rep c G1 H1 M1) (s1 : SlR c G1 S σ) (w1 : Wk c G1 J I.ds I.gd) (hD : H1 D = none)
    (ne : dcL I.gd g b ke e (kl vs S) I.ds [] M1 ≠ .bad) (hq : ∀ ys M2, dcL I.gd g b ke e (kl vs S) I.ds [] M1 = .ok ys M2 → ∀ G2 H2 us, Gr0 G1 G2 → G2.P = (D, .dK us) :: G1.P → Rep c G2 H2 M2 → DVk c G2 ys us → Qd H2) :
    ∃ Wd : Nat → Nat → Hp → Prop, (∃ m, Wd 0 m (upd H1 D (.dK []))) ∧ ∀ i m H, Wd i m H →
      (J.stop i H ∧ Qd H) ∨ (J.go i H ∧ ∃ Nx : Hp → Prop, (∀ H', Nx H' → ∃ m', m' < m ∧ Wd (i + 1) m' H') ∧ ∀ x H', J.yld i H x H' → UpGv c W0 vs g x (wipe σ vs) H' fun σ2 H2 => wipe σ2 vs = wipe σ vs ∧ Up c W0 (fun _ (a b : Bool) => a = b) b σ2 H2 fun b' H3 =>
        if b' = true then Up c W0 (DV c) ke σ2 H3 fun y H4 => Up c W0 (DV c) e σ2 H4 fun z H5 => ∃ kvs k, y = kV k ∧ H5 D = some (.dK kvs) ∧ kvs.length < sizeLine ∧ Nx (upd H5 D (.dK (putK kvs k z))) else Nx H3) := by
  have nP : ∀ q ∈ G1.P, q.1 ≠ D := fun q hq z => by
    obtain ⟨h1, _⟩ := r1.pin q hq
    rw [z, hD] at h1
    cases h1
  obtain ⟨R0, eR0⟩ : ∃ R0, dcL I.gd g b ke e (kl vs S) I.ds [] M1 = R0 := ⟨_, rfl⟩
  rw [eR0] at ne hq
  refine ⟨fun i m H => m = I.ds.length - i ∧ i ≤ I.ds.length ∧ ∃ G acc us M, Gr0 G1 G ∧ G.P = (D, .dK us) :: G1.P ∧ Rep c G H M ∧ DVk c G acc us ∧ dcL I.gd g b ke e (kl vs S) (I.ds.drop i) acc M = R0,
    ⟨I.ds.length, by simp, Nat.zero_le _, { G1 with P := (D, .dK []) :: G1.P }, [], [], M1, ⟨fun _ _ h => h, [], (List.append_nil _).symm⟩, rfl, r1.pinNew hD, rfl, eR0⟩, ?_⟩
  rintro i m H ⟨rfl, hi, G, acc, us, M, g0, eP, r, q, el⟩
  by_cases hlt : i < I.ds.length
  · have ed : I.ds.drop i = I.ds[i] :: I.ds.drop (i + 1) := List.drop_eq_getElem_cons hlt
    rw [ed] at el
    unfold dcL at el
    by_cases hk : I.gd M
    · rw [if_pos hk] at el
      obtain ⟨go, yl⟩ := (w1 G H M g0 r hk).1 i hlt
      refine .inr ⟨go, fun H => ∃ G acc us M, Gr0 G1 G ∧ G.P = (D, .dK us) :: G1.P ∧ Rep c G H M ∧ DVk c G acc us ∧ dcL I.gd g b ke e (kl vs S) (I.ds.drop (i + 1)) acc M = R0,
        fun H' z => ⟨_, by omega, rfl, hlt, z⟩, fun x H' y => ?_⟩
      obtain ⟨G3, d, ed3, g3, r3, q3⟩ := yl x H' y
      rw [List.getElem?_eq_getElem hlt] at ed3
      cases ed3
      refine ⟨G3, kl vs S, M, _, r3, SlR.klw (S := S) (⟨s1.1, fun i d e => let ⟨v, z, w⟩ := s1.2 i d e; ⟨v, z, w.mono0 (g0.trans g3.toGr0)⟩⟩), q3, ?_⟩
      cases eg : g I.ds[i] (kl vs S) M with
      | rz x M2 => rw [eg] at el; exact absurd el.symm ne
      | bad => rw [eg] at el; exact absurd el.symm ne
      | ok S4 M4 =>
        rw [eg] at el
        intro G4 σ4 H4 g4 r4 ⟨s4, w4⟩
        have ww : wipe σ4 vs = wipe σ vs := by
          rw [w4]
          have id1 : ∀ (vs : List Nat) (σ : St), wipe (wipe σ vs) vs = wipe σ vs := by
            intro vs σ
            have st : ∀ (i : Nat) (τ : St), (wipe τ vs)[i]? = if i ∈ vs then (τ[i]?).map (fun _ => (none : Option V)) else τ[i]? := by
              induction vs with
              | nil => intro i τ; simp [wipe]
              | cons v vs ih =>
                intro i τ
                show ((wipe τ vs).set v none)[i]? = _
                by_cases hv : v = i
                · subst hv
                  rw [if_pos (List.mem_cons_self)]
                  rw [List.getElem?_set]
                  rw [if_pos rfl, wipe_length]
                  by_cases hl : v < τ.length
                  · rw [if_pos hl, List.getElem?_eq_getElem hl]; rfl
                  · rw [if_neg hl, List.getElem?_eq_none (by omega)]; rfl
                · rw [List.getElem?_set_ne hv, ih i τ]
                  by_cases hm : i ∈ vs
                  · rw [if_pos hm, if_pos (List.mem_cons_of_mem _ hm)]
                  · rw [if_neg hm, if_neg (by intro z; rcases List.mem_cons.mp z with z | z; exact hv z.symm; exact hm z)]
            apply List.ext_getElem?
            intro i
            rw [st i (wipe σ vs), st i σ]
            by_cases hm : i ∈ vs
            · rw [if_pos hm, if_pos hm]
              cases σ[i]? <;> rfl
            · rw [if_neg hm, if_neg hm]
          exact id1 vs σ
        refine ⟨ww, G4, S4, M4, r4, s4, ?_⟩
        have gg := (g0.trans g3.toGr0).trans g4.toGr0
        have eP4 : G4.P = (D, .dK us) :: G1.P := by rw [g4.P, g3.P, eP]
        have q4 := q.mono0 (g3.toGr0.trans g4.toGr0)
        cases eb : b S4 M4 with
        | rz x M5 => simp only [eb] at el; exact absurd el.symm ne
        | bad => simp only [eb] at el; exact absurd el.symm ne
        | ok k M5 =>
          simp only [eb] at el
          intro G5 k' H5 g5 r5 hk'
          subst hk'
          have eP5 : G5.P = (D, .dK us) :: G1.P := by rw [g5.P, eP4]
          cases k with
          | false =>
            rw [if_neg Bool.false_ne_true]
            exact ⟨G5, acc, us, M5, gg.trans g5.toGr0, eP5, r5, q4.mono g5, el⟩
          | true =>
            rw [if_pos rfl]
            refine ⟨G5, S4, M5, r5, s4.mono g5, ?_⟩
            cases ek : ke S4 M5 with
            | rz x M6 => simp only [ek] at el; exact absurd el.symm ne
            | bad => simp only [ek] at el; exact absurd el.symm ne
            | ok kd M6 =>
            simp only [ek] at el
            cases eko : keyOf kd with
            | none => simp only [eko] at el; exact absurd el.symm ne
            | some key =>
            simp only [eko] at el
            intro G6 kv H6 g6 r6 qk
            have ekv := keyOf_at qk eko
            refine ⟨G6, S4, M6, r6, (s4.mono g5).mono g6, ?_⟩
            cases ee : e S4 M6 with
            | rz x M7 => simp only [ee] at el; exact absurd el.symm ne
            | bad => simp only [ee] at el; exact absurd el.symm ne
            | ok y M7 =>
              simp only [ee] at el
              by_cases hz : acc.length < sizeLine
              · rw [if_pos hz] at el
                intro G7 v H7 g7 r7 q7
                have eP7 : G7.P = (D, .dK us) :: G1.P := by rw [g7.P, g6.P, eP5]
                have hpin := r7.pin (D, .dK us) (by rw [eP7]; exact List.mem_cons_self)
                have q5 := ((q4.mono g5).mono g6).mono g7
                refine ⟨us, key, ekv, hpin.1, by rw [kr_len q5.pr]; exact hz, ?_⟩
                have e7 : G7 = { G7 with P := (D, .dK us) :: G1.P } := by
                  obtain ⟨F7, θ7, P7⟩ := G7
                  have eP7' : P7 = (D, .dK us) :: G1.P := eP7
                  rw [eP7']
                rw [e7] at r7
                have r8 := r7.pinSet (o' := .dK (putK us key v)) nP
                have gz := gg.trans (g5.toGr0.trans (g6.toGr0.trans g7.toGr0))
                refine ⟨{ G7 with P := (D, .dK (putK us key v)) :: G1.P }, putKD acc key y, putK us key v, M7, ⟨gz.F, gz.θ⟩, rfl, r8, ?_, el⟩
                have g8 : Gr0 G7 { G7 with P := (D, .dK (putK us key v)) :: G1.P } := ⟨fun _ _ h => h, [], (List.append_nil _).symm⟩
                exact (DVk.of (kr_put q5.pr key q7)).mono0 g8
              · rw [if_neg hz] at el
                exact absurd el.symm ne
    · rw [if_neg hk] at el
      exact absurd el.symm ne
  · have ei : i = I.ds.length := by omega
    subst ei
    rw [List.drop_length] at el
    unfold dcL at el
    by_cases hk : I.gd M
    · rw [if_pos hk] at el
      exact .inl ⟨(w1 G H M g0 r hk).2 _ (Nat.le_refl _), hq _ _ el.symm G H us g0 eP r q⟩
    · rw [if_neg hk] at el
      exact absurd el.symm ne
theorem up_dc {c : Cn} {vs : List Nat} {σ : St} {H : Hp} {Q : VK} (h : Up c W (DV c) (eDc f g b ke e vs) σ H Q) : tDc (UpI c W f) (UpGv c W0 vs g) (Up c W0 (fun _ (a b : Bool) => a = b) b) (Up c W0 (DV c) ke) (Up c W0 (DV c) e) vs σ H Q := by
  obtain ⟨G, S, M, r, s, p⟩ := h
  refine ⟨G, S, M, r, s, ?_⟩
  unfold eDc at p
  cases ef : f S M with
  | bad => rw [ef] at p; exact p
  | rz x M1 => rw [ef] at p; exact p
  | ok I M1 =>
    rw [ef] at p
    intro G1 J H1 g1 r1 w1 D hD
    have p1 : Post c W σ G1 (DV c) ((dcL I.gd g b ke e (kl vs S) I.ds [] M1).bind fun ys M2 => .ok (.ptr M2.length) (M2 ++ [.dK ys])) Q := Post.mono g1 p
    have ne : dcL I.gd g b ke e (kl vs S) I.ds [] M1 ≠ .bad := fun z => by rw [z] at p1; exact p1
    refine dc_turns r1 (s.mono g1) w1 hD ne fun ys M2 ey G2 H2 us g2 eP r2 q2 => ?_
    rw [ey] at p1
    have nP : ∀ q ∈ G1.P, q.1 ≠ D := fun q hq z => by
      obtain ⟨h1, _⟩ := r1.pin q hq
      rw [z, hD] at h1
      cases h1
    have e2 : G2 = { G2 with P := (D, .dK us) :: G1.P } := by
      obtain ⟨F6, θ6, P6⟩ := G2
      have eP6' : P6 = (D, .dK us) :: G1.P := eP
      rw [eP6']
    rw [e2] at r2
    have hd := (r2.pin (D, .dK us) List.mem_cons_self).1
    have g3 : Gr0 G2 { G2 with θ := G2.θ ++ [D], P := G1.P } := ⟨fun a u e => e, [D], rfl⟩
    have r3 := r2.pinP (mo := .dK ys) nP ⟨us, hd, q2.mono0 g3⟩
    have hl : G2.θ.length = M2.length := r2.len
    refine p1 _ _ H2 ⟨g2.trans g3, rfl⟩ r3 ⟨D, ?_, rfl⟩
    show (G2.θ ++ [D])[M2.length]? = some D
    rw [← hl, List.getElem?_append_right (Nat.le_refl _), Nat.sub_self]
    rfl
theorem qdc (hc : X.calm = true) (hN : X.N.Nodup) (hi : QI X W tg iter f) (ok : BlkOk X.N X.env.scope scope own)
    (hg : ∀ (s : Shared) (H : Hp) (C : Addr) (cl : List (Str × Addr)) (fp : List Addr), QGv (X.blk s H scope (compEnvC scope cl C X.env) fp) (own.map (·.2)) tg g) (ht : ∀ (s : Shared) (H : Hp) (C : Addr) (cl : List (Str × Addr)) (fp : List Addr), QTs (X.blk s H scope (compEnvC scope cl C X.env) fp) ifs b)
    (hk : ∀ (s : Shared) (H : Hp) (C : Addr) (cl : List (Str × Addr)) (fp : List Addr), QE (X.blk s H scope (compEnvC scope cl C X.env) fp) W0 kx ke)
    (he : ∀ (s : Shared) (H : Hp) (C : Addr) (cl : List (Str × Addr)) (fp : List Addr), QE (X.blk s H scope (compEnvC scope cl C X.env) fp) W0 elt e) (hs : ∀ x, foldedSetIterable iter X.env x = pure x := by intro _; rfl) :
    QE X W (.DictComp kx elt [⟨tg, iter, ifs, 0⟩] scope pos) (eDc f g b ke e (own.map (·.2))) := PE.imp (pe_dc (g := UpGv (cn X) W0 (own.map fun p : Str × Nat => p.2) g) (tt := Up (cn X) W0 (fun _ (a b : Bool) => a = b) b) (tk := Up (cn X) W0 (DV (cn X)) ke) (tv := Up (cn X) W0 (DV (cn X)) e) hc hN hi ok hg ht hk he hs) fun _ _ _ h => up_dc h
/-- name = {..}, the name a local: the store is made before the comprehension's things are let go -/
theorem ps_setDc {i : Nat} {y : Str} {py spos : Pos} {wi : TI} {g : TG} {tt : TT} {tk tv : TE} (hc : X.calm = true) (hN : X.N.Nodup) (hy : X.N[i]? = some y) (hyl : X.env.scope.names.lookup y = some .local)
    (hsw : swapsWith (.DictComp kx elt [⟨tg, iter, ifs, 0⟩] scope pos) (some (.Name y py)) spos.line X.env = pure true) (hi : PI X tg iter wi) (ok : BlkOk X.N X.env.scope scope own)
    (hg : ∀ (s : Shared) (H : Hp) (C : Addr) (cl : List (Str × Addr)) (fp : List Addr), PG (X.blk s H scope (compEnvC scope cl C X.env) fp) tg g) (ht : ∀ (s : Shared) (H : Hp) (C : Addr) (cl : List (Str × Addr)) (fp : List Addr), PTs (X.blk s H scope (compEnvC scope cl C X.env) fp) ifs tt)
    (hk : ∀ (s : Shared) (H : Hp) (C : Addr) (cl : List (Str × Addr)) (fp : List Addr), PE (X.blk s H scope (compEnvC scope cl C X.env) fp) kx tk)
    (he : ∀ (s : Shared) (H : Hp) (C : Addr) (cl : List (Str × Addr)) (fp : List Addr), PE (X.blk s H scope (compEnvC scope cl C X.env) fp) elt tv) (hs : ∀ x, foldedSetIterable iter X.env x = pure x) :
    PS X (.Assign [.Name y py] (.DictComp kx elt [⟨tg, iter, ifs, 0⟩] scope pos) spos) (tAsg (tDc wi g tt tk tv (own.map (·.2))) (gName i)) := by
  refine ⟨fun pins s σ H Dn I hT => ?_⟩
  rw [exec_Assign_Name_used _ _ _ _ hsw]
  refine wpAny_bind (wpAny_standAt (wpAny_bind ?_))
  show wpAny _ X.A (do let _ ← comprehension (.DictComp kx elt [⟨tg, iter, ifs, 0⟩] scope pos) scope X.env (firstIterPos [⟨tg, iter, ifs, 0⟩] pos) newDict false (eval iter X.env) (some (assign (.Name y py) X.env))) _ _ s
  have hT' : tDc wi g tt tk tv (own.map (·.2)) σ H (fun x H1 => gName i x σ H1 Dn.nx) := hT
  have core := dc_core (pos := pos) (pos' := firstIterPos [⟨tg, iter, ifs, 0⟩] pos) (use := some (assign (.Name y py) X.env)) (Qf := fun _ s' => SP X pins Dn .next s') hc hN I hi ok hg ht hk he hs hT' fun Da Ca s1 m1 Ha Ia qa na fa => by
    show wpAny _ _ (assign (.Name y py) X.env (.ref Da)) _ _ _
    obtain ⟨a0, a1, a2, a3, a4, a5⟩ := fa
    refine wpAny_assign_Name (store_ok2 (v := V.ref Da) Ia hN hy (.inl hyl) rfl (fun s2 Ib ⟨c, sb, hcc⟩ => ?_) (.inr hyl))
    have ne : Ca ≠ c := by
      rcases hcc with z | z
      · rw [z]; exact a1
      · exact fun e => a4 y c z e.symm
    exact ⟨m1, na.sameBut sb ne, fun h3 sb3 => ⟨_, Ha, Ib.turned (t' := s2.toks) (fun b o hb e => (sb3.2 b hb).trans e) a0 a1 a3 a4 a5, qa⟩⟩
  exact wpAny_bind (thn core fun _ s' hq => wpAny_pure (wpAny_pure hq))
theorem qsetDc {i : Nat} {y : Str} {py spos : Pos} (hc : X.calm = true) (hN : X.N.Nodup) (hy : X.N[i]? = some y) (hyl : X.env.scope.names.lookup y = some .local)
    (hsw : swapsWith (.DictComp kx elt [⟨tg, iter, ifs, 0⟩] scope pos) (some (.Name y py)) spos.line X.env = pure true) (hi : QI X W tg iter f) (ok : BlkOk X.N X.env.scope scope own)
    (hg : ∀ (s : Shared) (H : Hp) (C : Addr) (cl : List (Str × Addr)) (fp : List Addr), QGv (X.blk s H scope (compEnvC scope cl C X.env) fp) (own.map (·.2)) tg g) (ht : ∀ (s : Shared) (H : Hp) (C : Addr) (cl : List (Str × Addr)) (fp : List Addr), QTs (X.blk s H scope (compEnvC scope cl C X.env) fp) ifs b)
    (hk : ∀ (s : Shared) (H : Hp) (C : Addr) (cl : List (Str × Addr)) (fp : List Addr), QE (X.blk s H scope (compEnvC scope cl C X.env) fp) W0 kx ke)
    (he : ∀ (s : Shared) (H : Hp) (C : Addr) (cl : List (Str × Addr)) (fp : List Addr), QE (X.blk s H scope (compEnvC scope cl C X.env) fp) W0 elt e) (hs : ∀ x, foldedSetIterable iter X.env x = pure x := by intro _; rfl) :
    QS X W (.Assign [.Name y py] (.DictComp kx elt [⟨tg, iter, ifs, 0⟩] scope pos) spos) (kAsg (eDc f g b ke e (own.map (·.2))) (gN i)) := PS.imp (ps_setDc (g := UpGv (cn X) W0 (own.map fun p : Str × Nat => p.2) g) (tt := Up (cn X) W0 (fun _ (a b : Bool) => a = b) b) (tk := Up (cn X) W0 (DV (cn X)) ke) (tv := Up (cn X) W0 (DV (cn X)) e) hc hN hy hyl hsw hi ok hg ht hk he hs) fun Dn σ H hp => by
  refine up_dc (Up.imp (UpS.thn hp) fun v H1 ⟨G, S, d, M, r, s, q, p⟩ => ?_)
  exact p G _ H1 (Gr.refl G) r (s.set q)
end
end QL
end
section
set_option Elab.async false
set_option linter.all false
set_option maxRecDepth 100000
set_option maxHeartbeats 4000000
set_option autoImplicit false
/-! QAny: rules put together where the text does not tell which kind of thing stands there. -/
namespace QL
open PySem PySem.Spec L2
open Classical

def orR {α : Type} (r1 r2 : Res α) : Res α := match r1 with
  | .bad => r2
  | r => r
def or2 (f g : D → D → Mem → Res D) : D → D → Mem → Res D := fun x y M => orR (f x y M) (g x y M)
def orC (f g : List D → Mem → Res D) : List D → Mem → Res D := fun ds M => orR (f ds M) (g ds M)
theorem orR_or {α : Type} (r1 r2 : Res α) : orR r1 r2 = r1 ∨ orR r1 r2 = r2 := by
  cases r1 with
  | ok a M => exact .inl rfl
  | rz x M => exact .inl rfl
  | bad => exact .inr rfl
theorem e2_or {f g : D → D → Mem → Res D} {a b : EF} (S : Sl) (M : Mem) : e2 (or2 f g) a b S M = e2 f a b S M ∨ e2 (or2 f g) a b S M = e2 g a b S M := by
  unfold e2
  cases a S M with
  | rz x M1 => exact .inl rfl
  | bad => exact .inl rfl
  | ok x M1 =>
    show (b S M1).bind _ = (b S M1).bind _ ∨ (b S M1).bind _ = (b S M1).bind _
    cases b S M1 with
    | rz x M1 => exact .inl rfl
    | bad => exact .inl rfl
    | ok y M2 => exact orR_or (f x y M2) (g x y M2)
theorem bV_or {e e1 e2 : EF} {S : Sl} {M : Mem} (h : e S M = e1 S M ∨ e S M = e2 S M) : bV e S M = bV e1 S M ∨ bV e S M = bV e2 S M := by
  unfold bV
  rcases h with h | h
  · exact .inl (by rw [h])
  · exact .inr (by rw [h])
theorem eCall_or {f g : List D → Mem → Res D} {a : AF} (S : Sl) (M : Mem) : eCall (orC f g) a S M = eCall f a S M ∨ eCall (orC f g) a S M = eCall g a S M := by
  unfold eCall
  cases a S M with
  | rz x M1 => exact .inl rfl
  | bad => exact .inl rfl
  | ok x M1 => exact orR_or (f x M1) (g x M1)
section
variable {X : Cx} {W : WX} {e : Expr}
theorem Up.or {α β : Type} {c : Cn} {rel : Gd → α → β → Prop} {σ : St} {H : Hp} {Q : β → Hp → Prop} {g g1 g2 : Sl → Mem → Res α} (h : ∀ S M, g S M = g1 S M ∨ g S M = g2 S M) (z : Up c W rel g σ H Q) : Up c W rel g1 σ H Q ∨ Up c W rel g2 σ H Q := by
  obtain ⟨G, S, M, r, s, p⟩ := z
  rcases h S M with e | e
  · exact .inl ⟨G, S, M, r, s, by rw [← e]; exact p⟩
  · exact .inr ⟨G, S, M, r, s, by rw [← e]; exact p⟩
theorem QE.or {g g1 g2 : EF} (h1 : QE X W e g1) (h2 : QE X W e g2) (h : ∀ S M, g S M = g1 S M ∨ g S M = g2 S M) : QE X W e g := PE.imp (PE.or h1 h2) fun _ _ _ z => z.or h
theorem QT.or {g g1 g2 : BF} (h1 : QT X W e g1) (h2 : QT X W e g2) (h : ∀ S M, g S M = g1 S M ∨ g S M = g2 S M) : QT X W e g := PT.imp (PT.or h1 h2) fun _ _ _ z => z.or h
theorem QE.e2 {f g : D → D → Mem → Res D} {a b : EF} (h1 : QE X W e (e2 f a b)) (h2 : QE X W e (QL.e2 g a b)) : QE X W e (QL.e2 (or2 f g) a b) := QE.or h1 h2 e2_or
theorem QT.e2 {f g : D → D → Mem → Res D} {a b : EF} (h1 : QT X W e (bV (e2 f a b))) (h2 : QT X W e (bV (QL.e2 g a b))) : QT X W e (bV (QL.e2 (or2 f g) a b)) := QT.or h1 h2 fun S M => bV_or (e2_or S M)
theorem QE.call {f g : List D → Mem → Res D} {a : AF} (h1 : QE X W e (eCall f a)) (h2 : QE X W e (eCall g a)) : QE X W e (eCall (orC f g) a) := QE.or h1 h2 eCall_or
end
/-! ### the rules -/
def fIxA := or2 fDIx fIx
def fInA := or2 fIn (fInG false)
def fNotInA := or2 fNotIn (fInG true)
section
variable {X : Cx} {W : WX} {pos p : Pos} {o i e : Expr} {fo fi : EF} {a : AF}
theorem qixA (hu : X.A.units + 64 < cLine) (ho : QE X W o fo) (hi : QE X W i fi) (hs : PlainIx i := by exact fun _ _ => rfl) : QE X W (.Subscript o i pos) (e2 fIxA fo fi) := (qdix (by omega) ho hi hs).e2 (qix ho hi hs)
theorem qinA (hu : X.A.units + 64 < cLine) (hi : QE X W i fi) (ho : QE X W o fo) (hm : behindInMarks .In o = false := by rfl) : QE X W (.Compare i [.In] [o] pos) (e2 fInA fi fo) := (qdin (by omega) hi ho hm).e2 (qin hm hi ho)
theorem qnotinA (hu : X.A.units + 64 < cLine) (hi : QE X W i fi) (ho : QE X W o fo) (hm : behindInMarks .NotIn o = false := by rfl) : QE X W (.Compare i [.NotIn] [o] pos) (e2 fNotInA fi fo) := (qdnotin (by omega) hi ho hm).e2 (qnotin hm hi ho)
theorem tinA (hu : X.A.units + 64 < cLine) (hi : QE X W i fi) (ho : QE X W o fo) (hm : behindInMarks .In o = false := by rfl) : QT X W (.Compare i [.In] [o] pos) (bV (e2 fInA fi fo)) := (tdin (by omega) hi ho hm).e2 (tin hm hi ho)
theorem tnotinA (hu : X.A.units + 64 < cLine) (hi : QE X W i fi) (ho : QE X W o fo) (hm : behindInMarks .NotIn o = false := by rfl) : QT X W (.Compare i [.NotIn] [o] pos) (bV (e2 fNotInA fi fo)) := (tdnotin (by omega) hi ho hm).e2 (tnotin hm hi ho)
def bLenA := orC bLen bLenD
end
end QL
end
section
set_option Elab.async false
set_option linter.all false
set_option maxRecDepth 100000
set_option maxHeartbeats 4000000
set_option autoImplicit false
/-! QSort: sorted texts, repr of small things, lists repeated, lists of other lengths compared. -/
namespace QL
open PySem PySem.Spec L2
open Classical
open PyProof.Rows (sortedS risingS ltCps_eq)

/-! ### texts in order -/
def leS (a b : Str) : Bool := !ltCps b.cps.toList a.cps.toList
theorem leS_iff {a b : Str} : leS a b = true ↔ ¬ b.cps.toList < a.cps.toList := by
  unfold leS
  rw [ltCps_eq]
  simp
theorem leS_total (a b : Str) : (leS a b || leS b a) = true := by
  rw [Bool.or_eq_true, leS_iff, leS_iff]
  by_cases h : b.cps.toList < a.cps.toList
  · exact .inr (fun z => List.lt_irrefl _ (List.lt_trans h z))
  · exact .inl h
theorem leS_trans (a b c : Str) (h1 : leS a b = true) (h2 : leS b c = true) : leS a c = true := by
  rw [leS_iff] at h1 h2 ⊢
  exact fun z => by
    have h1' : a.cps.toList ≤ b.cps.toList := h1
    have h2' : b.cps.toList ≤ c.cps.toList := h2
    exact List.le_trans h1' h2' z
theorem leS_anti {a b : Str} (h1 : leS a b = true) (h2 : leS b a = true) : a = b := by
  rw [leS_iff] at h1 h2
  have e := List.le_antisymm (show a.cps.toList ≤ b.cps.toList from h1) (show b.cps.toList ≤ a.cps.toList from h2)
  obtain ⟨⟨la⟩⟩ := a
  obtain ⟨⟨lb⟩⟩ := b
  simp at e
  rw [e]
def srt (l : List Str) : List Str := l.mergeSort leS
theorem srt_perm (l : List Str) : (srt l).Perm l := List.mergeSort_perm _ _
theorem srt_pw (l : List Str) : (srt l).Pairwise fun a b => leS a b = true := List.pairwise_mergeSort leS_trans leS_total l
theorem pw_rising : ∀ (l : List Str) (p : Str), risingS p l = true → (p :: l).Pairwise fun a b => leS a b = true
  | [], p, _ => List.pairwise_singleton _ _
  | x :: r, p, h => by
    have h' : (leS p x && risingS x r) = true := h
    rw [Bool.and_eq_true] at h'
    have ih := pw_rising r x h'.2
    refine List.pairwise_cons.mpr ⟨fun y hy => ?_, ih⟩
    rcases List.mem_cons.mp hy with z | z
    · rw [z]; exact h'.1
    · exact leS_trans _ _ _ h'.1 ((List.pairwise_cons.mp ih).1 y z)
theorem pw_sortedS : ∀ l : List Str, sortedS l = true → l.Pairwise fun a b => leS a b = true
  | [], _ => List.Pairwise.nil
  | x :: r, h => pw_rising r x h
theorem srt_eq {l ys : List Str} (hp : ys.Perm l) (hs : sortedS ys = true) : ys = srt l :=
  List.Perm.eq_of_pairwise (le := fun a b => leS a b = true) (fun _ _ _ _ h1 h2 => leS_anti h1 h2) (pw_sortedS _ hs) (srt_pw l) (hp.trans (srt_perm l).symm)
/-- sorted(xs), fewer than 64 texts -/
def bSortS (ds : List D) (M : Mem) : Res D := match ds with
  | [d] => match asL M d with
    | some xs => match strsOf xs with
      | some ns => if ns.length < 64 then .ok (.lst ((srt ns).map D.str)) M else .bad
      | none => .bad
    | none => .bad
  | _ => .bad
def txts : List (Key × D) → Option (List Str)
  | [] => some []
  | (.inr x, _) :: r => (txts r).map (x :: ·)
  | _ => none
theorem txts_eq : ∀ {kvs : List (Key × D)} {ks : List Str}, txts kvs = some ks → kvs.map (·.1) = ks.map Sum.inr
  | [], ks, h => by cases h; rfl
  | (.inr x, d) :: r, ks, h => by
    unfold txts at h
    cases e : txts r with
    | none => rw [e] at h; cases h
    | some t =>
      rw [e] at h
      cases h
      simp [txts_eq e]
  | (.inl i, d) :: r, ks, h => by cases h
/-- sorted(d), fewer than 64 keys, texts -/
def bSortD (ds : List D) (M : Mem) : Res D := match ds with
  | [d] => match asK M d with
    | some kvs => match txts kvs with
      | some ns => if ns.length < 64 then .ok (.lst ((srt ns).map D.str)) M else .bad
      | none => .bad
    | none => .bad
  | _ => .bad
section
variable {c : Cn}
theorem post_strs {W : WX} {σ : St} {G : Gd} {H : Hp} {M : Mem} {p : Addr} {ys : List Str} {Q : VK} (r : Rep c G H M) (hp : H p = none) (q : Post c W σ G (DV c) (.ok (.lst (ys.map D.str)) M) Q) : Q (.ref p) (upd H p (.lst (ys.map V.str))) :=
  q _ _ _ (Gr.newF (r.fz.free hp)) (r.newF hp) ⟨p, _, rfl, .inl (.inl upd_same), DVs.ofStrs _⟩
theorem rc_sortS : RCs c bSortS (rSortedS c.K) := by
  intro W σ G H M vs ds Q r q p
  unfold bSortS at p
  split at p
  · split at p
    · rename_i xs hx
      split at p
      · rename_i ns hn
        split at p
        · rename_i hz
          obtain ⟨v, t, rfl, q1, rfl⟩ := q
          obtain ⟨a, us, rfl, s, t⟩ := asL_at r q1 hx
          rw [strsOf_eq hn] at t
          rw [t.strs] at s
          exact ⟨a, ns, rfl, s, hz, fun ys p' hp hs hn' => by rw [srt_eq hp hs]; exact post_strs r hn' p⟩
        · exact p.elim
      · exact p.elim
    · exact p.elim
  · exact p.elim
theorem keys_of {G : Gd} : ∀ {kvs : List (Key × D)} {ws : List (Key × V)}, Paired (KR c G) kvs ws → ws.map (·.1) = kvs.map (·.1)
  | _, _, .nil => rfl
  | _, _, .cons r t => by rw [List.map_cons, List.map_cons, r.1, keys_of t]
theorem rc_sortD : RCs c bSortD (fun xs H Q => ∃ (a : Addr) (kvs : List (Key × V)) (ks : List Str), xs = [.ref a] ∧ Rd H a (.dK kvs) ∧ kvs.map (·.1) = ks.map Sum.inr ∧ ks.length < 64 ∧
    ∀ ys p, ys.Perm ks → sortedS ys = true → H p = none → Q (.ref p) (upd H p (.lst (ys.map V.str)))) := by
  intro W σ G H M vs ds Q r q p
  unfold bSortD at p
  split at p
  · split at p
    · rename_i kvs hx
      split at p
      · rename_i ns hn
        split at p
        · rename_i hz
          obtain ⟨v, t, rfl, q1, rfl⟩ := q
          obtain ⟨a, us, rfl, s, t⟩ := asK_at r q1 hx
          exact ⟨a, us, ns, rfl, s, (keys_of t.pr).trans (txts_eq hn), hz, fun ys p' hp hs hn' => by rw [srt_eq hp hs]; exact post_strs r hn' p⟩
        · exact p.elim
      · exact p.elim
    · exact p.elim
  · exact p.elim
end
section
variable {X : Cx} {W : WX} {p pos : Pos} {e : Expr} {a : AF}
def bSortA := orC bSortS bSortD
theorem qsortS (hg : Gl X "sorted") (hm : X.mg "sorted" = none) (ha : QA X W [e] a) (he : starEach [e] X.env = (false, eval e X.env) :: starEach [] X.env := by rfl) (hpl : (backTo pos (starEach [] X.env)).any (·.1) = false := by rfl) :
    QE X W (.Call (.Name "sorted" p) [e] [] pos) (eCall bSortS a) := q_cb cr_sortedS rc_sortS hg hm ha (by decide +kernel) (by decide) (by decide) he hpl
theorem qsortD (hc : X.calm = true) (hg : Gl X "sorted") (hm : X.mg "sorted" = none) (ha : QA X W [e] a) (he : starEach [e] X.env = (false, eval e X.env) :: starEach [] X.env := by rfl) (hpl : (backTo pos (starEach [] X.env)).any (·.1) = false := by rfl) :
    QE X W (.Call (.Name "sorted" p) [e] [] pos) (eCall bSortD a) := q_cb (call_sortedD hc) rc_sortD hg hm ha (by decide +kernel) (by decide) (by decide) he hpl
theorem qsortA (hc : X.calm = true) (hg : Gl X "sorted") (hm : X.mg "sorted" = none) (ha : QA X W [e] a) (he : starEach [e] X.env = (false, eval e X.env) :: starEach [] X.env := by rfl) (hpl : (backTo pos (starEach [] X.env)).any (·.1) = false := by rfl) :
    QE X W (.Call (.Name "sorted" p) [e] [] pos) (eCall bSortA a) := (qsortS hg hm ha he hpl).call (qsortD hc hg hm ha he hpl)
theorem qlenA (hg : Gl X "len") (hm : X.mg "len" = none) (ha : QA X W [e] a) (he : starEach [e] X.env = (false, eval e X.env) :: starEach [] X.env := by rfl) (hpl : (backTo pos (starEach [] X.env)).any (·.1) = false := by rfl) :
    QE X W (.Call (.Name "len" p) [e] [] pos) (eCall bLenA a) := (qlen hg hm ha he hpl).call (qlenD hg hm ha he hpl)
end
/-! ### repr of None, a truth, an int -/
def bRepr0 (ds : List D) (M : Mem) : Res D := match ds with
  | [.non] => .ok (.str "None") M
  | [.bl b] => .ok (.str (if b then "True" else "False")) M
  | [.int i] => if i.natAbs.log2 < 1920 then .ok (.str (toString i)) M else .bad
  | _ => .bad
def rRepr0 : List V → Hp → VK → Prop := fun xs H Q => (xs = [.non] ∧ Q (.str "None") H) ∨ (∃ b, xs = [.bl b] ∧ Q (.str (if b then "True" else "False")) H) ∨ ∃ i, xs = [.int i] ∧ i.natAbs.log2 < 1920 ∧ Q (.str (toString i)) H
theorem call_repr0 {X : Cx} : CallR X (.builtin "repr") rRepr0 := by
  intro pins s σ H xs us Q I r h
  rcases h with ⟨rfl, q⟩ | ⟨b, rfl, q⟩ | ⟨i, rfl, hz, q⟩
  · obtain ⟨u, rfl, rfl⟩ := vals1 r
    exact PySem.P.repr_of_none ⟨.str _, H, I.tok _, ⟨_, rfl⟩, q⟩
  · obtain ⟨u, rfl, rfl⟩ := vals1 r
    exact PySem.P.repr_of_bool ⟨.str _, H, I.tok _, ⟨_, rfl⟩, q⟩
  · obtain ⟨u, rfl, t, rfl⟩ := vals1 r
    exact PySem.P.repr_of_int hz ⟨.str _, H, I.tok _, ⟨_, rfl⟩, q⟩
theorem rc_repr0 {c : Cn} : RCs c bRepr0 rRepr0 := by
  intro W σ G H M vs ds Q r q p
  unfold bRepr0 at p
  split at p
  · obtain ⟨v, t, rfl, q1, rfl⟩ := q
    cases (show v = _ from q1)
    exact .inl ⟨rfl, p G _ H (Gr.refl _) r rfl⟩
  · exact .inr (.inl ⟨_, DVs.bls (ns := [_]) q, p G _ H (Gr.refl _) r rfl⟩)
  · split at p
    · rename_i hz
      exact .inr (.inr ⟨_, DVs.ints (ns := [_]) q, hz, p G _ H (Gr.refl _) r rfl⟩)
    · exact p.elim
  · exact p.elim
theorem qrepr0 {X : Cx} {W : WX} {p pos : Pos} {e : Expr} {a : AF} (hg : Gl X "repr") (hm : X.mg "repr" = none) (ha : QA X W [e] a) (he : starEach [e] X.env = (false, eval e X.env) :: starEach [] X.env := by rfl) (hpl : (backTo pos (starEach [] X.env)).any (·.1) = false := by rfl) :
    QE X W (.Call (.Name "repr" p) [e] [] pos) (eCall bRepr0 a) := q_cb call_repr0 rc_repr0 hg hm ha (by decide +kernel) (by decide) (by decide) he hpl
/-! ### xs * n -/
def fRep (x y : D) (M : Mem) : Res D := match x with
  | .ptr k => match M[k]? with
    | some (.lst ds) => match y with
      | .int n => if -(2 ^ 63) ≤ n ∧ n < 2 ^ 63 ∧ ds.length * n.toNat ≤ sizeLine then .ok (.lst (List.replicate n.toNat ds).flatten) M else .bad
      | _ => .bad
    | _ => .bad
  | _ => .bad
theorem DVs.rep {c : Cn} {G : Gd} {ds : List D} {vs : List V} (q : DVs c G ds vs) : ∀ n : Nat, DVs c G (List.replicate n ds).flatten (List.replicate n vs).flatten
  | 0 => rfl
  | n + 1 => by
    rw [List.replicate_succ, List.replicate_succ, List.flatten_cons, List.flatten_cons]
    exact q.append (DVs.rep q n)
theorem r2_rep {c : Cn} : R2s c fRep rRep := by
  intro W σ G H M x y dx dy Q r qx qy p
  unfold fRep at p
  split at p
  · rename_i k
    split at p
    · rename_i ds ek
      split at p
      · rename_i n
        split at p
        · rename_i hz
          obtain ⟨a, e1, rfl⟩ := qx
          obtain ⟨vs, hu, q⟩ := r.mem k _ a ek e1
          cases (show y = _ from qy)
          refine ⟨a, n, vs, rfl, rfl, hu, hz.1, hz.2.1, by rw [q.length]; exact hz.2.2, fun p' hp => ?_⟩
          have g := Gr.newF (G := G) (o := .lst (List.replicate n.toNat vs).flatten) (r.fz.free hp)
          exact p _ _ _ g (r.newF hp) ⟨p', _, rfl, .inl (.inl upd_same), (q.rep _).mono g⟩
        · exact p.elim
      · exact p.elim
    · exact p.elim
  · exact p.elim
theorem qrep {X : Cx} {W : WX} {pos : Pos} {a b : Expr} {fa fb : EF} (ha : QE X W a fa) (hb : QE X W b fb) : QE X W (.BinOp a .Mult b pos) (e2 fRep fa fb) := q_op op_rep r2_rep ha hb
/-! ### lists of other lengths -/
def rLen (K : PySem.W.Frag) (v : Bool) : R2 := fun x y H Q => ∃ l b xs ys, x = .ref l ∧ y = .ref b ∧ SqL K H l xs ∧ SqL K H b ys ∧ xs.length ≠ ys.length ∧ Q (.bl v) H
theorem op_eqLen {X : Cx} (hu : X.A.units + 64 < cLine) : OpR X (compareOp .Eq) (rLen X.K false) := by
  intro pins s σ H x y v u Q I rx ry h
  obtain ⟨l, b, xs, ys, rfl, rfl, h1, h2, hz, q⟩ := h
  cases rx
  cases ry
  obtain ⟨its, r1, p1, z1⟩ := I.list h1
  obtain ⟨jts, r2, p2, z2⟩ := I.list h2
  have l1 := r1.length
  have l2 := r2.length
  obtain ⟨⟨c1, d1, a1, s1⟩, o1, e1, n1, f1⟩ := p1.isList
  obtain ⟨⟨c2, d2, a2, s2⟩, o2, e2, n2, f2⟩ := p2.isList
  simp only at e1 f1 e2 f2
  subst e1 f1 e2 f2
  have hne : (its.toArray.size != jts.toArray.size) = true := by
    rw [bne_iff_ne, List.size_toArray, List.size_toArray]
    omega
  exact wpAny_richCompare_same_room (op := .Eq) ⟨_, o1, rfl⟩ ⟨_, o2, rfl⟩ PySem.F.slot_list_eq (call_meets PySem.F.slot_list_eq ⟨_, o1, rfl⟩ PySem.F.entry_list_eq (PySem.F.args_list_eq_2 _ _) (SeqAt.list_eq_lengthsAt l b its.toArray jts.toArray n1 n2 _ _ _ _ hne)
    ⟨o1, o2, show Value.bool false ≠ Value.notImplemented ∧ EP X pins σ Q (.bool false) s from ⟨(fun x => nomatch x), .bl false, H, I, rfl, q⟩⟩) (by omega)
def fEqLen (x y : D) (M : Mem) : Res D := match asL M x, asL M y with
  | some xs, some ys => if xs.length ≠ ys.length then .ok (.bl false) M else .bad
  | _, _ => .bad
theorem r2_eqLen {c : Cn} : R2s c fEqLen (rLen c.K false) := by
  intro W σ G H M x y dx dy Q r qx qy p
  unfold fEqLen at p
  split at p
  · rename_i xs ys hx hy
    split at p
    · rename_i hz
      obtain ⟨a, us, rfl, s1, t1⟩ := asL_at r qx hx
      obtain ⟨b, ws, rfl, s2, t2⟩ := asL_at r qy hy
      exact ⟨a, b, us, ws, rfl, rfl, s1, s2, by rw [t1.length, t2.length]; exact hz, p G _ H (Gr.refl _) r rfl⟩
    · exact p.elim
  · exact p.elim
def fEqA := or2 fEq fEqLen
section
variable {X : Cx} {W : WX} {pos : Pos} {a b : Expr} {fa fb : EF}
theorem qeqA (hu : X.A.units + 64 < cLine) (ha : QE X W a fa) (hb : QE X W b fb) : QE X W (.Compare a [.Eq] [b] pos) (e2 fEqA fa fb) := (qeq hu ha hb).e2 (q_cmp (op_eqLen hu) r2_eqLen (nomark _) ha hb)
theorem tEqA (hu : X.A.units + 64 < cLine) (ha : QE X W a fa) (hb : QE X W b fb) : QT X W (.Compare a [.Eq] [b] pos) (bV (e2 fEqA fa fb)) := (tEq hu ha hb).e2 (qt_cmp (op_eqLen hu) r2_eqLen (nomark _) ha hb)
end
end QL
end
section
set_option Elab.async false
set_option linter.all false
set_option maxRecDepth 100000
set_option maxHeartbeats 4000000
set_option autoImplicit false
/-! QIs: is None, is not None. -/
namespace QL
open PySem PySem.Spec L2
open Classical
theorem un1 {n : Nat} (h : n + 64 < cLine) : n + 1 < cLine := by omega
def isNo (x : D) : Option Bool := match x with
  | .non => some true
  | .raw _ => none
  | _ => some false
def fIs0 (x y : D) (M : Mem) : Res D := match y with
  | .non => match isNo x with
    | some b => .ok (.bl b) M
    | none => .bad
  | _ => .bad
def fNot0 (x y : D) (M : Mem) : Res D := match y with
  | .non => match isNo x with
    | some b => .ok (.bl (!b)) M
    | none => .bad
  | _ => .bad
theorem isNo_at {c : Cn} {G : Gd} {d : D} {v : V} {b : Bool} (h : isNo d = some b) (q : DV c G d v) : decide (v = .non) = b := by
  by_cases e : d = .non
  · subst e
    cases (show v = _ from q)
    cases h
    rfl
  · by_cases r : ∃ u, d = .raw u
    · obtain ⟨u, rfl⟩ := r
      cases h
    · have n := DV.notNon e (fun u z => r ⟨u, z⟩) q
      have hb : b = false := by
        cases d <;> first | (cases h; rfl) | (exact absurd rfl e) | (exact absurd ⟨_, rfl⟩ r)
      rw [hb]
      exact decide_eq_false n
theorem r2_is0 {c : Cn} : R2s c fIs0 (fun x y H Q => y = .non ∧ Q (.bl (decide (x = .non))) H) := by
  intro W σ G H M x y dx dy Q r qx qy p
  unfold fIs0 at p
  split at p
  · split at p
    · rename_i b hb
      cases (show y = _ from qy)
      exact ⟨rfl, by rw [isNo_at hb qx]; exact p G _ H (Gr.refl _) r rfl⟩
    · exact p.elim
  · exact p.elim
theorem r2_not0 {c : Cn} : R2s c fNot0 (fun x y H Q => y = .non ∧ Q (.bl (!decide (x = .non))) H) := by
  intro W σ G H M x y dx dy Q r qx qy p
  unfold fNot0 at p
  split at p
  · split at p
    · rename_i b hb
      cases (show y = _ from qy)
      exact ⟨rfl, by rw [isNo_at hb qx]; exact p G _ H (Gr.refl _) r rfl⟩
    · exact p.elim
  · exact p.elim
section
variable {X : Cx} {W : WX} {pos : Pos} {a b : Expr} {fa fb : EF}
theorem qis (ha : QE X W a fa) (hb : QE X W b fb) : QE X W (.Compare a [.Is] [b] pos) (e2 fIs0 fa fb) := q_cmp op_isN r2_is0 (nomark _) ha hb
theorem qisnot (ha : QE X W a fa) (hb : QE X W b fb) : QE X W (.Compare a [.IsNot] [b] pos) (e2 fNot0 fa fb) := q_cmp op_notN r2_not0 (nomark _) ha hb
theorem tis (ha : QE X W a fa) (hb : QE X W b fb) : QT X W (.Compare a [.Is] [b] pos) (bV (e2 fIs0 fa fb)) := qt_cmp op_isN r2_is0 (nomark _) ha hb
theorem tisnot (ha : QE X W a fa) (hb : QE X W b fb) : QT X W (.Compare a [.IsNot] [b] pos) (bV (e2 fNot0 fa fb)) := qt_cmp op_notN r2_not0 (nomark _) ha hb
end
end QL
end
section
set_option Elab.async false
set_option linter.all false
set_option maxRecDepth 100000
set_option maxHeartbeats 4000000
set_option autoImplicit false
/-! QSet: sets of texts: made of a list, put in order. -/
namespace QL
open PySem PySem.Spec L2
open Classical
open PySem.Froz (SD sObj TxOk addTx tailTx)
/-- the different ones, each where it first stands -/
def addNew (acc : List Str) (x : Str) : List Str := if x ∈ acc then acc else x :: acc
def dedup (l : List Str) : List Str := l.foldl addNew []
theorem addNew_nodup {acc : List Str} {x : Str} (h : acc.Nodup) : (addNew acc x).Nodup := by
  unfold addNew
  split
  · exact h
  · rename_i hx
    exact List.nodup_cons.mpr ⟨hx, h⟩
theorem addNew_mem {acc : List Str} {x y : Str} : y ∈ addNew acc x ↔ y = x ∨ y ∈ acc := by
  unfold addNew
  split
  · rename_i hx
    exact ⟨.inr, fun z => z.elim (fun e => e ▸ hx) id⟩
  · exact List.mem_cons
theorem addNew_len {acc : List Str} {x : Str} : (addNew acc x).length ≤ acc.length + 1 := by
  unfold addNew
  split
  · omega
  · exact Nat.le_refl _
theorem fold_nodup : ∀ (l acc : List Str), acc.Nodup → (l.foldl addNew acc).Nodup
  | [], _, h => h
  | x :: r, _, h => fold_nodup r _ (addNew_nodup h)
theorem fold_mem {y : Str} : ∀ (l acc : List Str), y ∈ l.foldl addNew acc ↔ y ∈ l ∨ y ∈ acc
  | [], acc => by simp
  | x :: r, acc => by
    show y ∈ r.foldl addNew (addNew acc x) ↔ _
    rw [fold_mem r, addNew_mem, List.mem_cons]
    exact ⟨fun z => by rcases z with z | z | z; exact .inl (.inr z); exact .inl (.inl z); exact .inr z, fun z => by rcases z with (z | z) | z; exact .inr (.inl z); exact .inl z; exact .inr (.inr z)⟩
theorem dedup_nodup (l : List Str) : (dedup l).Nodup := fold_nodup l [] List.nodup_nil
theorem mem_dedup {l : List Str} {y : Str} : y ∈ dedup l ↔ y ∈ l := by
  unfold dedup
  rw [fold_mem]
  simp
theorem perm_of_all {α : Type} [DecidableEq α] : ∀ {l m : List α}, l.Nodup → (∀ x ∈ l, x ∈ m) → m.length ≤ l.length → m.Perm l
  | [], m, _, _, h => by
    have : m = [] := List.length_eq_zero_iff.mp (Nat.le_zero.mp h)
    rw [this]
  | a :: t, m, n, s, h => by
    obtain ⟨na, nt⟩ := List.nodup_cons.mp n
    have ha := s a List.mem_cons_self
    have p : m.Perm (a :: m.erase a) := List.perm_cons_erase ha
    have ih := perm_of_all (l := t) (m := m.erase a) nt (fun x hx => (List.mem_erase_of_ne (fun e : x = a => na (by rw [← e]; exact hx))).mpr (s x (List.mem_cons_of_mem _ hx))) (by
      have := p.length_eq
      simp only [List.length_cons] at this h
      omega)
    exact p.trans (ih.cons a)

/-! ### the object -/
structure TxS (P : Program) (w : World) (h : Heap) (a : Addr) (D : SD) (l : List Str) : Prop where
  ob : h.get? a = some (sObj "set" D)
  tx : TxOk P w D l
  nd : l.Nodup
  ri : Ris D.2.2.place.toList
  ld : w.params.followText "set-order" = true ∨ D.2.2.led = true
theorem tail_keeps {ep : Nat} {es1 : Array (Int × Value)} {t2 : SetTable} {wd : Bool} {q : Prop} (r : Ris t2.place.toList) (l : q ∨ t2.led = true) : Ris (tailTx ep es1 t2 wd).2.2.place.toList ∧ (q ∨ (tailTx ep es1 t2 wd).2.2.led = true) := by
  unfold tailTx
  split
  · exact ⟨relayAll_ris t2 es1 _, l.imp id fun z => by show (relayAll t2 es1 _).2.1.led = true; rw [relayAll_led]; exact z⟩
  · exact ⟨r, l⟩
theorem add_keeps {D : SD} {hh : Int} {v : Value} {q : Prop} (r : Ris D.2.2.place.toList) (l : q ∨ D.2.2.led = true) : Ris (addTx hh v D).2.2.place.toList ∧ (q ∨ (addTx hh v D).2.2.led = true) := by
  have r1 := layNew_ris D.2.2 D.1 hh v r
  have l1 : q ∨ (layNew D.2.2 D.1 hh v).2.1.led = true := l.imp id fun z => by rw [layNew_led]; exact z
  unfold addTx
  refine tail_keeps ?_ ?_
  · split <;> exact r1
  · split <;> exact l1
section
variable {P : Program} {w : World} {A : Around} {E : Value → Shared → Prop} {s : Shared} {a : Addr} {D : SD} {l : List Str}
theorem get_const {h : Heap} {o X : Obj} (ho : h.get? a = some o) (hf : X.isFreed = false) : (h.update a fun _ => X).get? a = some X := Heap.get?_update_self (fun _ => X) ho (by rw [hf])
/-- one more text -/
theorem txs_add {k : Str} {u : Tok} {Q : Bool → Shared → Prop} (R : TxS P w s.heap a D l) (hb : l.length + 1 < scanBound)
    (hQ : ∀ h' D' r, Heap.SameBut a s.heap h' → TxS P w h' a D' (addNew l k) → Q r { s with heap := h' }) : wpAny (model P w) A (setAddHashed a (.str k u) (hashStr w k)) Q E s := by
  by_cases hk : k ∈ l
  · obtain ⟨es, ep, t⟩ := D
    have hd : (sObj "set" (es, ep, t)).data = .set es ep t := rfl
    have sz : es.size = l.length := R.tx.sz
    have el : ElemsOf (strKind P w) es.toList := R.tx.el
    have ft : t.fits es.size = true := R.tx.fit
    have ik : (strKind P w).is k (.str k u) = true := PySem.Froz.is_str k u
    obtain ⟨e0, he0, hp0⟩ := (R.tx.mem k).mp hk
    have hne : List.findIdx? (fun e => (strKind P w).is k e.2) es.toList ≠ none := fun z => by
      have := List.findIdx?_eq_none_iff.mp z e0 he0
      rw [hp0] at this
      cases this
    obtain ⟨j, hj⟩ := Option.ne_none_iff_exists'.mp hne
    unfold setAddHashed setAddHashedIn
    refine wpAny_holding (wpAny_bind (wpAny_setState_of R.ob hd ft ?_))
    dsimp only
    rw [byScan_of rfl (by rw [sz]; omega) el]
    simp only [↓reduceIte]
    unfold setAddByScan
    refine wpAny_bind (wpAny_bind (wpAny_rule (wpAny_bind (wpAny_setScan_of ik R.ob hd ft el ?_))))
    rw [hj]
    dsimp only
    refine wpAny_pure (wpAny_pure ?_)
    have q := hQ s.heap (es, ep, t) false (Heap.SameBut.refl a s.heap)
    rw [show addNew l k = l from if_pos hk] at q
    exact q R
  · refine PySem.Froz.add_x R.ob R.tx hk hb ?_
    have kp := add_keeps (hh := hashStr w k) (v := .str k u) R.ri R.ld
    refine hQ _ (addTx (hashStr w k) (.str k u) D) true (Heap.SameBut.update s.heap a _) ⟨get_const R.ob rfl, ?_, ?_, kp.1, kp.2⟩
    · rw [show addNew l k = k :: l from if_neg hk]
      exact PySem.Froz.add_ok u R.tx
    · exact addNew_nodup R.nd
theorem TxS.at {h h' : Heap} (R : TxS P w h a D l) (k : ∀ o, h.get? a = some o → h'.get? a = some o) : TxS P w h' a D l := ⟨k _ R.ob, R.tx, R.nd, R.ri, R.ld⟩
theorem fold_len : ∀ (ms acc : List Str), (ms.foldl addNew acc).length ≤ acc.length + ms.length
  | [], acc => Nat.le_refl _
  | x :: r, acc => by
    have h1 := fold_len r (addNew acc x)
    have h2 := addNew_len (acc := acc) (x := x)
    show (r.foldl addNew (addNew acc x)).length ≤ acc.length + (r.length + 1)
    omega
/-- the walk that fills the set: what is left of the list is put in one after another -/
theorem fill_set {J : Addr} {fp wr : List Addr} {Gn : Array GenState → Array GenState → Prop} {n : Nat} {Pv : Nat → Value → Prop} {St : Nat → Shared → Prop} {R : Result → Shared → Prop}
    (W : WalksS P w A.in1 J fp wr Gn n Pv St) (Z : Addr) (hZ : Z ∉ fp) (xs : List Str) (hn : n = xs.length) (hb : xs.length + 1 < scanBound) (hv : ∀ i v, Pv i v → ∃ x t, xs[i]? = some x ∧ v = .str x t) :
    ∀ (m i : Nat) (s : Shared) (D : SD), m + i = n → St i s → TxS P w s.heap Z D (dedup (xs.take i)) →
      (∀ s' D', Moved (Z :: wr) Gn s s' → TxS P w s'.heap Z D' (dedup xs) → R (.ok (.ret .none)) s') → codeAny (model P w) A (.builtin "set.update.loop" ⟨[.ref Z, .ref J], []⟩) R s := by
  have Zw : Z ∉ wr := fun z => hZ (W.sub _ z)
  have more : ∀ b ∈ wr, b ∈ Z :: wr := fun b z => List.mem_cons_of_mem _ z
  intro m
  induction m with
  | zero =>
    intro i s D hm hst T hR
    have ei : i = n := by omega
    subst ei
    refine codeAny_builtin PyProof.Rows.F.entry_set_update_loop ?_
    rw [Around.under_plainId PyProof.Rows.F.plain_set_update_loop _]
    refine wpAny_bind (m := pyNext (.ref J)) (W.done s _ _ hst fun s' mv => ?_)
    rw [List.take_of_length_le (by omega)] at T
    exact wpAny_pure (hR s' D (mv.mono more) (T.at fun o e => mv.heap Z o Zw e))
  | succ m ih =>
    intro i s D hm hst T hR
    have lt : i < n := by omega
    refine codeAny_builtin PyProof.Rows.F.entry_set_update_loop ?_
    rw [Around.under_plainId PyProof.Rows.F.plain_set_update_loop _]
    refine wpAny_bind (m := pyNext (.ref J)) (W.item i s _ _ lt hst fun v s' pv hst' mv => ?_)
    obtain ⟨x, t, ex, rfl⟩ := hv i v pv
    have T' := T.at (h' := s'.heap) fun o e => mv.heap Z o Zw e
    have dl : (dedup (xs.take i)).length + 1 < scanBound := by
      have h1 := fold_len (xs.take i) []
      have h2 : (xs.take i).length ≤ xs.length := by rw [List.length_take]; omega
      unfold dedup
      simp only [List.length_nil] at h1
      omega
    refine wpAny_bind (m := holding [Value.str x t] (setAdd Z (.str x t))) (wpAny_holding ?_)
    unfold setAdd
    refine wpAny_holding (wpAny_bind ((strKind P w).pyHash (k := x) (PySem.Froz.is_str x t) ?_))
    refine txs_add (s := { s' with toks := s'.toks + 1 }) T' dl fun h' D' b sb T2 => ?_
    have T3 : TxS P w h' Z D' (dedup (xs.take (i + 1))) := by
      have e : dedup (xs.take (i + 1)) = addNew (dedup (xs.take i)) x := by
        rw [List.take_add_one, ex]
        unfold dedup
        rw [List.foldl_append]
        rfl
      rw [e]
      exact T2
    refine wpAny_pure ⟨plainId_quiet PyProof.Rows.F.plain_set_update_loop _, ih (i + 1) _ D' (by omega) (W.frame _ s' _ _ hst' (Nat.le_succ _) fun b hb o e => ?_) T3 fun s2 D2 mv2 T4 => ?_⟩
    · exact (sb.2 b fun z => hZ (z ▸ hb)).trans e
    · exact hR s2 D2 (Moved.trans W.gtrans ((mv.mono more).then_heap (Nat.le_succ _) fun b o nb e => (sb.2 b fun z => nb (by rw [z]; exact List.mem_cons_self)).trans e) mv2) T4
theorem fresh_set {h : Heap} {Z : Addr} (ho : h.get? Z = some { cls := .type "set", dict := none, data := .set #[] 0 (.fresh 0 0 (!w.params.followText "set-order")) }) : TxS P w h Z (#[], 0, .fresh 0 0 (!w.params.followText "set-order")) [] :=
  ⟨ho, PySem.Froz.TxOk.nil (by rfl), List.nodup_nil, List.Pairwise.nil, by
    show _ ∨ (!w.params.followText "set-order") = true
    cases w.params.followText "set-order" <;> simp⟩
theorem strs_get : ∀ {us : List Value} {xs : List Str}, PyProof.Rows.StrsAre us xs → ∀ (i : Nat) (v : Value), us[i]? = some v → ∃ x t, xs[i]? = some x ∧ v = .str x t
  | _, _, .nil, i, v, h => by simp at h
  | _, _, .cons n t hr, 0, v, h => ⟨n, t, rfl, (Option.some.inj h).symm⟩
  | _, _, .cons n t hr, i + 1, v, h => strs_get hr i v h
/-- set(xs), xs a list of texts -/
theorem call_setL {p : Addr} {its : Array Value} {xs : List Str} {Q : Value → Shared → Prop} (hA : A.handled = none) (hp : s.heap.IsList p its) (hx : PyProof.Rows.StrsAre its.toList xs) (hb : xs.length + 1 < scanBound)
    (hQ : ∀ h' tk D', TxS P w h' s.heap.objs.size D' (dedup xs) → (∀ b o, s.heap.get? b = some o → h'.get? b = some o) → Q (.ref s.heap.objs.size) { s with heap := h', toks := tk }) : wpAny (model P w) A (call (.type "set") [.ref p]) Q E s := by
  have sz : its.size = xs.length := by
    have q := PyProof.Rows.StrsAre.len_eq hx
    rw [Array.length_toList] at q
    exact q
  obtain ⟨c, tl, mro⟩ := PySem.F.called_set.mro
  have made := PySem.F.called_set.made
  have sub := PySem.F.called_set.sub
  refine wpAny_call (codeAny_of_tree ?_)
  show wpAny _ _ (callAny (.type "set") _) _ _ _
  refine wpAny_pure ⟨Code.quiet_builtin _ (by decide +kernel), codeAny_builtin PySem.F.entry_type_call ?_⟩
  rw [Around.under_plain (weight_type_call_type "set" [.ref p] []) rfl]
  have n1 := PySem.F.called_set.notType
  have n2 := PySem.F.called_set.canCreate
  have n3 := PySem.F.typeCall_set_1 (.ref p)
  repeat (any_goals (first | assumption | wp_step))

  refine codeAny_mono (L2.code_set_led1 (.ref p) (E := E) (Q₁ := fun z s1 => z = .ref s.heap.objs.size ∧ s1 = { s with heap := s.heap.push { cls := .type "set", dict := none, data := .set #[] 0 (.fresh 0 0 (!w.params.followText "set-order")) } }) ⟨rfl, rfl⟩) fun r s1 hr => ?_
  cases r with
  | error e => exact hr
  | ok fl =>
    cases fl with
    | ret z =>
      obtain ⟨rfl, rfl⟩ := hr
      generalize eO : ({ cls := .type "set", dict := none, data := .set #[] 0 (.fresh 0 0 (!w.params.followText "set-order")) } : Obj) = O
      have hO : (s.heap.push O).get? s.heap.objs.size = some O := Heap.get?_push_size _ (by rw [← eO]; rfl)
      have hT : Shared.TypeIs { s with heap := s.heap.push O } (.ref s.heap.objs.size) "set" := ⟨_, hO, by rw [← eO]⟩
      have i1 := PySem.F.called_set.init.lookup
      have i2 := PySem.F.called_set.init.bind (.ref s.heap.objs.size)
      repeat (any_goals (first | assumption | wp_step))

      refine codeAny_mono (codeAny_call_builtin (R := wants (fun r s2 => r = .none ∧ ∃ h' tk D', s2 = { s with heap := h', toks := tk } ∧ TxS P w h' s.heap.objs.size D' (dedup xs) ∧ (∀ b o, s.heap.get? b = some o → h'.get? b = some o)) E) PySem.F.called_set.init.plain PySem.F.entry_set_init (check_set_init_1 hT ?_)) fun r2 s2 hr2 => ?_
      · obtain ⟨⟨k1, k2, k3, k4⟩, hob, hcl, m, hdat⟩ := hp
        simp only at hcl hdat
        subst hcl
        subst hdat
        have hlt : p < s.heap.objs.size := Heap.lt_size hob
        have hob' : (s.heap.push O).get? p = some { cls := .type "list", dict := k2, data := .seq its m, slots := k4 } := Heap.get?_push_of_some _ hob
        have t1 := PySem.F.sub_list_set
        have t2 := PySem.F.sub_list_frozenset
        have t3 : (Value.type "list" == Value.type "dict") = false := by decide
        have isl : (s.heap.push O).IsList p its := ⟨_, hob', rfl, m, rfl⟩
        subst eO
        unfold Builtin.«set.__init__» noKeywords Builtin.Frozenset.updateFrom
        generalize ePI : pyIter = PI
        wp_walk
        subst ePI

        refine wpAny_pyIter_list isl ?_
        refine wpAny_bind (wpAny_runValue ?_)
        have hA3 : A.in1.in1.in1.handled = none := by simp [hA]
        have pz : (s.heap.push { cls := .type "set", dict := none, data := .set #[] 0 (.fresh 0 0 (!w.params.followText "set-order")) }).objs.size = s.heap.objs.size + 1 := Heap.size_push ..
        have nJ : p ≠ (s.heap.push { cls := .type "set", dict := none, data := .set #[] 0 (.fresh 0 0 (!w.params.followText "set-order")) }).objs.size := by rw [Heap.size_push]; exact Nat.ne_of_lt (Nat.lt_succ_of_lt hlt)
        have nZ : s.heap.objs.size ∉ [(s.heap.push { cls := .type "set", dict := none, data := .set #[] 0 (.fresh 0 0 (!w.params.followText "set-order")) }).objs.size, p] := by
          rw [List.mem_cons, List.mem_singleton, Heap.size_push]
          exact fun z => z.elim (Nat.ne_of_lt (Nat.lt_succ_self _)) (Nat.ne_of_gt hlt)
        refine fill_set ((Walks.list hA3 _ p nJ its).toS) s.heap.objs.size nZ xs sz hb (fun i v hv => ?_) (its.size - 0) 0 _ (#[], 0, .fresh 0 0 (!w.params.followText "set-order")) (by omega) ⟨⟨_, Heap.get?_push_size _ rfl, rfl, rfl⟩, isl.push _⟩ ?z0 ?z1
        · exact strs_get hx i v (by rw [Array.getElem?_toList]; exact hv)
        case z0 =>
          exact fresh_set (Heap.get?_push_of_some _ hO)
        case z1 =>
          intro s' D' mv T
          obtain ⟨h', g', d', tk', os'⟩ := s'
          have eg : g' = s.gens := mv.gens
          have ed : d' = s.drawn := mv.drawn
          have eo : os' = s.os := mv.os
          subst eg
          subst ed
          subst eo
          show wpAny _ _ _ _ _ _
          refine wpAny_pure ?_
          show wpAny _ _ (ret Value.none) _ _ _
          refine wpAny_pure ⟨rfl, h', tk', D', rfl, T, fun b o e => ?_⟩
          have hb0 : b < s.heap.objs.size := Heap.lt_size e
          exact mv.heap b o (by rw [List.mem_cons, List.mem_singleton, Heap.size_push]; exact fun z => z.elim (Nat.ne_of_lt hb0) (Nat.ne_of_lt (Nat.lt_succ_of_lt hb0))) (Heap.get?_push_of_some _ (Heap.get?_push_of_some _ e))
      · cases r2 with
        | error e => exact hr2
        | ok fl2 =>
          cases fl2 with
          | ret r =>
            obtain ⟨rfl, h', tk, D', rfl, T, kp⟩ := hr2
            repeat (any_goals (first | assumption | wp_step))
            exact hQ _ _ _ T kp
          | _ => exact hr2.elim
    | _ => exact hr.elim
end
end QL
end
section
set_option Elab.async false
set_option linter.all false
set_option maxRecDepth 100000
set_option maxHeartbeats 4000000
set_option autoImplicit false
/-! QSet2: sorted(set(xs)). -/
namespace QL
open PySem PySem.Spec L2
open Classical
open PyProof.Rows (seqObj StrsAre strKind_oneLt keyKind_strs sorted_out_str sortedHeap_at sortedHeap_old arrOf list_sort_treeK)
open PySem.Froz (SD sObj TxOk)
def SetT (P : Program) (w : World) (a : Addr) (l : List Str) : HO := .ext fun h => ∃ D, TxS P w h a D l
theorem setT_ok {P : Program} {w : World} {H : Hp} {h : Heap} {a : Addr} {D : SD} {l : List Str} (T : TxS P w h a D l) : ObjOk P w H h a (SetT P w a l) :=
  ⟨⟨D, T⟩, ⟨_, T.ob⟩, fun h1 h2 ⟨D1, T1⟩ k => ⟨D1, T1.at k⟩⟩
section
variable {X : Cx}
theorem call_setS (hc : X.calm = true) : CallR X (.type "set") (fun xs H Q => ∃ p ys, xs = [.ref p] ∧ SqL X.K H p (ys.map V.str) ∧ ys.length + 1 < scanBound ∧ ∀ a, H a = none → Q (.ref a) (upd H a (SetT X.prog X.w a (dedup ys)))) := by
  intro pins s σ H xs us Q I r h
  obtain ⟨p, ys, rfl, hs, hz, q⟩ := h
  obtain ⟨its, rv, hl, _⟩ := I.list hs
  rw [Vals.ref1 r]
  refine call_setL (I.ok.hd hc) hl.isList (by simpa using strsAre_of rv) hz fun h' tk D' T kp => ?_
  exact ⟨.ref s.heap.objs.size, _, I.laid (t' := tk) kp (Nat.le_refl _) (setT_ok T), rfl, q _ (I.hok.fresh (Nat.le_refl _))⟩
/-- what a walk over the set gives: its texts, in some order -/
theorem outs_strs {P : Program} {w : World} : ∀ {l : List (Int × Value)}, ElemsOf (strKind P w) l → ∃ ks, StrsAre (l.map (·.2)) ks ∧ ∀ k, k ∈ ks ↔ ∃ e ∈ l, (strKind P w).is k e.2 = true
  | [], _ => ⟨[], .nil, fun k => by simp⟩
  | e :: l, h => by
    obtain ⟨ks, h1, h2⟩ := outs_strs (l := l) fun x hx => h x (List.mem_cons_of_mem _ hx)
    obtain ⟨⟨k, hk, _⟩, _⟩ := h e List.mem_cons_self
    obtain ⟨t, et⟩ := Value.isStrOf_shape (x := k) (v := e.2) hk
    refine ⟨k :: ks, by rw [List.map_cons, et]; exact .cons k t h1, fun k' => ?_⟩
    rw [List.mem_cons, h2 k']
    constructor
    · rintro (z | ⟨e', he', z⟩)
      · exact ⟨e, List.mem_cons_self, by rw [z]; exact hk⟩
      · exact ⟨e', List.mem_cons_of_mem _ he', z⟩
    · rintro ⟨e', he', z⟩
      rcases List.mem_cons.mp he' with y | y
      · subst y
        exact .inl ((strKind P w).inj _ _ _ z hk)
      · exact .inr ⟨e', y, z⟩
theorem strs_perm : ∀ {us vs : List Value} {ks : List Str}, us.Perm vs → StrsAre vs ks → ∃ js, StrsAre us js ∧ js.Perm ks := by
  intro us vs ks p
  induction p generalizing ks with
  | nil => intro h; exact ⟨ks, h, List.Perm.refl _⟩
  | cons x _ ih =>
    intro h
    cases h with
    | cons n t hr =>
      obtain ⟨js, a, b⟩ := ih hr
      exact ⟨n :: js, .cons n t a, b.cons n⟩
  | swap x y l =>
    intro h
    cases h with
    | cons n t hr =>
      cases hr with
      | cons n2 t2 hr2 => exact ⟨n2 :: n :: _, .cons n2 t2 (.cons n t hr2), List.Perm.swap _ _ _⟩
  | trans _ _ ih1 ih2 =>
    intro h
    obtain ⟨js, a, b⟩ := ih2 h
    obtain ⟨is, c, d⟩ := ih1 a
    exact ⟨is, c, d.trans b⟩
theorem call_sortT (hc : X.calm = true) : CallR X (.builtin "sorted") (fun xs H Q => ∃ a l, xs = [.ref a] ∧ H a = some (SetT X.prog X.w a l) ∧ l.length < 64 ∧ ∀ ys p, ys.Perm l → PyProof.Rows.sortedS ys = true → H p = none → Q (.ref p) (upd H p (.lst (ys.map V.str)))) := by
  intro pins s σ H xs us Q I r h
  obtain ⟨a, l, rfl, ha, hz, q⟩ := h
  rw [Vals.ref1 r]
  obtain ⟨D, T⟩ := (I.hok a _ ha).1
  obtain ⟨es, ep, t⟩ := D
  have sz : es.size = l.length := T.tx.sz
  have sb : es.size < scanBound := by rw [sz]; exact Nat.lt_of_lt_of_le hz (by decide)
  refine Calls.call_function_entry PyProof.Rows.kind_sorted PyProof.Rows.plain_sorted PyProof.Rows.entry_sorted (PyProof.Rows.args_sorted1 _) ?_
  unfold Builtin.«sorted»
  refine wpAny_bind (m := checkCount "sorted" 1 1 _) (wpAny_pure ?_)
  refine wpAny_bind (collect_set (A := X.A.in1) (I.ok.hd hc) ⟨_, T.ob, rfl, rfl⟩ T.tx.fit sb T.ri T.ld fun s1 out k1 zs g1 o1 pm => ?_)
  obtain ⟨ks, e1, e2⟩ := outs_strs (P := X.prog) (w := X.w) (l := es.toList) T.tx.el
  obtain ⟨js, hS, pj⟩ := strs_perm pm e1
  have lo : out.length = l.length := by rw [pm.length_eq, List.length_map, Array.length_toList]; exact sz
  have lj : js.length = out.length := (PyProof.Rows.StrsAre.len_eq hS).symm
  have pl : js.Perm l := perm_of_all T.nd (fun x hx => pj.mem_iff.mpr ((e2 x).mpr ((T.tx.mem x).mp hx))) (by omega)
  refine wpAny_bind (wpAny_newList ?_ (by rw [lo, sizeLine_eq]; omega))
  have hoL : (s1.heap.push (seqObj "list" out.toArray 0)).get? s1.heap.objs.size = some (seqObj "list" out.toArray 0) := Heap.get?_push_size _ rfl
  show wpAny _ _ _ _ _ { s1 with heap := s1.heap.push (seqObj "list" out.toArray 0) }
  refine wpAny_bind (wpAny_holding (wpAny_call_entry PyProof.Rows.slot_list_sort ⟨_, hoL, rfl⟩ PyProof.Rows.entry_list_sort
    (list_sort_treeK strKind_oneLt (s := { s1 with heap := s1.heap.push (seqObj "list" out.toArray 0) }) hoL hS.keysOf (fun v1 v2 rest e => keyKind_strs (by rw [← e]; exact hS)) (by rw [lo]; exact hz) fun st' hp hs => ⟨_, rfl, ?_⟩) (PyProof.Rows.args_list_sort _)))
  obtain ⟨ys, y1, y2, y3⟩ := sorted_out_str hS hp hs
  obtain ⟨e', he'⟩ := sortedHeap_at (vs := out) (out := (arrOf st').map (·.2)) hoL
  have hlen : (ys.map V.str).length ≤ sizeLine := by
    rw [List.length_map, y2.length_eq, lj, lo]
    exact small64 hz
  have np : H s1.heap.objs.size = none := I.hok.fresh zs
  have kk : ∀ b o, s.heap.get? b = some o → (PyProof.Rows.sortedHeap (s1.heap.push (seqObj "list" out.toArray 0)) s1.heap.objs.size out ((arrOf st').map (·.2))).get? b = some o := fun b o e => by
    have e1 := k1 b o e
    have lt := Heap.lt_size e1
    rw [sortedHeap_old (Nat.ne_of_lt lt) (by rw [Heap.size_push]; exact Nat.lt_succ_of_lt lt)]
    exact Heap.get?_push_of_some _ e1
  have J : Inv X pins σ (upd H s1.heap.objs.size (.lst (ys.map V.str))) { s with heap := PyProof.Rows.sortedHeap (s1.heap.push (seqObj "list" out.toArray 0)) s1.heap.objs.size out ((arrOf st').map (·.2)), gens := s1.gens, drawn := s1.drawn, toks := s1.toks } :=
    I.call (ch := []) (Un.laid kk zs np) (I.hok.laid kk zs ⟨hlen, ((arrOf st').map (·.2)).toList, e', vals_of_strs y1, by rw [Array.toArray_toList]; exact he'⟩) (by rw [g1]; exact I.bare) (fun _ z => nomatch z)
  refine wpAny_pure ⟨_, rfl, ?_⟩
  have es1 : s1.os = s.os := o1
  refine ⟨.ref s1.heap.objs.size, _, ?_, rfl, q ys _ (y2.trans pl) y3 np⟩
  rw [← es1] at J
  exact J
end
/-- sorted(set(xs)), xs a list of texts, fewer than 64 different ones -/
noncomputable def ssR (r : Res D) : Res D := r.bind fun d M1 => match asL M1 d with
  | some xs => match strsOf xs with
    | some ns => if ns.length + 1 < scanBound ∧ (dedup ns).length < 64 then .ok (.lst ((srt (dedup ns)).map D.str)) M1 else .bad
    | none => .bad
  | none => .bad
noncomputable def eSortSet (e : EF) : EF := fun S M => ssR (e S M)
theorem qsortSet {X : Cx} {W : WX} {p p2 pos pos2 : Pos} {e : Expr} {fe : EF} (hc : X.calm = true) (hu : X.A.units + 64 < cLine) (hg : Gl X "sorted") (hm : X.mg "sorted" = none) (hg2 : Gl X "set") (hm2 : X.mg "set" = none) (he : QE X W e fe)
    (h1 : starEach [e] X.env = (false, eval e X.env) :: starEach [] X.env := by rfl)
    (h2 : starEach [.Call (.Name "set" p2) [e] [] pos2] X.env = (false, eval (.Call (.Name "set" p2) [e] [] pos2) X.env) :: starEach [] X.env := by rfl) (hp1 : (backTo pos2 (starEach [] X.env)).any (·.1) = false := by rfl) (hp2 : (backTo pos (starEach [] X.env)).any (·.1) = false := by rfl) :
    QE X W (.Call (.Name "sorted" p) [.Call (.Name "set" p2) [e] [] pos2] [] pos) (eSortSet fe) :=
  PE.imp (pe_callB (call_sortT hc) hg hm (by decide +kernel) (pa_cons (pe_callTy (call_setS hc) hg2 hm2 (by decide +kernel) (pa_cons he pa_nil h1) (by decide) (by decide) h1 hp1) pa_nil h2) (by decide) (by decide) h2 hp2) fun σ H Q h => by
    have h' : Up (cn X) W (DV (cn X)) (fun S M => (fe S M).bind fun d M1 => match asL M1 d with
      | some xs => match strsOf xs with
        | some ns => if ns.length + 1 < scanBound ∧ (dedup ns).length < 64 then .ok (.lst ((srt (dedup ns)).map D.str)) M1 else .bad
        | none => .bad
      | none => .bad) σ H Q := h
    refine Up.imp (Up.bind (k := fun _ d M1 => _) h') fun v H1 ⟨G, S, d, M, r, s, q, p⟩ => ?_
    split at p
    · rename_i xs hx
      split at p
      · rename_i ns hn
        split at p
        · rename_i hz
          obtain ⟨a, us, rfl, sq, t⟩ := asL_at r q hx
          rw [strsOf_eq hn] at t
          rw [t.strs] at sq
          refine ⟨a, ns, rfl, sq, hz.1, fun b hb => ⟨b, _, rfl, upd_same, hz.2, fun ys p' hp hs hn' => ?_⟩⟩
          have r1 := r.newF (o := SetT X.prog X.w b (dedup ns)) hb
          rw [srt_eq hp hs]
          exact post_strs r1 hn' (Post.mono (Gr.newF (r.fz.free hb)) p)
        · exact p.elim
      · exact p.elim
    · exact p.elim
end QL
end
section
set_option Elab.async false
set_option linter.all false
set_option maxRecDepth 100000
set_option maxHeartbeats 4000000
set_option autoImplicit false
/-! QEv: what the plain functions come to, step by step, without a look under what is not yet reached. -/
namespace QL
open PySem PySem.Spec L2
open Classical
section
variable {f : D → D → Mem → Res D} {a b e o v i' fo fi : EF} {S : Sl} {M : Mem} {d x y z : D} {X : Ex} {t u : TF} {p q : BF} {g : GF} {ar : AF} {F : List D → Mem → Res D} {ds : List D} {n : Nat}
/-- slots -/
def vR (o : Option (Option D)) (M : Mem) : Res D := match o with
  | some (some d) => .ok d M
  | _ => .bad
@[simp] theorem vR_some : vR (some (some d)) M = .ok d M := (rfl)
@[simp] theorem eVar_ap {i : Nat} : eVar i S M = vR (S[i]?) M := (rfl)
@[simp] theorem eC_ap : eC d S M = .ok d M := (rfl)
/-- two operands -/
def s2 (f : D → D → Mem → Res D) (b : EF) (S : Sl) (r : Res D) : Res D := r.bind fun x M1 => (b S M1).bind fun y M2 => f x y M2
def s3 (f : D → D → Mem → Res D) (x : D) (r : Res D) : Res D := r.bind fun y M2 => f x y M2
@[simp] theorem e2_ap : e2 f a b S M = s2 f b S (a S M) := (rfl)
@[simp] theorem s2_ok : s2 f b S (.ok x M) = s3 f x (b S M) := (rfl)
@[simp] theorem s3_ok : s3 f x (.ok y M) = f x y M := (rfl)
/-- lists of arguments -/
def c1 (r : AF) (S : Sl) (k : Res D) : Res (List D) := k.bind fun d M1 => (r S M1).bind fun ds M2 => .ok (d :: ds) M2
def c2 (d : D) (k : Res (List D)) : Res (List D) := k.bind fun ds M2 => .ok (d :: ds) M2
@[simp] theorem aNil_ap : aNil S M = .ok [] M := (rfl)
@[simp] theorem aCons_ap : aCons a ar S M = c1 ar S (a S M) := (rfl)
@[simp] theorem c1_ok : c1 ar S (.ok d M) = c2 d (ar S M) := (rfl)
@[simp] theorem c2_ok : c2 d (.ok ds M) = .ok (d :: ds) M := (rfl)
def cR (F : List D → Mem → Res D) (k : Res (List D)) : Res D := k.bind fun ds M1 => F ds M1
@[simp] theorem eCall_ap : eCall F ar S M = cR F (ar S M) := (rfl)
@[simp] theorem cR_ok : cR F (.ok ds M) = F ds M := (rfl)
def tpR (k : Res (List D)) : Res D := k.bind fun ds M1 => if ds.length ≤ sizeLine then .ok (.tup ds) M1 else .bad
@[simp] theorem eTup_ap : eTup ar S M = tpR (ar S M) := (rfl)
theorem tpR_ok (h : ds.length ≤ sizeLine) : tpR (.ok ds M) = .ok (.tup ds) M := if_pos h
def lsR (k : Res (List D)) : Res D := k.bind fun ds M1 => if ds.length ≤ sizeLine then .ok (.lst ds) M1 else .bad
@[simp] theorem eLst_ap : eLst ar S M = lsR (ar S M) := (rfl)
theorem lsR_ok (h : ds.length ≤ sizeLine) : lsR (.ok ds M) = .ok (.lst ds) M := if_pos h
def lpR (k : Res (List D)) : Res D := k.bind fun ds M1 => if ds.length ≤ sizeLine then .ok (.ptr M1.length) (M1 ++ [.lst ds]) else .bad
@[simp] theorem eLstP_ap : eLstP ar S M = lpR (ar S M) := (rfl)
theorem lpR_ok (h : ds.length ≤ sizeLine) : lpR (.ok ds M) = .ok (.ptr M.length) (M ++ [.lst ds]) := if_pos h
theorem small {k : Nat} (h : k ≤ 64) : k ≤ sizeLine := by rw [sizeLine_eq]; omega
@[simp] theorem tpR_0 : tpR (.ok [] M) = .ok (.tup []) M := tpR_ok (small (by decide))
@[simp] theorem tpR_2 {d1 d2 : D} : tpR (.ok [d1, d2] M) = .ok (.tup [d1, d2]) M := tpR_ok (small (by show 2 ≤ 64; decide))
@[simp] theorem tpR_3 {d1 d2 d3 : D} : tpR (.ok [d1, d2, d3] M) = .ok (.tup [d1, d2, d3]) M := tpR_ok (small (by show 3 ≤ 64; decide))
@[simp] theorem lsR_0 : lsR (.ok [] M) = .ok (.lst []) M := lsR_ok (small (by decide))
@[simp] theorem lsR_1 {d1 : D} : lsR (.ok [d1] M) = .ok (.lst [d1]) M := lsR_ok (small (by show 1 ≤ 64; decide))
@[simp] theorem lsR_2 {d1 d2 : D} : lsR (.ok [d1, d2] M) = .ok (.lst [d1, d2]) M := lsR_ok (small (by show 2 ≤ 64; decide))
@[simp] theorem lsR_3 {d1 d2 d3 : D} : lsR (.ok [d1, d2, d3] M) = .ok (.lst [d1, d2, d3]) M := lsR_ok (small (by show 3 ≤ 64; decide))
@[simp] theorem lsR_4 {d1 d2 d3 d4 : D} : lsR (.ok [d1, d2, d3, d4] M) = .ok (.lst [d1, d2, d3, d4]) M := lsR_ok (small (by show 4 ≤ 64; decide))
@[simp] theorem lsR_5 {d1 d2 d3 d4 d5 : D} : lsR (.ok [d1, d2, d3, d4, d5] M) = .ok (.lst [d1, d2, d3, d4, d5]) M := lsR_ok (small (by show 5 ≤ 64; decide))
@[simp] theorem lpR_0 : lpR (.ok [] M) = .ok (.ptr M.length) (M ++ [.lst []]) := lpR_ok (small (by decide))
@[simp] theorem lpR_1 {d1 : D} : lpR (.ok [d1] M) = .ok (.ptr M.length) (M ++ [.lst [d1]]) := lpR_ok (small (by show 1 ≤ 64; decide))
@[simp] theorem lpR_6 {d1 d2 d3 d4 d5 d6 : D} : lpR (.ok [d1, d2, d3, d4, d5, d6] M) = .ok (.ptr M.length) (M ++ [.lst [d1, d2, d3, d4, d5, d6]]) := lpR_ok (small (by show 6 ≤ 64; decide))
/-- tests -/
def bR (r : Res D) : Res Bool := r.bind fun x M1 => match x with
  | .bl b => .ok b M1
  | _ => .bad
@[simp] theorem bV_ap : bV a S M = bR (a S M) := (rfl)
@[simp] theorem bR_ok {k : Bool} : bR (.ok (.bl k) M) = .ok k M := (rfl)
def nR (r : Res Bool) : Res Bool := r.bind fun x M1 => .ok (!x) M1
@[simp] theorem bNot_ap : bNot p S M = nR (p S M) := (rfl)
@[simp] theorem nR_ok {k : Bool} : nR (.ok k M) = .ok (!k) M := (rfl)
def anR (q : BF) (S : Sl) (r : Res Bool) : Res Bool := r.bind fun x M1 => if x = true then q S M1 else .ok false M1
@[simp] theorem bAnd_ap : bAnd p q S M = anR q S (p S M) := (rfl)
@[simp] theorem anR_t : anR q S (.ok true M) = q S M := (rfl)
@[simp] theorem anR_f : anR q S (.ok false M) = .ok false M := (rfl)
theorem anR_ite {c : Prop} [Decidable c] : anR q S (.ok (decide c) M) = if c then q S M else .ok false M := by by_cases h : c <;> simp [h]
def orRr (q : BF) (S : Sl) (r : Res Bool) : Res Bool := r.bind fun x M1 => if x = true then .ok true M1 else q S M1
@[simp] theorem bOr_ap : bOr p q S M = orRr q S (p S M) := (rfl)
@[simp] theorem orRr_t : orRr q S (.ok true M) = .ok true M := (rfl)
@[simp] theorem orRr_f : orRr q S (.ok false M) = q S M := (rfl)
def eaR (b : EF) (S : Sl) (r : Res D) : Res D := r.bind fun x M1 => match x with
  | .bl true => b S M1
  | .bl false => .ok (.bl false) M1
  | _ => .bad
@[simp] theorem eAnd_ap : eAnd a b S M = eaR b S (a S M) := (rfl)
@[simp] theorem eaR_t : eaR b S (.ok (.bl true) M) = b S M := (rfl)
@[simp] theorem eaR_f : eaR b S (.ok (.bl false) M) = .ok (.bl false) M := (rfl)
def eoR (b : EF) (S : Sl) (r : Res D) : Res D := r.bind fun x M1 => match x with
  | .bl true => .ok (.bl true) M1
  | .bl false => b S M1
  | _ => .bad
@[simp] theorem eOr_ap : eOr a b S M = eoR b S (a S M) := (rfl)
@[simp] theorem eoR_t : eoR b S (.ok (.bl true) M) = .ok (.bl true) M := (rfl)
@[simp] theorem eoR_f : eoR b S (.ok (.bl false) M) = b S M := (rfl)
def enR (r : Res D) : Res D := r.bind fun x M1 => match x with
  | .bl b => .ok (.bl (!b)) M1
  | _ => .bad
@[simp] theorem eNot_ap : eNot a S M = enR (a S M) := (rfl)
@[simp] theorem enR_ok {k : Bool} : enR (.ok (.bl k) M) = .ok (.bl (!k)) M := (rfl)
def eiR (a b : EF) (S : Sl) (r : Res Bool) : Res D := r.bind fun x M1 => if x = true then a S M1 else b S M1
@[simp] theorem eIf_ap : eIf p a b S M = eiR a b S (p S M) := (rfl)
@[simp] theorem eiR_t : eiR a b S (.ok true M) = a S M := (rfl)
@[simp] theorem eiR_f : eiR a b S (.ok false M) = b S M := (rfl)
/-- statements -/
@[simp] theorem kNil_ap : kNil S M = .nx S M := (rfl)
@[simp] theorem kSeq_ap : kSeq t u S M = (t S M).thn u := (rfl)
@[simp] theorem thn_nx : (SR.nx S M).thn u = u S M := (rfl)
@[simp] theorem thn_rt : (SR.rt d M).thn u = .rt d M := (rfl)
@[simp] theorem thn_bk : (SR.bk S M).thn u = .bk S M := (rfl)
@[simp] theorem thn_ct : (SR.ct S M).thn u = .ct S M := (rfl)
@[simp] theorem thn_rz : (SR.rz X S M).thn u = .rz X S M := (rfl)
def rtR (S : Sl) (r : Res D) : SR := r.thn S fun d M1 => .rt d M1
@[simp] theorem kRet_ap : kRet e S M = rtR S (e S M) := (rfl)
@[simp] theorem rtR_ok : rtR S (.ok d M) = .rt d M := (rfl)
@[simp] theorem kRetN_ap : kRetN S M = .rt .non M := (rfl)
def drR (S : Sl) (r : Res D) : SR := r.thn S fun _ M1 => .nx S M1
@[simp] theorem kDrop_ap : kDrop e S M = drR S (e S M) := (rfl)
@[simp] theorem drR_ok : drR S (.ok d M) = .nx S M := (rfl)
def ifR (t u : TF) (S : Sl) (r : Res Bool) : SR := r.thn S fun x M1 => if x = true then t S M1 else u S M1
@[simp] theorem kIf_ap : kIf p t u S M = ifR t u S (p S M) := (rfl)
@[simp] theorem ifR_t : ifR t u S (.ok true M) = t S M := (rfl)
@[simp] theorem ifR_f : ifR t u S (.ok false M) = u S M := (rfl)
@[simp] theorem kBreak_ap : kBreak S M = .bk S M := (rfl)
@[simp] theorem kCont_ap : kCont S M = .ct S M := (rfl)
/-- stores -/
def asR (g : GF) (S : Sl) (r : Res D) : SR := r.thn S fun d M1 => (g d S M1).thn S fun S2 M2 => .nx S2 M2
def stR (S : Sl) (r : Res Sl) : SR := r.thn S fun S2 M2 => .nx S2 M2
@[simp] theorem kAsg_ap : kAsg e g S M = asR g S (e S M) := (rfl)
@[simp] theorem asR_ok : asR g S (.ok d M) = stR S (g d S M) := (rfl)
@[simp] theorem stR_ok {S2 : Sl} : stR S (.ok S2 M) = .nx S2 M := (rfl)
@[simp] theorem gN_ap {i : Nat} : gN i d S M = .ok (S.set i (some d)) M := (rfl)
@[simp] theorem gNilF_ap : gNilF [] S M = .ok S M := (rfl)
def gcR (r : GsF) (ds : List D) (k : Res Sl) : Res Sl := k.bind fun S1 M1 => r ds S1 M1
@[simp] theorem gConsF_ap {r : GsF} : gConsF g r (d :: ds) S M = gcR r ds (g d S M) := (rfl)
@[simp] theorem gcR_ok {r : GsF} : gcR r ds (.ok S M) = r ds S M := (rfl)
@[simp] theorem gTupF_2 {r : GsF} {d1 d2 : D} : gTupF 2 r (.tup [d1, d2]) S M = r [d1, d2] S M := (rfl)
@[simp] theorem gTupF_3 {r : GsF} {d1 d2 d3 : D} : gTupF 3 r (.tup [d1, d2, d3]) S M = r [d1, d2, d3] S M := (rfl)
def prR (i j : Nat) (S : Sl) (r : Res (List D)) : SR := r.thn S fun ds M1 => match ds with
  | [d, e] => .nx ((S.set i (some d)).set j (some e)) M1
  | _ => .bad
@[simp] theorem kPar_ap {i j : Nat} : kPar i j ar S M = prR i j S (ar S M) := (rfl)
@[simp] theorem prR_ok {i j : Nat} : prR i j S (.ok [x, y] M) = .nx ((S.set i (some x)).set j (some y)) M := (rfl)
def gs1 (i : EF) (d : D) (S : Sl) (r : Res D) : Res Sl := r.bind fun x M1 => (i S M1).bind fun y M2 => match lset x y d M2 with
  | some M3 => .ok S M3
  | none => .bad
def gs2 (x d : D) (S : Sl) (r : Res D) : Res Sl := r.bind fun y M2 => match lset x y d M2 with
  | some M3 => .ok S M3
  | none => .bad
def gs3 (S : Sl) (o : Option Mem) : Res Sl := match o with
  | some M3 => .ok S M3
  | none => .bad
@[simp] theorem gSubL_ap : gSubL fo fi d S M = gs1 fi d S (fo S M) := (rfl)
@[simp] theorem gs1_ok : gs1 fi d S (.ok x M) = gs2 x d S (fi S M) := (rfl)
@[simp] theorem gs2_ok : gs2 x d S (.ok y M) = gs3 S (lset x y d M) := (rfl)
@[simp] theorem gs3_ok : gs3 S (some M) = .ok S M := (rfl)
/-- d[k] = v -/
def dp1 (o i : EF) (S : Sl) (r : Res D) : SR := r.thn S fun dv M1 => (o S M1).thn S fun d M2 => (i S M2).thn S fun y M3 => match d with
  | .ptr k => match dput k y dv M3 with
    | some M4 => .nx S M4
    | none => .bad
  | _ => .bad
end
end QL
end
section
set_option Elab.async false
set_option linter.all false
set_option maxRecDepth 100000
set_option maxHeartbeats 4000000
set_option autoImplicit false
/-! QEv2: the plain functions at plain data. -/
namespace QL
open PySem PySem.Spec L2
open Classical
section
variable {M M' : Mem} {i j : Int} {x y : Str} {a b : Bool} {d e : D} {ds es : List D} {n m : Nat} {S : Sl} {t : TF} {f : EF}
@[simp] theorem fAdd_i : fAdd (.int i) (.int j) M = .ok (.int (i + j)) M := (rfl)
@[simp] theorem fSub_i : fSub (.int i) (.int j) M = .ok (.int (i - j)) M := (rfl)
theorem fMul_i (h : CMulW i j) : fMul (.int i) (.int j) M = .ok (.int (i * j)) M := if_pos h
theorem fMod_i (h : 0 < j) : fMod (.int i) (.int j) M = .ok (.int (i % j)) M := if_pos h
theorem fDiv_i (h : CDivW i j) : fDiv (.int i) (.int j) M = .ok (.int (i / j)) M := if_pos h
@[simp] theorem fLt_i : fLt (.int i) (.int j) M = .ok (.bl (decide (i < j))) M := (rfl)
@[simp] theorem fLe_i : fLe (.int i) (.int j) M = .ok (.bl (decide (i ≤ j))) M := (rfl)
@[simp] theorem fGt_i : fGt (.int i) (.int j) M = .ok (.bl (decide (j < i))) M := (rfl)
@[simp] theorem fGe_i : fGe (.int i) (.int j) M = .ok (.bl (decide (j ≤ i))) M := (rfl)
@[simp] theorem fEqA_i : fEqA (.int i) (.int j) M = .ok (.bl (decide (i = j))) M := (rfl)
@[simp] theorem fEqA_s : fEqA (.str x) (.str y) M = .ok (.bl (decide (x = y))) M := (rfl)
@[simp] theorem fNe_i : fNe (.int i) (.int j) M = .ok (.bl (!decide (i = j))) M := (rfl)
@[simp] theorem fNe_s : fNe (.str x) (.str y) M = .ok (.bl (!decide (x = y))) M := (rfl)
@[simp] theorem fNe_b : fNe (.bl a) (.bl b) M = .ok (.bl (a ^^ b)) M := by cases a <;> cases b <;> rfl
@[simp] theorem fIs0_n : fIs0 .non .non M = .ok (.bl true) M := (rfl)
@[simp] theorem fNot0_n : fNot0 .non .non M = .ok (.bl false) M := (rfl)
@[simp] theorem fIs0_i : fIs0 (.int i) .non M = .ok (.bl false) M := (rfl)
@[simp] theorem fNot0_i : fNot0 (.int i) .non M = .ok (.bl true) M := (rfl)
@[simp] theorem fNot0_p : fNot0 (.ptr n) .non M = .ok (.bl true) M := (rfl)
@[simp] theorem fNot0_k {kvs : List (Key × D)} : fNot0 (.dK kvs) .non M = .ok (.bl true) M := (rfl)
@[simp] theorem fAdd_l : fAdd (.lst ds) (.lst es) M = if ds.length + es.length ≤ sizeLine then .ok (.lst (ds ++ es)) M else .bad := (rfl)
@[simp] theorem fAdd_s : fAdd (.str x) (.str y) M = if x.length + y.length ≤ sizeLine then .ok (.str (x ++ y)) M else .bad := (rfl)
@[simp] theorem bLenA_l : bLenA [.lst ds] M = .ok (.int ds.length) M := (rfl)
@[simp] theorem bMax2_i : bMax2 [.int i, .int j] M = .ok (.int (max i j)) M := by
  show Res.ok (D.int (if j > i then j else i)) M = _
  congr 2
  rcases Int.lt_or_le i j with h | h
  · rw [if_pos h]; omega
  · rw [if_neg (by omega)]; omega
@[simp] theorem bMin2_i : bMin2 [.int i, .int j] M = .ok (.int (min i j)) M := by
  show Res.ok (D.int (if j < i then j else i)) M = _
  congr 2
  rcases Int.lt_or_le j i with h | h
  · rw [if_pos h]; omega
  · rw [if_neg (by omega)]; omega
@[simp] theorem bInt_b : bInt [.bl a] M = .ok (.int (if a then 1 else 0)) M := (rfl)
@[simp] theorem bInt_i : bInt [.int i] M = .ok (.int i) M := (rfl)
theorem fIxA_l (h : ds[n]? = some d) : fIxA (.lst ds) (.int (n : Nat)) M = .ok d M := by
  have hl := (List.getElem?_eq_some_iff.mp h).1
  have e : L2.atI ds (n : Int) = some d := by
    unfold L2.atI ixN
    rw [if_pos (Int.natCast_nonneg n), if_pos (by exact_mod_cast hl)]
    simpa using h
  simp [fIxA, or2, orR, fDIx, look, asK, asTt, fIx, asL, e]
theorem settle_ok {d : D} (h : M'.length ≤ n) : settle n (.ok d M') = .ok d M' := if_pos h
/-- a def at its end -/
def fnR (n : Nat) (r : SR) : Res D := settle n r.fin
theorem runF_ap (h : ds.length = n) : runF n m t ds M = fnR M.length (t (ds.map some ++ List.replicate m none) M) := if_pos h
@[simp] theorem fnR_rt : fnR n (.rt d M) = settle n (.ok d M) := (rfl)
@[simp] theorem fnR_nx : fnR n (.nx S M) = settle n (.ok .non M) := (rfl)
/-- x op= e, o[i] op= e -/
def laR (d y : D) (n : Int) (op : Int → Int → Int) (S : Sl) (r : Res D) : SR := r.thn S fun z M3 => match z with
  | .int m => match lset d y (.int (op n m)) M3 with
    | some M4 => .nx S M4
    | none => .bad
  | _ => .bad
def laO (S : Sl) (o : Option Mem) : SR := match o with
  | some M4 => .nx S M4
  | none => .bad
@[simp] theorem laR_ok {y : D} {op : Int → Int → Int} : laR d y i op S (.ok (.int j) M) = laO S (lset d y (.int (op i j)) M) := (rfl)
@[simp] theorem laO_some : laO S (some M) = .nx S M := (rfl)
theorem kLAug_at {o k v : EF} {op : Int → Int → Int} (h1 : o S M = .ok d M) (h2 : k S M = .ok (.int j) M) (h3 : asL M d = some ds) (h4 : L2.atI ds j = some (.int i)) : kLAug o k v op S M = laR d (.int j) i op S (v S M) := by
  unfold kLAug
  rw [h1]
  simp only [Res.thn, h2, h3, h4]
  rfl
end
end QL
end
section
set_option Elab.async false
set_option linter.all false
set_option maxRecDepth 100000
set_option maxHeartbeats 4000000
set_option autoImplicit false
/-! QEv3: slices, loops and comprehensions of the plain functions. -/
namespace QL
open PySem PySem.Spec L2
open Classical
section
variable {M M' : Mem} {i j : Int} {x y : Str} {d e : D} {ds es : List D} {n m : Nat} {S S' : Sl} {t : TF} {f : EF}
def soR (r : Res D) : Res (Option Int) := r.bind fun d M1 => match d with
  | .int i => .ok (some i) M1
  | _ => .bad
@[simp] theorem oNone_ap : oNone S M = .ok none M := (rfl)
@[simp] theorem oSome_ap : oSome f S M = soR (f S M) := (rfl)
@[simp] theorem soR_ok : soR (.ok (.int i) M) = .ok (some i) M := (rfl)
def sl1 (l h : OF) (S : Sl) (r : Res D) : Res D := r.bind fun d M1 => (l S M1).bind fun lo M2 => (h S M2).bind fun hi M3 => fSl d lo hi M3
def sl2 (d : D) (h : OF) (S : Sl) (r : Res (Option Int)) : Res D := r.bind fun lo M2 => (h S M2).bind fun hi M3 => fSl d lo hi M3
def sl3 (d : D) (lo : Option Int) (r : Res (Option Int)) : Res D := r.bind fun hi M3 => fSl d lo hi M3
@[simp] theorem eSl_ap {l h : OF} : eSl f l h S M = sl1 l h S (f S M) := (rfl)
@[simp] theorem sl1_ok {l h : OF} : sl1 l h S (.ok d M) = sl2 d h S (l S M) := (rfl)
@[simp] theorem sl2_ok {h : OF} {lo : Option Int} : sl2 d h S (.ok lo M) = sl3 d lo (h S M) := (rfl)
@[simp] theorem sl3_ok {lo hi : Option Int} : sl3 d lo (.ok hi M) = fSl d lo hi M := (rfl)
@[simp] theorem fSl_l {lo hi : Option Int} : fSl (.lst ds) lo hi M = .ok (.lst (cutD ds lo hi)) M := (rfl)
theorem cutD_take (h : 0 ≤ i) : cutD ds none (some i) = ds.take i.toNat := by
  obtain ⟨k, rfl⟩ := Int.eq_ofNat_of_zero_le h
  unfold cutD
  rw [HT.sIx_none, HT.sIx_nat]
  simp only [List.drop_zero, Nat.sub_zero, Int.toNat_natCast]
  by_cases q : k ≤ ds.length
  · rw [Nat.min_eq_left q]
  · rw [Nat.min_eq_right (by omega), List.take_length, List.take_of_length_le (by omega)]
theorem cutD_drop (h : 0 ≤ i) : cutD ds (some i) none = ds.drop i.toNat := by
  obtain ⟨k, rfl⟩ := Int.eq_ofNat_of_zero_le h
  unfold cutD
  rw [HT.sIx_none, HT.sIx_nat]
  simp only [Int.toNat_natCast]
  by_cases q : k ≤ ds.length
  · rw [Nat.min_eq_left q, List.take_of_length_le (by rw [List.length_drop]; omega)]
  · rw [Nat.min_eq_right (by omega), List.drop_length, List.take_nil, List.drop_of_length_le (by omega)]
theorem cutS_take (h : 0 ≤ i) : (cutS x none (some i)).cps.toList = x.cps.toList.take i.toNat := by
  obtain ⟨k, rfl⟩ := Int.eq_ofNat_of_zero_le h
  unfold cutS
  have hl : x.length = x.cps.toList.length := by simp [Str.length]
  rw [HT.sIx_none, HT.sIx_nat]
  simp only [List.drop_zero, Nat.sub_zero, Int.toNat_natCast]
  by_cases q : k ≤ x.length
  · rw [Nat.min_eq_left q]
  · rw [Nat.min_eq_right (by omega), hl, List.take_length, List.take_of_length_le (by omega)]
theorem cutS_drop (h : 0 ≤ i) : (cutS x (some i) none).cps.toList = x.cps.toList.drop i.toNat := by
  obtain ⟨k, rfl⟩ := Int.eq_ofNat_of_zero_le h
  unfold cutS
  have hl : x.length = x.cps.toList.length := by simp [Str.length]
  rw [HT.sIx_none, HT.sIx_nat]
  simp only [Int.toNat_natCast]
  by_cases q : k ≤ x.length
  · rw [Nat.min_eq_left q, List.take_of_length_le (by rw [List.length_drop]; omega)]
  · rw [Nat.min_eq_right (by omega), hl, List.drop_length, List.take_nil, List.drop_of_length_le (by omega)]
/-! ### comprehensions -/
@[simp] theorem bYes_ap : bYes S M = .ok true M := (rfl)
/-- the comprehension at the store M0 set at h to a thing of which P holds -/
theorem lcL_at {gd : Mem → Prop} (hg : ∀ M, gd M) {g : GF} {b : BF} {e : EF} {S0 : Sl} {h : Nat} {P : MO → Prop} {Y : D → Prop} :
    ∀ (ds acc : List D) (mo : MO), acc.length + ds.length ≤ sizeLine → P mo →
      (∀ d ∈ ds, ∀ mo, P mo → ∃ S1 y mo', P mo' ∧ Y y ∧ g d S0 (M.set h mo) = .ok S1 (M.set h mo) ∧ b S1 (M.set h mo) = .ok true (M.set h mo) ∧ e S1 (M.set h mo) = .ok y (M.set h mo')) →
      ∃ ys mo', P mo' ∧ ys.length = ds.length ∧ (∀ y ∈ ys, Y y) ∧ lcL gd g b e S0 ds acc (M.set h mo) = .ok (acc ++ ys) (M.set h mo')
  | [], acc, mo, _, hp, _ => ⟨[], mo, hp, rfl, (by simp), by unfold lcL; rw [if_pos (hg _), List.append_nil]⟩
  | d :: r, acc, mo, hl, hp, hs => by
    obtain ⟨S1, y, mo1, p1, yy, e1, e2, e3⟩ := hs d List.mem_cons_self mo hp
    rw [List.length_cons] at hl
    obtain ⟨ys, mo', p2, l2, a2, e4⟩ := lcL_at hg r (acc ++ [y]) mo1 (by rw [List.length_append, List.length_singleton]; omega) p1 fun d hd => hs d (List.mem_cons_of_mem _ hd)
    refine ⟨y :: ys, mo', p2, by rw [List.length_cons, List.length_cons, l2], fun z hz => ?_, ?_⟩
    · rcases List.mem_cons.mp hz with q | q
      · rw [q]; exact yy
      · exact a2 z q
    · unfold lcL
      rw [if_pos (hg _), e1]
      simp only [e2, e3]
      rw [if_pos (by omega), e4, List.append_assoc]
      rfl
/-- a comprehension that leaves the store as it is -/
theorem lcL_map {gd : Mem → Prop} (hg : gd M) {g : GF} {b : BF} {e : EF} {S0 : Sl} (F : D → Option D) :
    ∀ (ds acc : List D), acc.length + ds.length ≤ sizeLine →
      (∀ d ∈ ds, ∃ S1, g d S0 M = .ok S1 M ∧ match F d with | some y => b S1 M = .ok true M ∧ e S1 M = .ok y M | none => b S1 M = .ok false M) →
      lcL gd g b e S0 ds acc M = .ok (acc ++ ds.filterMap F) M
  | [], acc, _, _ => by unfold lcL; rw [if_pos hg, List.filterMap_nil, List.append_nil]
  | d :: r, acc, hl, hs => by
    obtain ⟨S1, e1, h1⟩ := hs d List.mem_cons_self
    rw [List.length_cons] at hl
    unfold lcL
    rw [if_pos hg, e1]
    cases q : F d with
    | none =>
      rw [q] at h1
      simp only [h1]
      rw [lcL_map hg F r acc (by omega) fun d hd => hs d (List.mem_cons_of_mem _ hd), List.filterMap_cons_none q]
    | some y =>
      rw [q] at h1
      simp only [h1.1, h1.2]
      rw [if_pos (by omega), lcL_map hg F r (acc ++ [y]) (by rw [List.length_append, List.length_singleton]; omega) fun d hd => hs d (List.mem_cons_of_mem _ hd), List.filterMap_cons_some q, List.append_assoc]
      rfl
/-! ### walks -/
def i1R (r : Res (List D)) : Res Its := r.bind fun ds M1 => match ds with
  | [.int j] => if -(2 ^ 62) ≤ j ∧ j < 2 ^ 62 then .ok ⟨rangeD 0 j.toNat, none⟩ M1 else .bad
  | _ => .bad
@[simp] theorem iRange1_ap {a : AF} : iRange1 a S M = i1R (a S M) := (rfl)
theorem i1R_ok (h : 0 ≤ i) (h2 : i < 2 ^ 62) : i1R (.ok [.int i] M) = .ok ⟨rangeD 0 i.toNat, none⟩ M := if_pos ⟨by omega, h2⟩
def isR (r : Res D) : Res Its := r.bind fun d M1 => match d with
  | .lst ds => .ok ⟨ds, none⟩ M1
  | .ptr k => match M1[k]? with
    | some (.lst ds) => .ok ⟨ds, some k⟩ M1
    | _ => .bad
  | _ => .bad
@[simp] theorem iSeq_ap : iSeq f S M = isR (f S M) := (rfl)
@[simp] theorem isR_l : isR (.ok (.lst ds) M) = .ok ⟨ds, none⟩ M := (rfl)
def itR (r : Res D) : Res Its := r.bind fun d M1 => match d with
  | .tup ds => .ok ⟨ds, none⟩ M1
  | _ => .bad
@[simp] theorem iTupF_ap : iTupF f S M = itR (f S M) := (rfl)
@[simp] theorem itR_t : itR (.ok (.tup ds) M) = .ok ⟨ds, none⟩ M := (rfl)
noncomputable def lcR (g : GF) (b : BF) (e : EF) (vs : List Nat) (S : Sl) (r : Res Its) : Res D := r.bind fun I M1 => (lcL I.gd g b e (kl vs S) I.ds [] M1).bind fun ys M2 => .ok (.lst ys) M2
theorem eLc_ap {I : IF} {g : GF} {b : BF} {vs : List Nat} : eLc I g b f vs S M = lcR g b f vs S (I S M) := (rfl)
noncomputable def lcE (r : Res (List D)) : Res D := r.bind fun ys M2 => .ok (.lst ys) M2
theorem lcR_ok {I : Its} {g : GF} {b : BF} {vs : List Nat} : lcR g b f vs S (.ok I M) = lcE (lcL I.gd g b f (kl vs S) I.ds [] M) := (rfl)
@[simp] theorem lcE_ok : lcE (.ok ds M) = .ok (.lst ds) M := (rfl)
@[simp] theorem kl_nil : kl [] S = S := (rfl)
@[simp] theorem kl_cons {r : List Nat} : kl (n :: r) S = kl r (S.set n none) := (rfl)
noncomputable def foR (g : GF) (t : TF) (vs : List Nat) (S : Sl) (r : Res Its) : SR := r.thn S fun I M1 => forL I.gd g t vs I.ds S M1
theorem kFor_ap {I : IF} {g : GF} {vs : List Nat} : kFor I g t vs S M = foR g t vs S (I S M) := (rfl)
theorem foR_ok {I : Its} {g : GF} {vs : List Nat} : foR g t vs S (.ok I M) = forL I.gd g t vs I.ds S M := (rfl)
/-- a loop with an invariant: J by what is done; the store and slots are J's -/
theorem forL_inv {gd : Mem → Prop} {g : GF} {vs : List Nat} {J : List D → Sl → Mem → Prop} (hg : ∀ l S M, J l S M → gd M)
    (hs : ∀ l d S M, J l S M → ∃ S1 M1 S2 M2, g d S M = .ok S1 M1 ∧ (t S1 M1 = .nx S2 M2 ∨ t S1 M1 = .ct S2 M2) ∧ J (l ++ [d]) (kl vs S2) M2) :
    ∀ (ds l : List D) (S : Sl) (M : Mem), J l S M → ∃ S' M', forL gd g t vs ds S M = .nx S' M' ∧ J (l ++ ds) S' M'
  | [], l, S, M, h => ⟨S, M, by unfold forL; rw [if_pos (hg _ _ _ h)], by rw [List.append_nil]; exact h⟩
  | d :: r, l, S, M, h => by
    obtain ⟨S1, M1, S2, M2, e1, e2, h2⟩ := hs l d S M h
    obtain ⟨S', M', e3, h3⟩ := forL_inv hg hs r (l ++ [d]) _ _ h2
    refine ⟨S', M', ?_, by rw [List.append_assoc] at h3; exact h3⟩
    unfold forL
    rw [if_pos (hg _ _ _ h), e1]
    show (match t S1 M1 with
      | .nx S2 M2 => forL gd g t vs r (kl vs S2) M2
      | .ct S2 M2 => forL gd g t vs r (kl vs S2) M2
      | .bk S2 M2 => .nx S2 M2
      | r => r) = _
    rcases e2 with e2 | e2 <;> · rw [e2]; exact e3
end
end QL
end
section
set_option Elab.async false
set_option linter.all false
set_option maxRecDepth 100000
set_option maxHeartbeats 4000000
set_option autoImplicit false
/-! QStar: a dict display that begins with another dict's pairs and has one pair behind them. -/
namespace PySem
open Sem (wp)
section
variable {M : Model} {A : Around} {E : Value → Shared → Prop}
/-- a loop over 0..n-1 that goes through; what holds is told by how many turns are over -/
theorem each_turn {n : Nat} {body : Nat → PUnit → Sem (ForInStep PUnit)} {P : Nat → Shared → Prop} (turn : ∀ i s, i < n → P i s → wpAny M A (body i ⟨⟩) (fun r s' => r = .yield ⟨⟩ ∧ P (i + 1) s') E s) :
    ∀ (d i : Nat) (s : Shared), i + d = n → P i s → wpAny M A (forIn (List.range' i d) PUnit.unit body) (fun _ s' => P n s') E s
  | 0, i, s, h, p => by
    rw [show List.range' i 0 = [] from rfl, List.forIn_nil]
    have : i = n := by omega
    exact wpAny_pure (this ▸ p)
  | d + 1, i, s, h, p => by
    rw [show List.range' i (d + 1) = i :: List.range' (i + 1) d from List.range'_succ .., List.forIn_cons]
    refine wpAny_bind (wpAny_mono (turn i s (by omega) p) (fun r s' ⟨go, p1⟩ => ?_) fun _ _ e => e)
    rw [go]
    exact each_turn turn d (i + 1) s' (by omega) p1
/-- a step ahead that only looks on -/
theorem ahead_or_not {α : Type} {c : Bool} {m n : Sem α} {s : Shared} {Q : α → Shared → Prop} (rest : wpAny M A n Q E s) (look : wpAny M A n Q E s → wpAny M A m Q E s) : wpAny M A (if c = true then m else n) Q E s := by
  cases c with
  | true => exact look rest
  | false => exact rest
/-- a loop that does nothing -/
theorem idle {α : Type} {f : α → PUnit → Sem (ForInStep PUnit)} : ∀ l : List α, (∀ x, x ∈ l → f x ⟨⟩ = pure (.yield ⟨⟩)) → forIn l PUnit.unit f = (pure PUnit.unit : Sem PUnit)
  | [], _ => rfl
  | x :: r, q => by
    have first : f x ⟨⟩ = pure (.yield ⟨⟩) := q x (List.mem_cons_self ..)
    have later := idle r fun y m => q y (.tail _ m)
    rw [List.forIn_cons, first]
    exact later
end
section
variable {prog : Program} {w : World} {K : Type} [DecidableEq K] {knd : KeyKind prog w K} {A : Around} {E : Value → Shared → Prop} {s : Shared} {d : Addr} {kvs : List (K × Value)} {k : K} {key v : Value}
/-- no key twice, after a pair is put -/
theorem stored_once (n : (kvs.map (·.1)).Nodup) : ((stored kvs k v).map (·.1)).Nodup := by
  rw [keys_stored]
  split
  · exact n
  · rename_i out
    exact List.nodup_append.mpr ⟨n, List.nodup_cons.mpr ⟨List.not_mem_nil, List.nodup_nil⟩, fun a ha b hb e => out (List.eq_of_mem_singleton hb ▸ e ▸ ha)⟩
/-- the entries after a pair is put: where the key stood, or behind all others -/
theorem entries_put {es : Array DictEntry} (pr : Pairs knd es.toList kvs) (n : (kvs.map (·.1)).Nodup) (is : knd.is k key = true) :
    (∀ i, es.findIdx? (fun e => knd.is k e.key) = some i → Pairs knd (es.modify i fun e => { e with val := v }).toList (stored kvs k v)) ∧
    (es.findIdx? (fun e => knd.is k e.key) = none → Pairs knd (es.push ⟨knd.hash k, key, v⟩).toList (stored kvs k v)) := by
  have list : es.findIdx? (fun e => knd.is k e.key) = es.toList.findIdx? fun e => knd.is k e.key := by
    cases es
    simp
  refine ⟨fun i f => ?_, fun f => ?_⟩
  · rw [list] at f
    have here := any_of_findIdx_some ((pr.findIdx k).symm.trans f)
    unfold stored
    rw [if_pos here, Array.toList_modify]
    exact pr.modify n f v
  · rw [list, pr.findIdx k] at f
    have gone : (kvs.any fun kv => decide (kv.1 = k)) ≠ true := fun a => by
      obtain ⟨x, m, e⟩ := List.any_eq_true.mp a
      exact not_mem_of_findIdx_none f (of_decide_eq_true e ▸ List.mem_map_of_mem m)
    unfold stored
    rw [if_neg gone, Array.toList_push]
    exact pr.append is (knd.hash k) v
theorem wpAny_dictPut_pairs {Q : Unit → Shared → Prop} (is : knd.is k key = true) (dict : s.heap.DictOf knd d kvs) (q : ∀ h', h'.DictOf knd d (stored kvs k v) → Heap.SameBut d s.heap h' → Q () { s with heap := h' }) (room : kvs.length ≤ sizeLine) :
    wpAny (model prog w) A (dictPut d (knd.hash k) key v) Q E s := by
  obtain ⟨o, es, ep, at_, exact_, data, keys, pr, n⟩ := dict
  have size : es.size ≤ sizeLine := Nat.le_trans (Nat.le_of_eq pr.length) room
  obtain ⟨old, new⟩ := entries_put (v := v) pr n is
  unfold dictPut
  refine wpAny_bind (m := dictFind d key _) (wpAny_dictFind_of is at_ data keys ?_)
  cases f : es.findIdx? fun e => knd.is k e.key with
  | some i =>
    have d1 := Obj.data_mapDict data fun es => es.modify i fun e => { e with val := v }
    exact wpAny_updateDict at_ data (q _ ⟨_, _, ep, Heap.get?_update_self _ at_ (Obj.isFreed_of_dict d1), exact_.mapDict _, d1, keys.modify _ _, old i f, stored_once n⟩ (Heap.SameBut.update ..))
  | none =>
    have d1 := Obj.data_mapDictKeys data fun es => es.push ⟨knd.hash k, key, v⟩
    exact wpAny_updateDictKeys (hz := size) at_ data (q _ ⟨_, _, ep + 1, Heap.get?_update_self _ at_ (Obj.isFreed_of_dict d1), exact_.mapDictKeys _, d1, keys.push is _, new f, stored_once n⟩ (Heap.SameBut.update ..))
theorem wpAny_mergePlain {o : Addr} {more : List (K × Value)} {Q : Unit → Shared → Prop} (apart : d ≠ o) (sys : (o == sysModules) = false) (noRef : ∀ k u a, knd.is k u = true → u ≠ .ref a)
    (dict : s.heap.DictOf knd d kvs) (other : s.heap.DictOf knd o more) (q : ∀ h', h'.DictOf knd d (merged kvs more) → Heap.SameBut d s.heap h' → Q () { s with heap := h' }) (room : kvs.length + more.length ≤ sizeLine) :
    wpAny (model prog w) A (mergeMapping d (.ref o) false) Q E s := by
  obtain ⟨ob, es, ep, at_, _, data, keys, pr, _⟩ := id other
  obtain ⟨od, ed, epd, atd, _, datd, _⟩ := id dict
  have size : es.size = more.length := pr.length
  -- the walk over the other dict's entries
  have P0 : ∃ h' : Heap, s = { s with heap := h' } ∧ h'.DictOf knd d (merged kvs (more.take 0)) ∧ h'.get? o = some ob ∧ Heap.SameBut d s.heap h' := ⟨s.heap, rfl, dict, at_, Heap.SameBut.refl ..⟩
  unfold mergeMapping
  refine wpAny_bind (m := isInstance _ _) (wpAny_isInstance other.typeIs isSubtype_dict_dict ?_)
  refine PySem.W.KFB.if_so rfl ?_
  refine wpAny_bind (m := specialOf _ _) (wpAny_specialOf other.typeIs PySem.F.slot_dict_iter.lookup (wpAny_bind (wpAny_pure ?_)))
  refine PySem.W.KFB.if_not sys ?_
  refine wpAny_bind (m := dictEntries d) (wpAny_dictEntries atd datd ?_)
  refine ahead_or_not ?_ fun rest => wpAny_bind (m := dictEntries o) (wpAny_dictEntries at_ data (wpAny_bind ?_))
  · refine wpAny_bind (m := dictEntries o) (wpAny_dictEntries at_ data (wpAny_bind (m := dictEpoch o) (wpAny_dictEpoch at_ data (wpAny_bind ?_))))
    rw [List.range_eq_range']
    refine wpAny_mono (each_turn (n := es.size) (P := fun i s' => ∃ h' : Heap, s' = { s with heap := h' } ∧ h'.DictOf knd d (merged kvs (more.take i)) ∧ h'.get? o = some ob ∧ Heap.SameBut d s.heap h') ?_ es.size 0 s (Nat.zero_add _) P0) (fun _ s' ⟨h', e, d1, _, b1⟩ => ?_) fun _ _ e => e
    · rintro i _ lt ⟨h', rfl, d1, g1, b1⟩
      obtain ⟨⟨k, v⟩, here⟩ : ∃ kv, more[i]? = some kv := ⟨_, List.getElem?_eq_getElem (size ▸ lt)⟩
      obtain ⟨is, val⟩ := pr.get? (e := es[i]) (by rw [Array.getElem?_toList, Array.getElem?_eq_getElem lt]) here
      have hash : es[i].hash = knd.hash k := by
        obtain ⟨k', is', e⟩ := keys es[i] (Array.getElem_mem lt)
        rw [e, knd.inj _ _ _ is' is]
      have fits : (merged kvs (more.take i)).length ≤ sizeLine := by
        have l1 := merged_length_le kvs (more.take i)
        have l2 := List.length_take_le' i more
        omega
      refine wpAny_bind (m := dictEntries o) (wpAny_dictEntries g1 data ?_)
      rw [Array.getElem?_eq_getElem lt]
      show wpAny _ _ (holding [es[i].key, es[i].val] (dictPut d es[i].hash es[i].key es[i].val) >>= _) _ _ _
      rw [hash, val]
      refine wpAny_bind (m := holding _ _) (wpAny_holding (wpAny_dictPut_pairs is d1 (fun h2 d2 b2 => ?_) fits))
      have g2 := (b2.2 o (Ne.symm apart)).trans g1
      refine wpAny_bind (m := dictEpoch o) (wpAny_dictEpoch g2 data (PySem.W.KFB.if_not (bne_self_eq_false ep) (wpAny_pure ⟨rfl, h2, rfl, ?_, g2, b1.trans b2⟩)))
      rw [merged_take_succ kvs more i (k, v) here]
      exact d2
    · rw [e]
      rw [size, List.take_length] at d1
      exact wpAny_pure (q h' d1 b1)
  · rw [← Array.forIn_toList, idle es.toList fun e m => ?_]
    · exact wpAny_pure rest
    · obtain ⟨k', is', _⟩ := keys e (Array.mem_toList_iff.mp m)
      split
      · rename_i a ea
        exact absurd ea (noRef k' _ a is')
      · rfl
end
end PySem
end
section
set_option Elab.async false
set_option linter.all false
set_option maxRecDepth 100000
set_option maxHeartbeats 4000000
set_option autoImplicit false
/-! QStar2: {**d, k: v}. -/
namespace QL
open PySem PySem.Spec L2
open Classical
section
variable {prog : Program} {w : World} {A : Around} {E : Value → Shared → Prop} {s : Shared}
theorem wpAny_quiet {α : Type} {M : Model} {m : Sem α} {k : Value → Sem Unit} {Q : α → Shared → Prop} (h : wpAny M A m Q (fun _ _ => False) s) : wpAny M A (m.onRaise k) Q (fun _ _ => False) s :=
  wpAny_onRaise (wpAny_mono h (fun _ _ z => z) fun _ _ z => z.elim)
theorem wpAny_quietC {α : Type} {M : Model} {m : Sem α} {k : Value → Sem α} {Q : α → Shared → Prop} (h : wpAny M A m Q (fun _ _ => False) s) : wpAny M A (m.tryCatch k) Q (fun _ _ => False) s :=
  wpAny_tryCatch (wpAny_mono h (fun _ _ z => z) fun _ _ z => z.elim)
theorem wpAny_display_star {d k v : Sem Value} {Q : Value → Shared → Prop}
    (h : wpAny (model prog w) A d (fun m s1 => wpAny (model prog w) A (mergeMapping s.heap.objs.size m false) (fun _ s2 => wpAny (model prog w) A (subDict [(k, v)]) (fun q s3 => wpAny (model prog w) A (mergeMapping s.heap.objs.size (.ref q) false) (fun _ s4 => Q (.ref s.heap.objs.size) s4) (fun _ _ => False) s3) E s2) (fun _ _ => False) s1) E
      { s with heap := s.heap.push { cls := .type "dict", data := .dict #[] } }) : wpAny (model prog w) A (dictDisplay [(none, d), (some k, v)]) Q E s := by
  unfold dictDisplay
  dsimp only
  rw [List.forIn_cons]
  refine wpAny_bind ?_
  refine wpAny_bind ?_
  refine wpAny_bind (wpAny_pure ?_)
  refine wpAny_bind (wpAny_alloc ?_)
  refine wpAny_bind (wpAny_holding (wpAny_mono h (fun m s1 h1 => ?_) fun _ _ z => z))
  refine wpAny_bind (wpAny_mono (E := fun _ _ => False) (wpAny_quiet (wpAny_quietC (wpAny_quiet (wpAny_holding (wpAny_mono h1 (fun _ s2 h2 => ?_) fun _ _ z => z))))) (fun _ _ z => z) fun _ _ z => z.elim)
  refine wpAny_pure ?_
  refine wpAny_bind ?_
  dsimp only
  rw [if_neg (by simp)]
  refine wpAny_pure ?_
  refine wpAny_pure ?_
  refine wpAny_bind ?_
  dsimp only
  rw [if_neg (by simp)]
  refine wpAny_bind (wpAny_holding (wpAny_mono h2 (fun q s3 h3 => ?_) fun _ _ z => z))
  refine wpAny_bind (wpAny_mono (E := fun _ _ => False) (wpAny_quiet (wpAny_holding (wpAny_mono h3 (fun _ s4 h4 => ?_) fun _ _ z => z))) (fun _ _ z => z) fun _ _ z => z.elim)
  exact wpAny_pure (wpAny_pure h4)
end
/-! ### the reading and the rule -/
def tStar (td tk tv : TE) : TE := fun σ H Q => ∀ p, H p = none → td σ (upd H p (.dK [])) fun x H1 => ∃ a kvs, x = .ref a ∧ a ≠ p ∧ Rd H1 a (.dK kvs) ∧ kvs.length < sizeLine ∧ H1 p = some (.dK []) ∧
  ∀ q, upd H1 p (.dK kvs) q = none → tk σ (upd (upd H1 p (.dK kvs)) q (.dK [])) fun y H2 => tv σ H2 fun z H3 => H3 q = some (.dK []) ∧ H3 p = some (.dK kvs) ∧ ∃ k, y = kV k ∧ Q (.ref p) (upd (upd H3 q (.dK [(k, z)])) p (.dK (putK kvs k z)))
theorem mix_plain {P : Program} {w : World} (k : Key) (u : Value) (a : Addr) (h : (mixKind P w).is k u = true) : u ≠ .ref a := by
  rintro rfl
  cases k <;> exact Bool.noConfusion h
theorem pe_star {X : Cx} {pos : Pos} {d k v : Expr} {td tk tv : TE} (hd : PE X d td) (hk : PE X k tk) (hv : PE X v tv) : PE X (.Dict [none, some k] [d, v] pos) (tStar td tk tv) := by
  refine ⟨fun pins s σ H Q I h => ?_⟩
  have pn := I.hok.fresh (Nat.le_refl s.heap.objs.size)
  have I1 := I.laid (a := s.heap.objs.size) (o := .dK []) (h' := s.heap.push { cls := .type "dict", data := .dict #[] }) (t' := s.toks) (fun _ _ q => Heap.get?_push_of_some _ q) (Nat.le_refl _) (dk_empty s.heap I.big)
  rw [arm_eval_Dict]
  refine wpAny_bind (wpAny_standAt ?_)
  refine wpAny_display_star (wpAny_bind (thn (hd.run pins _ σ _ _ I1 (h _ pn)) fun u s1 ⟨x, H1, I2, rx, a, kvs, ex, na, ra, fw, ep, rest⟩ => wpAny_bind (wpAny_standAt (wpAny_pure ?_))))
  subst ex
  obtain rfl : u = Value.ref a := rx
  obtain ⟨z1, y1, vs0, r0, dp⟩ := dk_of I2.hok ep
  cases r0
  obtain ⟨z2, y2, vs, rel, da⟩ := dk_rd I2.hok ra
  refine wpAny_mergePlain (knd := mixKind X.prog X.w) (Ne.symm na) y2 mix_plain dp da (fun h' dd' same => ?_) (by rw [List.length_nil, ← rel.length]; omega)
  have nd : merged [] vs = vs := by
    obtain ⟨_, _, _, _, _, _, _, _, nd⟩ := da
    exact merged_nil_of_nodup vs nd
  rw [nd] at dd'
  have he : ∃ q, h'.get? s.heap.objs.size = some q := let ⟨q, _, _, hq, _⟩ := dd'; ⟨q, hq⟩
  have I3 := d_write (t' := s1.toks) I2 (by rw [ep]; exact True.intro) same he (dk_new (H' := upd H1 s.heap.objs.size (.dK kvs)) (kvs := kvs) z2 y1 rel dd')
  generalize hs3 : ({ s1 with heap := h', toks := s1.toks } : Shared) = s3 at I3
  have qn := I3.hok.fresh (Nat.le_refl s3.heap.objs.size)
  have I4 := I3.laid (a := s3.heap.objs.size) (o := .dK []) (h' := s3.heap.push { cls := .type "dict", data := .dict #[] }) (t' := s3.toks) (fun _ _ q => Heap.get?_push_of_some _ q) (Nat.le_refl _) (dk_empty s3.heap I3.big)
  refine wpAny_subDict (knd := mixKind X.prog X.w) (by simp) ?_
  refine evalPairs_cons (thn (hk.run pins _ σ _ _ I4 (rest _ qn)) fun ku s4 ⟨y, H2, I5, ry, hz⟩ => wpAny_bind (thn (hv.run pins s4 σ H2 _ I5 hz) fun vu s5 ⟨z, H3, I6, rz, eq, ep3, key, ey, q⟩ => wpAny_bind (wpAny_standAt (wpAny_pure (evalPairs_nil ?_)))))
  subst ey
  obtain ⟨w1, x1, vs1, r1, dq⟩ := dk_of I6.hok eq
  cases r1
  refine ⟨[(key, vu)], ⟨kV_is ry, rfl, True.intro⟩, dq, fun h5 dd5 same5 => ?_⟩
  have m1 : merged [] [(key, vu)] = [(key, vu)] := rfl
  rw [m1] at dd5
  have he5 : ∃ q, h5.get? s3.heap.objs.size = some q := let ⟨q, _, _, hq, _⟩ := dd5; ⟨q, hq⟩
  have I7 := d_write (t' := s5.toks + 1) I6 (by rw [eq]; exact True.intro) same5 he5 (dk_new (H' := upd H3 s3.heap.objs.size (.dK [(key, z)])) (kvs := [(key, z)]) (show 1 ≤ sizeLine by decide) x1 (.cons ⟨rfl, rz⟩ .nil) dd5)
  have npq : s.heap.objs.size ≠ s3.heap.objs.size := fun e => by
    rw [← e, upd_same] at qn
    cases qn
  have ep7 : upd H3 s3.heap.objs.size (.dK [(key, z)]) s.heap.objs.size = some (.dK kvs) := by rw [upd_ne npq]; exact ep3
  have eq7 : upd H3 s3.heap.objs.size (.dK [(key, z)]) s3.heap.objs.size = some (.dK [(key, z)]) := upd_same
  obtain ⟨z8, y8, vs8, rel8, d8⟩ := dk_of I7.hok ep7
  obtain ⟨z9, y9, vs9, rel9, d9⟩ := dk_of I7.hok eq7
  have l9 : vs9.length = 1 := rel9.length.symm
  refine wpAny_mergePlain (knd := mixKind X.prog X.w) npq y9 mix_plain d8 d9 (fun h9 dd9 same9 => ?_) (by rw [← rel8.length, l9]; omega)
  have he9 : ∃ q, h9.get? s.heap.objs.size = some q := let ⟨q, _, _, hq, _⟩ := dd9; ⟨q, hq⟩
  have rk : KV (putK kvs key z) (merged vs8 vs9) := KV.merge (more := [(key, z)]) rel9 rel8
  have lp := length_putK kvs key z
  exact ⟨.ref s.heap.objs.size, _, d_write (t' := _) I7 (by rw [ep7]; exact True.intro) same9 he9 (dk_new (by omega) y8 rk dd9), rfl, q⟩
/-- {**d, k: v} -/
def eStar (d k v : EF) : EF := fun S M => match d S M with
  | .ok x M1 => match asK M1 x with
    | some kvs => if kvs.length < sizeLine then match k S M1 with
        | .ok y M2 => match keyOf y with
          | some key => match v S M2 with
            | .ok z M3 => .ok (.ptr M3.length) (M3 ++ [.dK (putKD kvs key z)])
            | _ => .bad
          | none => .bad
        | _ => .bad
      else .bad
    | none => .bad
  | _ => .bad
theorem asK_src {c : Cn} {G : Gd} {M : Mem} {d : D} {a : Addr} {ds : List (Key × D)} (q : DV c G d (.ref a)) (h : asK M d = some ds) : (∃ u, G.F a = some u) ∨ a ∈ G.θ := by
  unfold asK at h
  split at h
  · obtain ⟨b, vs, o, e, s, t⟩ := q
    cases e
    exact .inl ⟨_, s⟩
  · obtain ⟨b, e1, e⟩ := q
    cases e
    exact .inr (List.mem_of_getElem? e1)
  · cases h
theorem gd_eta {G : Gd} {P : List (Addr × HO)} (e : G.P = P) : G = { G with P := P } := by
  obtain ⟨F, θ, P'⟩ := G
  have e' : P' = P := e
  rw [e']
theorem qstar {X : Cx} {W : WX} {pos : Pos} {d k v : Expr} {fd fk fv : EF} (hd : QE X W d fd) (hk : QE X W k fk) (hv : QE X W v fv) : QE X W (.Dict [none, some k] [d, v] pos) (eStar fd fk fv) := PE.imp (pe_star hd hk hv) fun σ H Q h => by
  obtain ⟨G, S, M, r, s, p⟩ := h
  intro p0 hp0
  have r1 := r.pinNew (o := .dK []) hp0
  have g1 : Gr0 G { G with P := (p0, .dK []) :: G.P } := ⟨fun _ _ h => h, [], (List.append_nil _).symm⟩
  have sm : ∀ {G' : Gd}, Gr0 G G' → SlR (cn X) G' S σ := fun g => ⟨s.1, fun i d e => let ⟨v, z, w⟩ := s.2 i d e; ⟨v, z, w.mono0 g⟩⟩
  have nP0 : ∀ q ∈ G.P, q.1 ≠ p0 := fun q hq => ne_of_none (r.pin q hq).1 hp0
  refine ⟨_, S, M, r1, sm g1, ?_⟩
  unfold eStar at p
  cases ed : fd S M with
  | bad => rw [ed] at p; exact p.elim
  | rz x M1 => rw [ed] at p; exact p.elim
  | ok x M1 =>
    rw [ed] at p
    intro G2 u H2 g2 r2 q2
    have eP2 : G2.P = (p0, .dK []) :: G.P := g2.P
    cases ek : asK M1 x with
    | none => simp only [ek] at p; exact p.elim
    | some kvs =>
    simp only [ek] at p
    have hz : kvs.length < sizeLine := Classical.byContradiction fun hz => by rw [if_neg hz] at p; exact p.elim
    rw [if_pos hz] at p
    obtain ⟨a, ws, rfl, rd, t⟩ := asK_at r2 q2 ek
    obtain ⟨h1, h2, h3⟩ := r2.pin (p0, .dK []) (by rw [eP2]; exact List.mem_cons_self)
    have na : a ≠ p0 := by
      rintro rfl
      rcases asK_src q2 ek with ⟨u, z⟩ | z
      · have h2' : G2.F a = none := h2
        rw [h2'] at z
        cases z
      · exact h3 z
    refine ⟨a, ws, rfl, na, rd, by rw [kr_len t.pr]; exact hz, h1, fun q0 hq0 => ?_⟩
    rw [gd_eta eP2] at r2
    have r3 := r2.pinSet (o' := .dK ws) nP0
    have r4 := r3.pinNew (o := .dK []) hq0
    have npq : p0 ≠ q0 := fun e => by rw [← e, upd_same] at hq0; cases hq0
    have nPq : ∀ q ∈ G.P, q.1 ≠ q0 := fun q hq => ne_of_none (r3.pin q (List.mem_cons_of_mem _ hq)).1 hq0
    have g24 : Gr0 G2 { G2 with P := (q0, .dK []) :: (p0, .dK ws) :: G.P } := ⟨fun _ _ h => h, [], (List.append_nil _).symm⟩
    have g02 : Gr0 G G2 := g1.trans g2.toGr0
    refine ⟨_, S, M1, r4, sm (g02.trans g24), ?_⟩
    cases eky : fk S M1 with
    | bad => simp only [eky] at p; exact p.elim
    | rz x M2 => simp only [eky] at p; exact p.elim
    | ok y M2 =>
    simp only [eky] at p
    intro G4 ku H4 g4 r5 q4
    cases ekk : keyOf y with
    | none => simp only [ekk] at p; exact p.elim
    | some key =>
    simp only [ekk] at p
    have g04 : Gr0 G G4 := (g02.trans g24).trans g4.toGr0
    refine ⟨G4, S, M2, r5, sm g04, ?_⟩
    cases ez : fv S M2 with
    | bad => simp only [ez] at p; exact p.elim
    | rz x M3 => simp only [ez] at p; exact p.elim
    | ok z M3 =>
    simp only [ez] at p
    intro G5 zv H5 g5 r6 q5
    have eP5 : G5.P = (q0, .dK []) :: (p0, .dK ws) :: G.P := by rw [g5.P, g4.P]
    have pin1 := r6.pin (q0, .dK []) (by rw [eP5]; exact List.mem_cons_self)
    have pin2 := r6.pin (p0, .dK ws) (by rw [eP5]; exact List.mem_cons_of_mem _ List.mem_cons_self)
    refine ⟨pin1.1, pin2.1, key, keyOf_at q4 ekk, ?_⟩
    have np2 : ∀ q ∈ (p0, HO.dK ws) :: G.P, q.1 ≠ q0 := fun q hq => by
      rcases List.mem_cons.mp hq with rfl | hq
      · exact npq
      · exact nPq q hq
    rw [gd_eta eP5] at r6
    have r7 := r6.pinSet (o' := .dK [(key, zv)]) np2
    have r8 := r7.pinF np2
    have r9 := Rep.pinSet (G := { G5 with F := upd G5.F q0 (.dK [(key, zv)]) }) (o' := .dK (putK ws key zv)) r8 nP0
    have hF5 : G5.F q0 = none := pin1.2.1
    have g5b : Gr0 G5 { G5 with F := upd G5.F q0 (.dK [(key, zv)]), θ := G5.θ ++ [p0], P := G.P } := ⟨fun a u e => by show upd G5.F q0 _ a = some u; rw [upd_ne (ne_of_none e hF5)]; exact e, [p0], rfl⟩
    have t5 := ((t.mono0 g24).mono0 g4.toGr0).mono0 g5.toGr0
    have tt := (DVk.of (kr_put t5.pr key q5)).mono0 g5b
    have r10 := Rep.pinP (G := { G5 with F := upd G5.F q0 (.dK [(key, zv)]) }) (mo := .dK (putKD kvs key z)) r9 nP0 ⟨_, upd_same, tt⟩
    have hl : G5.θ.length = M3.length := r6.len
    refine p _ _ _ ⟨(g04.trans g5.toGr0).trans g5b, rfl⟩ r10 ⟨p0, ?_, rfl⟩
    show (G5.θ ++ [p0])[M3.length]? = some p0
    rw [← hl, List.getElem?_append_right (Nat.le_refl _), Nat.sub_self]
    rfl
end QL
end
section
set_option Elab.async false
set_option linter.all false
set_option maxRecDepth 100000
set_option maxHeartbeats 4000000
set_option autoImplicit false
/-! QRepr: repr of texts, tuples and lists. -/
namespace QL
open PySem PySem.Spec L2
open Classical
mutual
/-- more signs than the text of d has -/
def wtD : D → Nat
  | .non => 4
  | .bl _ => 5
  | .int i => i.natAbs.log2 + 2
  | .str x => 10 * x.length + 2
  | .tup ds => wtDs ds + 3
  | .lst ds => wtDs ds + 4
  | _ => 0
def wtDs : List D → Nat
  | [] => 0
  | d :: r => wtD d + 2 + wtDs r
end
mutual
def shD : D → Bool
  | .non => true
  | .bl _ => true
  | .int i => decide (i.natAbs.log2 < 1920)
  | .str _ => true
  | .tup ds => shDs ds
  | .lst ds => shDs ds
  | _ => false
def shDs : List D → Bool
  | [] => true
  | d :: r => shD d && shDs r
end
mutual
theorem shD_show : ∀ {d : D}, shD d = true → (toPy d).showable = true
  | .non, _ => rfl
  | .bl _, _ => rfl
  | .int i, h => by simpa [toPy, PyData.showable, shD] using h
  | .str _, _ => rfl
  | .tup ds, h => by
    have h' : shDs ds = true := by simpa [shD] using h
    simpa [toPy, PyData.showable] using shDs_show h'
  | .lst ds, h => by
    have h' : shDs ds = true := by simpa [shD] using h
    simpa [toPy, PyData.showable] using shDs_show h'
  | .ptr _, h => by simp [shD] at h
  | .raw _, h => by simp [shD] at h
  | .dK _, h => by simp [shD] at h
  | .dT _, h => by simp [shD] at h
  | .obj _ _, h => by simp [shD] at h
  | .exc _ _ _ _, h => by simp [shD] at h
theorem shDs_show : ∀ {ds : List D}, shDs ds = true → PyData.showableAll (toPys ds) = true
  | [], _ => rfl
  | d :: r, h => by
    have h' : shD d = true ∧ shDs r = true := by simpa [shDs] using h
    simp only [toPys, PyData.showableAll, Bool.and_eq_true]
    exact ⟨shD_show h'.1, shDs_show h'.2⟩
end
theorem textFrom_le : ∀ (ts : List Str) (k : Nat) (acc : Str), (textFrom k acc ts).length ≤ acc.length + piled ts
  | [], k, acc => Nat.le_add_right _ _
  | t :: r, k, acc => by
    have h := textFrom_le r (k + 1) (acc ++ (if k > 0 then ", " else "" : String) ++ t)
    have e : (acc ++ (if k > 0 then ", " else "" : String) ++ t).length ≤ acc.length + 2 + t.length := by
      rw [strLen_append, strLen_append]
      split
      · exact Nat.le_refl _
      · show acc.length + 0 + t.length ≤ _
        omega
    rw [piled_cons]
    show (textFrom (k + 1) (acc ++ (if k > 0 then ", " else "" : String) ++ t) r).length ≤ _
    omega
theorem listText_le (ts : List Str) : (listText ts).length ≤ piled ts + 2 := by
  have h := textFrom_le ts 0 "["
  have e : (listText ts).length = (textFrom 0 "[" ts).length + 1 := by
    show (textFrom 0 "[" ts ++ "]").length = _
    rw [strLen_append]
    rfl
  have e1 : (("[" : String) : Str).length = 1 := rfl
  omega
theorem tupleText_le (ts : List Str) : (tupleText ts).length ≤ piled ts + 3 := by
  have e : (tupleText ts).length = 1 + (Str.join ", " ts).length + ((if ts.length == 1 then ",)" else ")" : String) : Str).length := by
    unfold tupleText
    rw [strLen_append, strLen_append]
    rfl
  have j : (Str.join ", " ts).length ≤ piled ts := by
    cases ts with
    | nil => exact Nat.zero_le _
    | cons t r =>
      have := join_length_add (t :: r) (by simp)
      omega
  have l : ((if ts.length == 1 then ",)" else ")" : String) : Str).length ≤ 2 := by
    split
    · exact Nat.le_refl _
    · show 1 ≤ 2
      omega
  omega
mutual
theorem shown_le : ∀ {n : Nat} {d : D}, okD n d = true → (toPy d).shown.length ≤ wtD d
  | _, .non, _ => by simp only [toPy, PyData.shown, wtD]; decide
  | _, .bl true, _ => by simp only [toPy, PyData.shown, wtD]; decide
  | _, .bl false, _ => by simp only [toPy, PyData.shown, wtD]; decide
  | _, .int i, _ => by
    simp only [toPy, PyData.shown, wtD]
    have h := int_text_length_le (a := i) (k := i.natAbs.log2 + 1) (by omega) (by omega)
    rw [ofString_length]
    exact h
  | _, .str x, h => by
    simp only [toPy, PyData.shown, wtD]
    refine StrLaws.reprText_len x fun c hc => ?_
    have h' : PyData.strOk x = true := by simpa [okD] using h
    unfold PyData.strOk at h'
    have h2 := Array.all_eq_true'.mp h' c (Array.mem_toList_iff.mp hc)
    have h3 : c < 0x110000 := of_decide_eq_true h2
    omega
  | 0, .tup _, h => by simp [okD] at h
  | n + 1, .tup ds, h => by
    have h' : okDs n ds = true := by simpa [okD] using h
    simp only [toPy, PyData.shown, wtD]
    have e1 := tupleText_le (PyData.shownAll (toPys ds))
    have e2 := showns_le h'
    omega
  | 0, .lst _, h => by simp [okD] at h
  | n + 1, .lst ds, h => by
    have h' : okDs n ds = true := by simpa [okD] using h
    simp only [toPy, PyData.shown, wtD]
    have e1 := listText_le (PyData.shownAll (toPys ds))
    have e2 := showns_le h'
    omega
  | _, .ptr _, h => by simp [okD] at h
  | _, .raw _, h => by simp [okD] at h
  | _, .dK _, h => by simp [okD] at h
  | _, .dT _, h => by simp [okD] at h
  | _, .obj _ _, h => by simp [okD] at h
  | _, .exc _ _ _ _, h => by simp [okD] at h
theorem showns_le : ∀ {n : Nat} {ds : List D}, okDs n ds = true → piled (PyData.shownAll (toPys ds)) ≤ wtDs ds
  | _, [], _ => Nat.le_refl _
  | n, d :: r, h => by
    have h' : okD n d = true ∧ okDs n r = true := by simpa [okDs] using h
    simp only [toPys, PyData.shownAll, wtDs]
    rw [piled_cons]
    have e1 := shown_le h'.1
    have e2 := showns_le h'.2
    omega
end
mutual
theorem noDict_toPy : ∀ d : D, (toPy d).hasDict = false
  | .non => rfl
  | .bl _ => rfl
  | .int _ => rfl
  | .str _ => rfl
  | .tup ds => by simpa [toPy, PyData.hasDict] using noDict_toPys ds
  | .lst ds => by simpa [toPy, PyData.hasDict] using noDict_toPys ds
  | .ptr _ => rfl
  | .raw _ => rfl
  | .dK _ => rfl
  | .dT _ => rfl
  | .obj _ _ => rfl
  | .exc _ _ _ _ => rfl
theorem noDict_toPys : ∀ ds : List D, PyData.hasDictAll (toPys ds) = false
  | [] => rfl
  | d :: r => by
    simp only [toPys, PyData.hasDictAll]
    rw [noDict_toPy d, noDict_toPys r]
    rfl
end
mutual
theorem okD_up : ∀ {n m : Nat} {d : D}, okD n d = true → n ≤ m → okD m d = true
  | _, _, .non, _, _ => by simp [okD]
  | _, _, .bl _, _, _ => by simp [okD]
  | _, _, .int _, _, _ => by simp [okD]
  | _, _, .str x, h, _ => by simpa [okD] using h
  | 0, _, .tup _, h, _ => by simp [okD] at h
  | n + 1, 0, .tup ds, h, l => absurd l (by omega)
  | n + 1, m + 1, .tup ds, h, l => by
    simp only [okD] at h ⊢
    exact okDs_up h (by omega)
  | 0, _, .lst _, h, _ => by simp [okD] at h
  | n + 1, 0, .lst ds, h, l => absurd l (by omega)
  | n + 1, m + 1, .lst ds, h, l => by
    simp only [okD] at h ⊢
    exact okDs_up h (by omega)
  | _, _, .ptr _, h, _ => by simp [okD] at h
  | _, _, .raw _, h, _ => by simp [okD] at h
  | _, _, .dK _, h, _ => by simp [okD] at h
  | _, _, .dT _, h, _ => by simp [okD] at h
  | _, _, .obj _ _, h, _ => by simp [okD] at h
  | _, _, .exc _ _ _ _, h, _ => by simp [okD] at h
theorem okDs_up : ∀ {n m : Nat} {ds : List D}, okDs n ds = true → n ≤ m → okDs m ds = true
  | _, _, [], _, _ => by simp [okDs]
  | n, m, d :: r, h, l => by
    have h' : okD n d = true ∧ okDs n r = true := by simpa [okDs] using h
    simp only [okDs, Bool.and_eq_true]
    exact ⟨okD_up h'.1 l, okDs_up h'.2 l⟩
end
def isSeqD : D → Bool
  | .tup _ => true
  | .lst _ => true
  | _ => false
/-- repr of a text, a tuple, a list -/
def bReprD (ds : List D) (M : Mem) : Res D := match ds with
  | [.str x] => if 10 * x.length + 2 ≤ sizeLine ∧ PyData.strOk x = true then .ok (.str (reprText x)) M else .bad
  | [d] => if okD 60 (der M d) = true ∧ shD (der M d) = true ∧ wtD (der M d) ≤ sizeLine ∧ isSeqD (der M d) = true then .ok (.str (toPy (der M d)).shown) M else .bad
  | _ => .bad
def rReprD (K : PySem.W.Frag) : List V → Hp → VK → Prop := fun xs H Q => (∃ x, xs = [.str x] ∧ (reprText x).length ≤ sizeLine ∧ Q (.str (reprText x)) H) ∨
  ∃ a d, xs = [.ref a] ∧ Dp K H (.ref a) d ∧ d.showable = true ∧ d.hasDict = false ∧ d.depth ≤ 60 ∧ d.shown.length ≤ sizeLine ∧ Q (.str d.shown) H
theorem call_reprD {X : Cx} (hgd : X.A.guards = some []) (hu : X.A.units + 64 < cLine) : CallR X (.builtin "repr") (rReprD X.K) := by
  intro pins s σ H xs us Q I r h
  rcases h with ⟨x, rfl, hz, q⟩ | ⟨a, d, rfl, dp, sh, nd, dd, hz, q⟩
  · obtain ⟨u, rfl, t, rfl⟩ := vals1 r
    exact PySem.P.repr_of_str ⟨.str _, H, I.tok _, ⟨_, rfl⟩, q⟩ hz
  · rw [Vals.ref1 r]
    obtain ⟨as, rd⟩ := Dp.reads I d (.ref a) (.ref a) dp rfl
    exact repr_of_reads' rd sh (PyData.noDict_hsm nd) hgd (by omega) (fun _ _ e => e) (fun h' u tk hk => ⟨.str _, H, I.kept hk, ⟨u, rfl⟩, q⟩) hz
theorem isSeq_ref {c : Cn} {G : Gd} {H : Hp} {M : Mem} {d : D} {v : V} (r : Rep c G H M) (q : DV c G d v) (h : isSeqD (der M d) = true) : ∃ a, v = .ref a := by
  unfold der at h
  cases e : asL M d with
  | some ds =>
    obtain ⟨a, vs, rfl, _⟩ := asL_at r q e
    exact ⟨a, rfl⟩
  | none =>
    rw [e] at h
    cases d with
    | tup ds => obtain ⟨a, vs, rfl, _⟩ := q; exact ⟨a, rfl⟩
    | lst ds => obtain ⟨a, vs, rfl, _⟩ := q; exact ⟨a, rfl⟩
    | _ => cases h
theorem rc_reprD {c : Cn} : RCs c bReprD (rReprD c.K) := by
  intro W σ G H M vs ds Q r q p
  unfold bReprD at p
  split at p
  · split at p
    · rename_i x hz
      refine .inl ⟨x, DVs.strs (ns := [x]) q, Nat.le_trans (StrLaws.reprText_len x fun c hc => ?_) hz.1, p G _ H (Gr.refl _) r rfl⟩
      have h' := hz.2
      unfold PyData.strOk at h'
      have h2 := Array.all_eq_true'.mp h' c (Array.mem_toList_iff.mp hc)
      have h3 : c < 0x110000 := of_decide_eq_true h2
      omega
    · exact p.elim
  · split at p
    · rename_i d _ hz
      obtain ⟨h1, h2, h3, h4⟩ := hz
      obtain ⟨v, t, rfl, q1, qt⟩ := q
      cases (show t = [] from qt)
      obtain ⟨a, rfl⟩ := isSeq_ref r q1 h4
      have h64 : okD 64 (der M d) = true := okD_up h1 (by omega)
      exact .inr ⟨a, toPy (der M d), rfl, der_dp r q1 h64, shD_show h2, noDict_toPy _, (okD_lay h1).2, Nat.le_trans (shown_le h1) h3, p G _ H (Gr.refl _) r rfl⟩
    · exact p.elim
  · exact p.elim
def bReprA := orC bRepr0 bReprD
theorem qreprA {X : Cx} {W : WX} {p pos : Pos} {e : Expr} {a : AF} (hgd : X.A.guards = some []) (hu : X.A.units + 64 < cLine) (hg : Gl X "repr") (hm : X.mg "repr" = none) (ha : QA X W [e] a) (he : starEach [e] X.env = (false, eval e X.env) :: starEach [] X.env := by rfl) (hpl : (backTo pos (starEach [] X.env)).any (·.1) = false := by rfl) :
    QE X W (.Call (.Name "repr" p) [e] [] pos) (eCall bReprA a) := (qrepr0 hg hm ha he hpl).call (q_cb (call_reprD hgd hu) rc_reprD hg hm ha (by decide +kernel) (by decide) (by decide) he hpl)
end QL
end
section
set_option Elab.async false
set_option linter.all false
set_option maxRecDepth 100000
set_option maxHeartbeats 4000000
set_option autoImplicit false
/-! QSetI: sorted(set(xs)), xs a list of ints. -/
namespace QL
open PySem PySem.Spec L2
open Classical
/-- put into a rising list, if it is not there -/
def insI (x : Int) : List Int → List Int
  | [] => [x]
  | y :: r => if x < y then x :: y :: r else if x = y then y :: r else y :: insI x r
/-- the different ones, rising -/
def upI (l : List Int) : List Int := l.foldr insI []
theorem mem_insI {x y : Int} : ∀ {l : List Int}, y ∈ insI x l ↔ y = x ∨ y ∈ l
  | [] => by simp [insI]
  | z :: r => by
    unfold insI
    split
    · simp
    · split
      · rename_i h
        subst h
        simp
      · rw [List.mem_cons, mem_insI, List.mem_cons]
        exact ⟨fun h => by rcases h with h | h | h <;> simp [h], fun h => by rcases h with h | h | h <;> simp [h]⟩
theorem insI_pw {x : Int} : ∀ {l : List Int}, l.Pairwise (· < ·) → (insI x l).Pairwise (· < ·)
  | [], _ => by simp [insI]
  | z :: r, h => by
    have h' := List.pairwise_cons.mp h
    unfold insI
    split
    · rename_i hx
      refine List.pairwise_cons.mpr ⟨fun a ha => ?_, h⟩
      rcases List.mem_cons.mp ha with e | e
      · rw [e]; exact hx
      · have := h'.1 a e
        omega
    · split
      · exact h
      · refine List.pairwise_cons.mpr ⟨fun a ha => ?_, insI_pw h'.2⟩
        rcases mem_insI.mp ha with e | e
        · omega
        · exact h'.1 a e
theorem upI_pw : ∀ l : List Int, (upI l).Pairwise (· < ·)
  | [] => List.Pairwise.nil
  | x :: r => insI_pw (upI_pw r)
theorem mem_upI {y : Int} : ∀ {l : List Int}, y ∈ upI l ↔ y ∈ l
  | [] => by simp [upI]
  | x :: r => by
    show y ∈ insI x (upI r) ↔ _
    rw [mem_insI, mem_upI, List.mem_cons]
theorem pw_uniq : ∀ {l m : List Int}, l.Pairwise (· < ·) → m.Pairwise (· < ·) → (∀ k, k ∈ l ↔ k ∈ m) → l = m
  | [], [], _, _, _ => rfl
  | [], y :: r, _, _, h => absurd ((h y).mpr List.mem_cons_self) (by simp)
  | x :: r, [], _, _, h => absurd ((h x).mp List.mem_cons_self) (by simp)
  | x :: r, y :: t, hl, hm, h => by
    have h1 := List.pairwise_cons.mp hl
    have h2 := List.pairwise_cons.mp hm
    have e : x = y := by
      rcases List.mem_cons.mp ((h x).mp List.mem_cons_self) with a | a
      · exact a
      · rcases List.mem_cons.mp ((h y).mpr List.mem_cons_self) with b | b
        · exact b.symm
        · have c1 := h2.1 x a
          have c2 := h1.1 y b
          omega
    subst e
    have : r = t := pw_uniq h1.2 h2.2 fun k => by
      constructor
      · intro hk
        rcases List.mem_cons.mp ((h k).mp (List.mem_cons_of_mem _ hk)) with a | a
        · have := h1.1 k hk
          omega
        · exact a
      · intro hk
        rcases List.mem_cons.mp ((h k).mpr (List.mem_cons_of_mem _ hk)) with a | a
        · have := h2.1 k hk
          omega
        · exact a
    rw [this]
theorem pw_nodup : ∀ {l : List Int}, l.Pairwise (· < ·) → l.Nodup := fun h => h.imp fun h => by omega
section
variable {P : Program} {w : World} {A : Around} {E : Value → Shared → Prop} {s : Shared}
theorem call_setLI {p : Addr} {its : Array Value} {xs : List Int} {Q : Value → Shared → Prop} (hA : A.handled = none) (hp : s.heap.IsList p its) (hx : PyProof.Rows.IntsAre its.toList xs) (hb : xs.length + 1 < scanBound)
    (hQ : ∀ h' tk c, SetR w h' s.heap.objs.size (fun j => decide (j ∈ xs)) c → (∀ b o, s.heap.get? b = some o → h'.get? b = some o) → Q (.ref s.heap.objs.size) { s with heap := h', toks := tk }) : wpAny (model P w) A (call (.type "set") [.ref p]) Q E s := by
  have sz : its.size = xs.length := by
    have q := PyProof.Rows.IntsAre.length hx
    rw [Array.length_toList] at q
    exact q
  obtain ⟨c, tl, mro⟩ := PySem.F.called_set.mro
  have made := PySem.F.called_set.made
  have sub := PySem.F.called_set.sub
  refine wpAny_call (codeAny_of_tree ?_)
  show wpAny _ _ (callAny (.type "set") _) _ _ _
  refine wpAny_pure ⟨Code.quiet_builtin _ (by decide +kernel), codeAny_builtin PySem.F.entry_type_call ?_⟩
  rw [Around.under_plain (weight_type_call_type "set" [.ref p] []) rfl]
  have n1 := PySem.F.called_set.notType
  have n2 := PySem.F.called_set.canCreate
  have n3 := PySem.F.typeCall_set_1 (.ref p)
  repeat (any_goals (first | assumption | wp_step))

  refine codeAny_mono (L2.code_set_led1 (.ref p) (E := E) (Q₁ := fun z s1 => z = .ref s.heap.objs.size ∧ s1 = { s with heap := s.heap.push { cls := .type "set", dict := none, data := .set #[] 0 (.fresh 0 0 (!w.params.followText "set-order")) } }) ⟨rfl, rfl⟩) fun r s1 hr => ?_
  cases r with
  | error e => exact hr
  | ok fl =>
    cases fl with
    | ret z =>
      obtain ⟨rfl, rfl⟩ := hr
      generalize eO : ({ cls := .type "set", dict := none, data := .set #[] 0 (.fresh 0 0 (!w.params.followText "set-order")) } : Obj) = O
      have hO : (s.heap.push O).get? s.heap.objs.size = some O := Heap.get?_push_size _ (by rw [← eO]; rfl)
      have hT : Shared.TypeIs { s with heap := s.heap.push O } (.ref s.heap.objs.size) "set" := ⟨_, hO, by rw [← eO]⟩
      have i1 := PySem.F.called_set.init.lookup
      have i2 := PySem.F.called_set.init.bind (.ref s.heap.objs.size)
      repeat (any_goals (first | assumption | wp_step))

      refine codeAny_mono (codeAny_call_builtin (R := wants (fun r s2 => r = .none ∧ ∃ h' tk c, s2 = { s with heap := h', toks := tk } ∧ SetR w h' s.heap.objs.size (fun j => decide (j ∈ xs)) c ∧ (∀ b o, s.heap.get? b = some o → h'.get? b = some o)) E) PySem.F.called_set.init.plain PySem.F.entry_set_init (check_set_init_1 hT ?_)) fun r2 s2 hr2 => ?_
      · obtain ⟨⟨k1, k2, k3, k4⟩, hob, hcl, m, hdat⟩ := hp
        simp only at hcl hdat
        subst hcl
        subst hdat
        have hlt : p < s.heap.objs.size := Heap.lt_size hob
        have hob' : (s.heap.push O).get? p = some { cls := .type "list", dict := k2, data := .seq its m, slots := k4 } := Heap.get?_push_of_some _ hob
        have t1 := PySem.F.sub_list_set
        have t2 := PySem.F.sub_list_frozenset
        have t3 : (Value.type "list" == Value.type "dict") = false := by decide
        have isl : (s.heap.push O).IsList p its := ⟨_, hob', rfl, m, rfl⟩
        subst eO
        unfold Builtin.«set.__init__» noKeywords Builtin.Frozenset.updateFrom
        generalize ePI : pyIter = PI
        wp_walk
        subst ePI

        refine wpAny_pyIter_list isl ?_
        refine wpAny_bind (wpAny_runValue ?_)
        have hA3 : A.in1.in1.in1.handled = none := by simp [hA]
        have pz : (s.heap.push { cls := .type "set", dict := none, data := .set #[] 0 (.fresh 0 0 (!w.params.followText "set-order")) }).objs.size = s.heap.objs.size + 1 := Heap.size_push ..
        have nJ : p ≠ (s.heap.push { cls := .type "set", dict := none, data := .set #[] 0 (.fresh 0 0 (!w.params.followText "set-order")) }).objs.size := by rw [Heap.size_push]; exact Nat.ne_of_lt (Nat.lt_succ_of_lt hlt)
        have nZ : s.heap.objs.size ∉ [(s.heap.push { cls := .type "set", dict := none, data := .set #[] 0 (.fresh 0 0 (!w.params.followText "set-order")) }).objs.size, p] := by
          rw [List.mem_cons, List.mem_singleton, Heap.size_push]
          exact fun z => z.elim (Nat.ne_of_lt (Nat.lt_succ_self _)) (Nat.ne_of_gt hlt)
        refine L2.set_update_ints ((Walks.list hA3 _ p nJ its).toS) s.heap.objs.size nZ xs sz (by omega) (fun i v hv => ?_) (its.size - 0) 0 _ (by omega) (Nat.zero_le _) ⟨⟨_, Heap.get?_push_size _ rfl, rfl, rfl⟩, isl.push _⟩ ?z0 ?z1
        · obtain ⟨k, t, e1, e2⟩ := PyProof.Rows.IntsAre.at hx i v (by rw [Array.getElem?_toList]; exact hv)
          exact ⟨k, t, e2, e1⟩
        case z0 =>
          exact ⟨0, Nat.le_refl _, L2.setR_new_at (Heap.get?_push_of_some _ hO)⟩
        case z1 =>
          intro s' c mv _ T
          obtain ⟨h', g', d', tk', os'⟩ := s'
          have eg : g' = s.gens := mv.gens
          have ed : d' = s.drawn := mv.drawn
          have eo : os' = s.os := mv.os
          subst eg
          subst ed
          subst eo
          show wpAny _ _ _ _ _ _
          refine wpAny_pure ?_
          show wpAny _ _ (ret Value.none) _ _ _
          refine wpAny_pure ⟨rfl, h', tk', c, rfl, T, fun b o e => ?_⟩
          have hb0 : b < s.heap.objs.size := Heap.lt_size e
          exact mv.heap b o (by rw [List.mem_cons, List.mem_singleton, Heap.size_push]; exact fun z => z.elim (Nat.ne_of_lt hb0) (Nat.ne_of_lt (Nat.lt_succ_of_lt hb0))) (Heap.get?_push_of_some _ (Heap.get?_push_of_some _ e))
      · cases r2 with
        | error e => exact hr2
        | ok fl2 =>
          cases fl2 with
          | ret r =>
            obtain ⟨rfl, h', tk, c, rfl, T, kp⟩ := hr2
            repeat (any_goals (first | assumption | wp_step))
            exact hQ _ _ _ T kp
          | _ => exact hr2.elim
    | _ => exact hr.elim
end
theorem setR_size {w : World} {h : Heap} {a : Addr} {ns : List Int} {c : Nat} (R : SetR w h a (fun j => decide (j ∈ ns)) c) : c = (upI ns).length := by
  obtain ⟨o, es, ep, t, ho, hx, hd, hg, hn, hs, hb, hf, hc, _⟩ := R
  have e : (es.toList.map L2.keyOf).length = c := by rw [List.length_map, Array.length_toList]; exact hc
  have hm : ∀ k, k ∈ es.toList.map L2.keyOf ↔ k ∈ upI ns := fun k => by
    rw [mem_upI, ← hs k]
    exact decide_eq_true_iff
  rw [← e]
  exact (List.perm_ext_iff_of_nodup hn (pw_nodup (upI_pw ns))).mpr hm |>.length_eq
section
variable {X : Cx}
theorem call_setI (hc : X.calm = true) : CallR X (.type "set") (fun xs H Q => ∃ p ys, xs = [.ref p] ∧ SqL X.K H p (ys.map V.int) ∧ ys.length + 1 < scanBound ∧ ∀ a, H a = none → Q (.ref a) (upd H a (SetO X.w a (fun j => decide (j ∈ ys)) (upI ys).length))) := by
  intro pins s σ H xs us Q I r h
  obtain ⟨p, ys, rfl, hs, hz, q⟩ := h
  obtain ⟨its, rv, hl, _⟩ := I.list hs
  rw [Vals.ref1 r]
  refine call_setLI (I.ok.hd hc) hl.isList (by simpa using ints_of_vals rv) hz fun h' tk c T kp => ?_
  have e := setR_size T
  subst e
  exact ⟨.ref s.heap.objs.size, _, I.laid (t' := tk) kp (Nat.le_refl _) (setO_new T), rfl, q _ (I.hok.fresh (Nat.le_refl _))⟩
end
theorem DVs.ofInts {c : Cn} {G : Gd} : ∀ ns : List Int, DVs c G (ns.map D.int) (ns.map V.int)
  | [] => rfl
  | n :: r => ⟨_, _, rfl, rfl, DVs.ofInts r⟩
/-- sorted(set(xs)), xs a list of ints, fewer than 64 different ones -/
noncomputable def ssI (r : Res D) : Res D := r.bind fun d M1 => match asL M1 d with
  | some xs => match intsOf xs with
    | some ns => if ns.length + 1 < scanBound ∧ (upI ns).length < 64 then .ok (.lst ((upI ns).map D.int)) M1 else .bad
    | none => .bad
  | none => .bad
noncomputable def eSortSetI (e : EF) : EF := fun S M => ssI (e S M)
noncomputable def eSortSetA (e : EF) : EF := fun S M => orR (eSortSet e S M) (eSortSetI e S M)
theorem qsortSetI {X : Cx} {W : WX} {p p2 pos pos2 : Pos} {e : Expr} {fe : EF} (hc : X.calm = true) (hu : X.A.units + 64 < cLine) (hg : Gl X "sorted") (hm : X.mg "sorted" = none) (hg2 : Gl X "set") (hm2 : X.mg "set" = none) (he : QE X W e fe)
    (h1 : starEach [e] X.env = (false, eval e X.env) :: starEach [] X.env := by rfl)
    (h2 : starEach [.Call (.Name "set" p2) [e] [] pos2] X.env = (false, eval (.Call (.Name "set" p2) [e] [] pos2) X.env) :: starEach [] X.env := by rfl) (hp1 : (backTo pos2 (starEach [] X.env)).any (·.1) = false := by rfl) (hp2 : (backTo pos (starEach [] X.env)).any (·.1) = false := by rfl) :
    QE X W (.Call (.Name "sorted" p) [.Call (.Name "set" p2) [e] [] pos2] [] pos) (eSortSetI fe) :=
  PE.imp (pe_callB (cr_sortedSet hc) hg hm (by decide +kernel) (pa_cons (pe_callTy (call_setI hc) hg2 hm2 (by decide +kernel) (pa_cons he pa_nil h1) (by decide) (by decide) h1 hp1) pa_nil h2) (by decide) (by decide) h2 hp2) fun σ H Q h => by
    have h' : Up (cn X) W (DV (cn X)) (fun S M => (fe S M).bind fun d M1 => match asL M1 d with
      | some xs => match intsOf xs with
        | some ns => if ns.length + 1 < scanBound ∧ (upI ns).length < 64 then .ok (.lst ((upI ns).map D.int)) M1 else .bad
        | none => .bad
      | none => .bad) σ H Q := h
    refine Up.imp (Up.bind h') fun v H1 ⟨G, S, d, M, r, s, q, p⟩ => ?_
    split at p
    · rename_i xs hx
      split at p
      · rename_i ns hn
        split at p
        · rename_i hz
          obtain ⟨a, us, rfl, sq, t⟩ := asL_at r q hx
          rw [intsOf_eq hn] at t
          rw [t.ints] at sq
          refine ⟨a, ns, rfl, sq, hz.1, fun b hb => ⟨b, _, _, rfl, upd_same, hz.2, fun ys p' hp hs hl hn' => ?_⟩⟩
          have e : ys = upI ns := pw_uniq hp (upI_pw ns) fun k => by
            rw [hs k, mem_upI]
            exact decide_eq_true_iff
          subst e
          have r1 := r.newF (o := SetO X.w b (fun j => decide (j ∈ ns)) (upI ns).length) hb
          have p1 := Post.mono (Gr.newF (o := SetO X.w b (fun j => decide (j ∈ ns)) (upI ns).length) (r.fz.free hb)) p
          exact p1 _ _ _ (Gr.newF (r1.fz.free hn')) (r1.newF hn') ⟨p', _, rfl, .inl (.inl upd_same), DVs.ofInts _⟩
        · exact p.elim
      · exact p.elim
    · exact p.elim
theorem qsortSetA {X : Cx} {W : WX} {p p2 pos pos2 : Pos} {e : Expr} {fe : EF} (hc : X.calm = true) (hu : X.A.units + 64 < cLine) (hg : Gl X "sorted") (hm : X.mg "sorted" = none) (hg2 : Gl X "set") (hm2 : X.mg "set" = none) (he : QE X W e fe)
    (h1 : starEach [e] X.env = (false, eval e X.env) :: starEach [] X.env := by rfl)
    (h2 : starEach [.Call (.Name "set" p2) [e] [] pos2] X.env = (false, eval (.Call (.Name "set" p2) [e] [] pos2) X.env) :: starEach [] X.env := by rfl) (hp1 : (backTo pos2 (starEach [] X.env)).any (·.1) = false := by rfl) (hp2 : (backTo pos (starEach [] X.env)).any (·.1) = false := by rfl) :
    QE X W (.Call (.Name "sorted" p) [.Call (.Name "set" p2) [e] [] pos2] [] pos) (eSortSetA fe) := QE.or (qsortSet hc hu hg hm hg2 hm2 he h1 h2 hp1 hp2) (qsortSetI hc hu hg hm hg2 hm2 he h1 h2 hp1 hp2) fun S M => orR_or _ _
end QL
end
section
set_option Elab.async false
set_option linter.all false
set_option maxRecDepth 100000
set_option maxHeartbeats 4000000
set_option autoImplicit false
/-! QRng: list(range(..)). -/
namespace QL
open PySem PySem.Spec L2
open Classical
def rgD (i j : Int) : List D := (List.range (j - i).toNat).map fun k => .int (i + (k : Nat))
noncomputable def fLRg (x y : D) (M : Mem) : Res D := match x, y with
  | .int i, .int j => if RgOk i j then .ok (.lst (rgD i j)) M else .bad
  | _, _ => .bad
noncomputable def eLRg2 (a b : EF) : EF := e2 fLRg a b
noncomputable def eLRg1 (a : EF) : EF := fun S M => (a S M).bind fun x M1 => fLRg (.int 0) x M1
theorem DVs.rg {c : Cn} {G : Gd} (i j : Int) : DVs c G (rgD i j) (rgV i j) := by
  unfold rgD rgV
  induction List.range (j - i).toNat with
  | nil => exact rfl
  | cons k r ih => exact ⟨_, _, rfl, rfl, ih⟩
section
variable {X : Cx} {W : WX} {p p2 pos pos2 : Pos} {a b : Expr} {fa fb : EF}
theorem qlrg2 (hc : X.calm = true) (hg : Gl X "list") (hm : X.mg "list" = none) (hg2 : Gl X "range") (hm2 : X.mg "range" = none) (ha : QE X W a fa) (hb : QE X W b fb)
    (n1 : starEach [a, b] X.env = (false, eval a X.env) :: starEach [b] X.env := by rfl) (n2 : starEach [b] X.env = (false, eval b X.env) :: starEach [] X.env := by rfl)
    (n3 : starEach [.Call (.Name "range" p2) [a, b] [] pos2] X.env = (false, eval (.Call (.Name "range" p2) [a, b] [] pos2) X.env) :: starEach [] X.env := by rfl) (hp : (backTo pos2 (starEach [b] X.env)).any (·.1) = false := by rfl) :
    QE X W (.Call (.Name "list" p) [.Call (.Name "range" p2) [a, b] [] pos2] [] pos) (eLRg2 fa fb) := PE.imp (pe_listRg hc hg hm (prg_2 hg2 hm2 ha hb n1 n2 hp) n3) fun σ H Q h => by
  refine Up.imp (Up.bind h) fun v H1 ⟨G, S, d, M, r, s, q, p⟩ => ?_
  refine ⟨G, S, M, r, s, (Post.bind (rel := DV (cn X)) p).imp fun u H2 ⟨G2, d2, M2, g2, r2, q2, p2⟩ => ?_⟩
  unfold fLRg at p2
  split at p2
  · split at p2
    · rename_i j _ hz
      exact ⟨_, j, q, q2, hz, fun l hl => p2 _ _ _ (Gr.newF (r2.fz.free hl)) (r2.newF hl) ⟨l, _, rfl, .inl (.inl upd_same), DVs.rg _ j⟩⟩
    · exact p2.elim
  · exact p2.elim
theorem qlrg1 (hc : X.calm = true) (hg : Gl X "list") (hm : X.mg "list" = none) (hg2 : Gl X "range") (hm2 : X.mg "range" = none) (ha : QE X W a fa)
    (n1 : starEach [a] X.env = (false, eval a X.env) :: starEach [] X.env := by rfl)
    (n3 : starEach [.Call (.Name "range" p2) [a] [] pos2] X.env = (false, eval (.Call (.Name "range" p2) [a] [] pos2) X.env) :: starEach [] X.env := by rfl) :
    QE X W (.Call (.Name "list" p) [.Call (.Name "range" p2) [a] [] pos2] [] pos) (eLRg1 fa) := PE.imp (pe_listRg hc hg hm (prg_1 hg2 hm2 ha n1) n3) fun σ H Q h => by
  refine Up.imp (Up.bind h) fun v H1 ⟨G, S, d, M, r, s, q, p⟩ => ?_
  unfold fLRg at p
  split at p
  · split at p
    · rename_i i j e1 hz
      cases e1
      exact ⟨j, q, hz, fun l hl => p _ _ _ (Gr.newF (r.fz.free hl)) (r.newF hl) ⟨l, _, rfl, .inl (.inl upd_same), DVs.rg 0 j⟩⟩
    · exact p.elim
  · exact p.elim
end
end QL
end
section
set_option Elab.async false
set_option linter.all false
set_option maxRecDepth 100000
set_option maxHeartbeats 4000000
set_option autoImplicit false
/-! QNe: lists of other lengths are unequal, whatever they hold. -/
namespace QL
open PySem PySem.Spec L2
open Classical
theorem op_neLen {X : Cx} (hu : X.A.units + 64 < cLine) : OpR X (compareOp .NotEq) (rLen X.K true) := by
  intro pins s σ H x y v u Q I rx ry h
  obtain ⟨l, b, xs, ys, rfl, rfl, h1, h2, hz, q⟩ := h
  cases rx
  cases ry
  obtain ⟨its, r1, p1, z1⟩ := I.list h1
  obtain ⟨jts, r2, p2, z2⟩ := I.list h2
  have l1 := r1.length
  have l2 := r2.length
  obtain ⟨⟨c1, d1, a1, s1⟩, o1, e1, n1, f1⟩ := p1.isList
  obtain ⟨⟨c2, d2, a2, s2⟩, o2, e2, n2, f2⟩ := p2.isList
  simp only at e1 f1 e2 f2
  subst e1 f1 e2 f2
  have other : (its.toArray.size != jts.toArray.size) = true := by
    rw [bne_iff_ne, List.size_toArray, List.size_toArray]
    omega
  exact wpAny_richCompare_same_room (op := .NotEq) ⟨_, o1, rfl⟩ ⟨_, o2, rfl⟩ PySem.F.slot_list_ne (call_meets PySem.F.slot_list_ne ⟨_, o1, rfl⟩ PySem.F.entry_list_ne (PySem.F.args_list_ne_2 _ _) (SeqAt.list_ne_lengthsAt l b its.toArray jts.toArray n1 n2 _ _ _ _ other)
    ⟨o1, o2, show Value.bool true ≠ Value.notImplemented ∧ EP X pins σ Q (.bool true) s from ⟨(fun x => nomatch x), .bl true, H, I, rfl, q⟩⟩) (by omega)
def fNeLen (x y : D) (M : Mem) : Res D := match asL M x, asL M y with
  | some xs, some ys => if xs.length ≠ ys.length then .ok (.bl true) M else .bad
  | _, _ => .bad
theorem r2_neLen {c : Cn} : R2s c fNeLen (rLen c.K true) := by
  intro W σ G H M x y dx dy Q r qx qy p
  unfold fNeLen at p
  split at p
  · rename_i xs ys hx hy
    split at p
    · rename_i hz
      obtain ⟨a, us, rfl, s1, t1⟩ := asL_at r qx hx
      obtain ⟨b, ws, rfl, s2, t2⟩ := asL_at r qy hy
      exact ⟨a, b, us, ws, rfl, rfl, s1, s2, by rw [t1.length, t2.length]; exact hz, p G _ H (Gr.refl _) r rfl⟩
    · exact p.elim
  · exact p.elim
def fNeA := or2 fNe fNeLen
section
variable {X : Cx} {W : WX} {pos : Pos} {a b : Expr} {fa fb : EF}
theorem qneA (hu : X.A.units + 64 < cLine) (ha : QE X W a fa) (hb : QE X W b fb) : QE X W (.Compare a [.NotEq] [b] pos) (e2 fNeA fa fb) := (qne hu ha hb).e2 (q_cmp (op_neLen hu) r2_neLen (nomark _) ha hb)
theorem tNeA (hu : X.A.units + 64 < cLine) (ha : QE X W a fa) (hb : QE X W b fb) : QT X W (.Compare a [.NotEq] [b] pos) (bV (e2 fNeA fa fb)) := (tNe hu ha hb).e2 (qt_cmp (op_neLen hu) r2_neLen (nomark _) ha hb)
end
end QL
end
section
set_option Elab.async false
set_option linter.all false
set_option maxRecDepth 100000
set_option maxHeartbeats 4000000
/-! QExcIs: isinstance of a caught error that has a dict. -/
namespace PySem.W
open PySem PySem.Spec PySem.Calls PyProof.Rows
section
variable {prog : Program} {w : World} {B : Around} {E : Value → Shared → Prop} {s : Shared} {K : Frag} {z D : Addr} {oz : Obj} {od : Option Obj}
/-- what the written part says of the class of a caught error -/
structure EcD (K : Frag) (D : Addr) : Prop where
  ga : findIn K (.ref D) "__getattribute__" = some (some (.builtin "BaseException.__getattribute__"))
  gt : findIn K (.ref D) "__getattr__" = some none
  sb : subIn K (.ref D) (.type "BaseException") = some true
  dc : hasDictIn K D = true
  cl : findIn K (.ref D) "__class__" = some (some (.builtin "object.__class__"))
  cg : specialIn K (.builtin "object.__class__") "__get__" = some (some (.builtin "getset_descriptor.__get__"))
  tk : takesIn K (.builtin "object.__class__") = some true
  mr : mroIn K D (.type "object") = some true
theorem ec_find (c : EcD K D) : findObj K D od "__class__" = some (.bind (.builtin "getset_descriptor.__get__") (.builtin "object.__class__")) := by
  obtain ⟨cd, hc, _⟩ := any_some c.dc
  have h : (clsIn K D).isSome = true := by rw [hc]; rfl
  cases od with
  | none => exact findObj_dataN h c.cl c.cg c.tk
  | some o => exact findObj_data h c.cl c.cg c.tk
theorem ec_class {Q : Option Value → Shared → Prop} (c : EcD K D) (X : K.In s.heap) (J : InstAt s.heap z oz D od) (h : Q (some (.ref D)) { s with toks := s.toks + 1 }) : wpAny (model prog w) B (getAttr? (.ref z) "__class__") Q E s := by
  obtain ⟨hp, gn, dr, tt, os⟩ := s
  have K0 := J.type (M := model prog w)
  have K1 := looks_findIn (M := model prog w) X c.ga
  have K2 := looks_findIn (M := model prog w) X c.gt
  have K3 := looks_find (M := model prog w) X J (ec_find c)
  have isB : Looks (model prog w) hp (isInstance (.ref z) (.type "BaseException")) true := K0.andThen (looks_subIn X c.sb)
  have n2 : (Value.builtin "BaseException.__getattribute__" == Value.builtin "object.__getattribute__") = false := by decide +kernel
  have n1 : (onTheHeap (Value.ref D) && Value.builtin "BaseException.__getattribute__" == Value.builtin "object.__getattribute__") = false := by
    rw [n2]
    rfl
  have n0 : (false && onTheHeap (Value.builtin "BaseException.__getattribute__")) = false := rfl
  unfold getAttr? getAttrBy? getAttrBy
  refine wpAny_bind (wpAny_mkText (wpAny_bind (wpAny_attempt (wpAny_holding (wpAny_bind (K0.at (wpAny_bind (K1.at ?_))))))))
  show wpAny _ B (if (onTheHeap (Value.ref D) && Value.builtin "BaseException.__getattribute__" == Value.builtin "object.__getattribute__") = true then _ else _) _ _ _
  rw [n1, if_neg Bool.false_ne_true]
  unfold getAttrByItsOwn hookBefore
  refine wpAny_bind ?_
  rw [if_pos (show onTheHeap (Value.ref D) = true from rfl)]
  refine K2.at (wpAny_bind (wpAny_attempt (wpAny_holding ?_)))
  unfold callGetattribute
  rw [n0, if_neg Bool.false_ne_true]
  unfold boundAndCalled
  rw [PySem.F.excAttr_ValueError.ga.bind (.ref z)]
  refine wpAny_bind (wpAny_pure ?_)
  show wpAny _ B (call (.builtin "BaseException.__getattribute__") [.ref z, .str "__class__" tt]) _ _ _
  refine wpAny_call (codeAny_call_builtin PySem.F.excAttr_ValueError.ga.plain PySem.F.entry_bexc_ga ?_)
  refine @check_slot (model prog w) _ _ ⟨hp, gn, dr, tt + 1, os⟩ "BaseException.__getattribute__" "BaseException" "__getattribute__" (.ref z) [.str "__class__" tt] [] _ (by decide +kernel) (by decide +kernel) isB (PySem.F.args_bexc_ga (.ref z) (.str "__class__" tt)) ?_
  unfold Builtin.«object.__getattribute__»
  refine wpAny_bind (wpAny_of_eq (a := ((Value.ref z : Value), [Value.str "__class__" tt])) (by first | rfl | (simp only [slotArgs]; rfl)) ?_)
  refine wpAny_bind (wpAny_pure (wpAny_bind (K0.at (wpAny_bind (K3.at ?_)))))
  show wpAny _ _ (holding [Value.builtin "object.__class__"] (call (.builtin "getset_descriptor.__get__") [.builtin "object.__class__", .ref z, .ref D]) >>= ret) _ _ _
  refine wpAny_bind (wpAny_holding (wpAny_call (class_get (s := ⟨hp, gn, dr, tt + 1, os⟩) (ox := oz) (od := od) X J c.mr ?_)))
  refine wpAny_pure ?_
  show wpAny _ _ (handedOut (.ref D)) _ _ _
  rw [handedOut_of (v := .ref D) rfl]
  first
    | exact wpAny_pure (wpAny_pure h)
    | exact wpAny_pure h
    | exact wpAny_pure (wpAny_bind (wpAny_pure (wpAny_pure h)))
/-- the class's own object -/
theorem EcD.lies (c : EcD K D) : ∃ (o : Obj) (cd : _), K.lookup D = some o ∧ o.data = .cls cd := by
  obtain ⟨cd, found, _⟩ := any_some c.dc
  unfold clsIn at found
  split at found
  · exact ⟨_, _, by assumption, rfl⟩
  · cases found
theorem ec_kit (c : EcD K D) : KitX K (.ref z) (.ref D) (fun h => InstAt h z oz D od) where
  ty := fun _ _ _ J => J.type
  it := fun _ _ X _ => by
    obtain ⟨⟨oc, odd, dt, sl⟩, cd, at_D, e⟩ := c.lies
    cases (show dt = _ from e)
    intro A1 Q1 E1 s1 k q
    unfold isType loadHead
    refine wpAny_bind (wpAny_loadPart (k _ _ (X _ _ at_D)) ?_)
    exact wpAny_pure q
  ne := fun h tp dd its n sl X at_tp => by
    obtain ⟨o, cd, at_D, e⟩ := c.lies
    rw [beq_eq_false_iff_ne]
    intro same
    cases same
    have one := Option.some.inj ((X _ _ at_D).symm.trans at_tp)
    rw [one] at e
    cases e
  ca := fun X J k => ec_class c X J k
end
end PySem.W
namespace QL
open PySem PySem.Spec L2
/-- the object of the caught error, where its dict stands -/
theorem inst_exc {X : Cx} {a D dd : Addr} {oe : Obj} {pn : List (Addr × Obj)} {pins : List (Addr × Obj)} {σ : St} {H : Hp} {s : Shared} {fs : List (Str × V)} (I : Inv (X.suite a ((a, oe) :: pn)) pins σ H s) (hz : Zc (.ref D) (some dd) oe) (hf : ∃ vs, oe.data = .fields vs) (hx : H dd = some (.xd fs)) :
    ∃ od, PySem.W.InstAt s.heap a oe D (some od) := by
  obtain ⟨ha, _⟩ := I.pin (a, oe) (List.mem_append_left _ List.mem_cons_self)
  obtain ⟨vs, hd⟩ := hf
  have hx : ObjOk X.prog X.w H s.heap dd (.xd fs) := I.hok dd _ hx
  obtain ⟨mA, hns, hr⟩ := hx
  obtain ⟨od, ho, hl⟩ := lookIn_ns hns
  exact ⟨od, ha, hz.1, by unfold PySem.W.notCls; rw [hd] <;> rfl, by rw [hz.2]; exact ho⟩
def rIsD (K : PySem.W.Frag) (D a dd : Addr) : List V → Hp → VK → Prop := fun xs H Q => ∃ (c : V) (cv : Value) (b : Bool) (fs : List (Str × V)), xs = [.ref a, c] ∧ H dd = some (.xd fs) ∧ (∀ u, RelV c u → u = cv) ∧ PySem.W.kitOne K (.ref D) cv = some b ∧ Q (.bl b) H
theorem call_isD {X : Cx} {a D dd : Addr} {oe : Obj} {pn : List (Addr × Obj)} (C : PySem.W.EcD X.K D) (hz : Zc (.ref D) (some dd) oe) (hf : ∃ vs, oe.data = .fields vs) : CallR (X.suite a ((a, oe) :: pn)) (.builtin "isinstance") (rIsD X.K D a dd) := by
  intro pins s σ H xs us Q I r h
  obtain ⟨c, cv, b, fs, rfl, hx, hcv, e, q⟩ := h
  obtain ⟨u1, u2, rfl, r1, r2⟩ := vals2 r
  cases (show u1 = Value.ref a from r1)
  have ec := hcv _ r2
  subst ec
  obtain ⟨od, J⟩ := inst_exc I hz hf hx
  exact PySem.W.kia_one (PySem.W.ec_kit C) I.kIn J e (fun z => nomatch z) fun tk => ⟨.bl b, H, I.kept (t' := tk) fun _ _ z => z, rfl, q⟩
/-- isinstance(e, (C1, C2, ..)) -/
def rIsDT (K : PySem.W.Frag) (D a dd : Addr) : List V → Hp → VK → Prop := fun xs H Q => ∃ (tp : Addr) (cs : List V) (us : List Value) (b : Bool) (fs : List (Str × V)), xs = [.ref a, .ref tp] ∧ H tp = some (.tup cs) ∧ Paired ClsV cs us ∧ H dd = some (.xd fs) ∧ PySem.W.kitAny K (.ref D) us = some b ∧ Q (.bl b) H
theorem call_isDT {X : Cx} {a D dd : Addr} {oe : Obj} {pn : List (Addr × Obj)} (C : PySem.W.EcD X.K D) (hz : Zc (.ref D) (some dd) oe) (hf : ∃ vs, oe.data = .fields vs) : CallR (X.suite a ((a, oe) :: pn)) (.builtin "isinstance") (rIsDT X.K D a dd) := by
  intro pins s σ H xs us Q I r h
  obtain ⟨tp, cs, ws, b, fs, rfl, hT, k, hx, e, q⟩ := h
  obtain ⟨u1, u2, rfl, r1, r2⟩ := vals2 r
  cases (show u1 = Value.ref a from r1)
  cases (show u2 = Value.ref tp from r2)
  obtain ⟨od, J⟩ := inst_exc I hz hf hx
  obtain ⟨_, its, rv, o, h1, h2, n, h3⟩ := (show ObjOk X.prog X.w H s.heap tp (.tup cs) from I.hok tp _ hT)
  have e3 := ClsV.all k rv
  subst e3
  obtain ⟨oc, od', dt, sl⟩ := o
  simp only at h2 h3
  subst h2 h3
  exact PySem.W.kia_tup (PySem.W.ec_kit C) I.kIn J h1 e (fun z => nomatch z) fun tk => ⟨.bl b, H, I.kept (t' := tk) fun _ _ z => z, rfl, q⟩
end QL
end
section
set_option Elab.async false
set_option linter.all false
set_option maxRecDepth 100000
set_option maxHeartbeats 4000000
set_option autoImplicit false
/-! QExc: own errors raised and caught. -/
namespace QL
open PySem PySem.Spec L2
open PyProof.Rows (envOfC)
open Classical
/-! ### an own error's __init__: its fields are stored -/
/-- the fields of an error, the last stored first -/
def fls {α : Type} (fl : List Str) (ys : List α) : List (Str × α) := (fl.zip ys).reverse
/-- the promise of such an __init__ -/
def spI (K : PySem.W.Frag) (fl : List Str) : Sp := fun vs H Q E => ∃ (a C : Addr) (ys : List V), vs = .ref a :: ys ∧ ys.length = fl.length ∧ OexC K C ∧ (∀ f ∈ fl, PySem.W.findIn K (.ref C) f = some none) ∧ H a = some (exo a C none) ∧
  ∀ dx, H dx = none → dx ≠ a → Q .non (upd (upd H dx (exd dx (fls fl ys))) a (exo a C (some dx)))
/-- what the written part says of an own error class with such an __init__ -/
structure ErC (P : Program) (w : World) (K : PySem.W.Frag) (mg : Str → Option Value) (base : Heap) (n : Str) (fl : List Str) : Prop where
  ex : ∃ C fI fd ps, mg n = some (.ref C) ∧ OexC K C ∧ PySem.W.EcD K C ∧ PySem.W.findIn K (.ref C) "__init__" = some (some (.ref fI)) ∧ PySem.W.typeIn K (.ref fI) = some (.type "function") ∧
    (∀ f ∈ fl, PySem.W.findIn K (.ref C) f = some none) ∧ Binds K fd ps [] ∧ FnOk P w K mg base (L2.CX P w) 1 fI fd ps (spI K fl)
section
variable {P : Program} {w : World} {K : PySem.W.Frag} {mg : Str → Option Value} {base : Heap}
theorem upd_comm {H : Hp} {a b : Addr} {o u : HO} (h : a ≠ b) : upd (upd H a o) b u = upd (upd H b u) a o := by
  funext c
  unfold upd
  by_cases h1 : c = b
  · by_cases h2 : c = a
    · exact absurd (h2.symm.trans h1) h
    · rw [if_pos h1, if_neg h2, if_pos h1]
  · rw [if_neg h1]
    by_cases h2 : c = a
    · rw [if_pos h2, if_pos h2]
    · rw [if_neg h2, if_neg h2, if_neg h1]
/-- one field -/
theorem init1 {qual x f : Str} {st : Stmt} {fI : Addr} {fd : FuncData} (F : Fun K "__init__" qual st fI fd) (S : FnScope ["self", x] ["self", x] (defScope st))
    (hb : ∀ (cdv : Value) (A : Around) (outer : List Env) (s : Shared) (H : Hp) (E : XK), PSs (cxOf (L2.CX P w) P w K mg base ["self", x] qual (defScope st) fI cdv A outer s H E) (defBody st) (tOst K f (tVar 0) (tVar 1))) : FnOk P w K mg base (L2.CX P w) 1 fI fd ["self", x] (spI K [f]) := by
  refine F.okX (k := 0) S (fun vs H Q E ⟨a, C, ys, e, l, _⟩ => by rw [e, List.length_cons, l]; rfl) fun cdv A outer s H vs Q E hr hsp => ⟨_, hb cdv A outer s H E, ?_⟩
  obtain ⟨a, C, ys, rfl, hl, T, no, ha, q⟩ := hsp
  match ys, hl with
  | [y], _ =>
    refine ⟨y, rfl, .ref a, rfl, a, C, rfl, T, no f List.mem_cons_self, .inl ⟨ha, fun dx n ne => ?_⟩⟩
    exact q dx n ne
/-- two fields -/
theorem init2 {qual x y f g : Str} {st : Stmt} {fI : Addr} {fd : FuncData} (F : Fun K "__init__" qual st fI fd) (S : FnScope ["self", x, y] ["self", x, y] (defScope st))
    (hb : ∀ (cdv : Value) (A : Around) (outer : List Env) (s : Shared) (H : Hp) (E : XK), PSs (cxOf (L2.CX P w) P w K mg base ["self", x, y] qual (defScope st) fI cdv A outer s H E) (defBody st) (tSeq (tOst K f (tVar 0) (tVar 1)) (tOst K g (tVar 0) (tVar 2)))) : FnOk P w K mg base (L2.CX P w) 1 fI fd ["self", x, y] (spI K [f, g]) := by
  refine F.okX (k := 0) S (fun vs H Q E ⟨a, C, ys, e, l, _⟩ => by rw [e, List.length_cons, l]; rfl) fun cdv A outer s H vs Q E hr hsp => ⟨_, hb cdv A outer s H E, ?_⟩
  obtain ⟨a, C, ys, rfl, hl, T, no, ha, q⟩ := hsp
  match ys, hl with
  | [y1, y2], _ =>
    refine ⟨y1, rfl, .ref a, rfl, a, C, rfl, T, no f List.mem_cons_self, .inl ⟨ha, fun dx n ne => ?_⟩⟩
    have e2 : upd (upd H dx (exd dx [(f, y1)])) a (exo a C (some dx)) dx = some (exd dx [(f, y1)]) := by rw [upd_ne ne, upd_same]
    refine ⟨y2, rfl, .ref a, rfl, a, C, rfl, T, no g (List.mem_cons_of_mem _ List.mem_cons_self), .inr ⟨dx, _, upd_same, e2, by show 1 ≤ 900; decide, ?_⟩⟩
    have e3 : upd (upd (upd H dx (exd dx [(f, y1)])) a (exo a C (some dx))) dx (exd dx [(g, y2), (f, y1)]) = upd (upd H dx (exd dx (fls [f, g] [y1, y2]))) a (exo a C (some dx)) := by
      rw [upd_comm (Ne.symm ne), upd_upd]
      rfl
    show Q .non _
    rw [e3]
    exact q dx n ne
end
/-! ### raise C(..) -/
def kRz (n : Str) (fl : List Str) (a : AF) : TF := fun S M => (a S M).thn S fun ds M1 => if ds.length = fl.length ∧ ds.length ≤ 1000 then .rz ⟨n, fls fl ds⟩ S M1 else .bad
theorem dvf_zip {c : Cn} {G : Gd} : ∀ {fl : List Str} {ds : List D} {vs : List V}, DVs c G ds vs → DVf c G (fl.zip ds) (fl.zip vs)
  | [], _, _, _ => by rw [List.zip_nil_left, List.zip_nil_left]; exact rfl
  | f :: fl, [], _, h => by
    cases (show _ = [] from h)
    exact rfl
  | f :: fl, d :: ds, _, h => by
    obtain ⟨v, t, rfl, q, r⟩ := h
    exact ⟨(f, v), _, rfl, ⟨rfl, q⟩, dvf_zip r⟩
theorem dvf_app {c : Cn} {G : Gd} : ∀ {xs ys : List (Str × D)} {us vs : List (Str × V)}, DVf c G xs us → DVf c G ys vs → DVf c G (xs ++ ys) (us ++ vs)
  | [], _, _, _, h, k => by
    cases (show _ = [] from h)
    exact k
  | (_, _) :: _, _, _, _, h, k => by
    obtain ⟨v, t, rfl, q, r⟩ := h
    exact ⟨v, t ++ _, rfl, q, dvf_app r k⟩
theorem dvf_rev {c : Cn} {G : Gd} : ∀ {xs : List (Str × D)} {us : List (Str × V)}, DVf c G xs us → DVf c G xs.reverse us.reverse
  | [], _, h => by
    cases (show _ = [] from h)
    exact rfl
  | (n, d) :: r, _, h => by
    obtain ⟨v, t, rfl, q, h⟩ := h
    rw [List.reverse_cons, List.reverse_cons]
    exact dvf_app (dvf_rev h) ⟨v, [], rfl, q, rfl⟩
section
variable {X : Cx} {W : WX} {n : Str} {fl : List Str} {e : Expr} {es : List Expr} {a : AF} {p pos pos' : Pos}
theorem qraise (hcalm : X.calm = true) (T : ErC X.prog X.w X.K X.mg X.base n fl) (hr : RoomG 2 X.A) (tk : Takes X W) (hg : Gl X n) (ha : QA X W (e :: es) a) (hdb : (n == ("__debug__" : Str)) = false := by decide)
    (he : starEach (e :: es) X.env = (false, eval e X.env) :: starEach es X.env := by rfl) (hpl : (backTo pos (starEach es X.env)).any (·.1) = false := by rfl) :
    QS X W (.Raise (some (.Call (.Name n p) (e :: es) [] pos)) none pos') (kRz n fl a) := by
  obtain ⟨C, fI, fd, ps, m1, T1, T2, iC, tI, no, b, F⟩ := T.ex
  refine PS.imp (ps_raise hcalm tk (pmk_oex (CX := L2.CX X.prog X.w) (k := 1) T1 iC tI F hr.toRoom b .nil passL hg m1 ha hdb he hpl)) fun D σ H h => ?_
  refine Up.imp (UpS.thn h) fun vs H1 ⟨G, S, ds, M, r, s, q, p⟩ => ?_
  split at p
  · rename_i hz
    refine ⟨by rw [q.length]; exact hz.2, fun x hx => ?_⟩
    rw [List.append_nil]
    refine ⟨x, C, vs, rfl, by rw [q.length]; exact hz.1, T1, no, upd_same, fun dx n1 ne => ⟨rfl, dx, fls fl vs, upd_same, by rw [upd_ne ne, upd_same], ?_, ?_⟩⟩
    · rwa [upd_ne ne] at n1
    · have nd : H1 dx = none := by rwa [upd_ne ne] at n1
      have eH : upd (del (upd (upd (upd H1 x (exo x C none)) dx (exd dx (fls fl vs))) x (exo x C (some dx))) x) dx (.xd (fls fl vs)) = upd H1 dx (.xd (fls fl vs)) := by
        funext c
        unfold upd del
        by_cases h1 : c = dx
        · rw [if_pos h1, if_pos h1]
        · rw [if_neg h1, if_neg h1]
          by_cases h2 : c = x
          · rw [if_pos h2, h2, hx]
          · rw [if_neg h2]
            show (if c = x then _ else if c = dx then _ else if c = x then _ else H1 c) = H1 c
            rw [if_neg h2, if_neg h1, if_neg h2]
      rw [eH]
      have g := Gr.newF (G := G) (o := .xd (fls fl vs)) (r.fz.free nd)
      exact p _ _ _ σ _ g (r.newF nd) (s.mono g) ⟨C, m1, rfl, .inr ⟨dx, _, rfl, upd_same, dvf_rev (dvf_zip (q.mono g))⟩⟩
  · exact p.elim
end
/-! ### try: .. except C as e: .. -/
def SR.off (i : Nat) : SR → SR
  | .nx S M => .nx (S.set i none) M
  | .bk S M => .bk (S.set i none) M
  | .ct S M => .ct (S.set i none) M
  | .rt d M => .rt d M
  | _ => .bad
/-- the answer that does not hang on where the error lies -/
noncomputable def pick (f : Addr → Addr → SR) : SR := if ∀ a b, f a b = f 0 0 then f 0 0 else .bad
noncomputable def kTry (cl : List Str) (i : Nat) (tb : TF) (su : Addr → Addr → Ex → TF) : TF := fun S M => match tb S M with
  | .rz x S2 M2 => if x.c ∈ cl ∧ x.fs ≠ [] then pick fun a dd => (su a dd x (S2.set i (some (.exc a dd x.c x.fs))) M2).off i else .bad
  | r => r
theorem SlR.offs {c : Cn} {G : Gd} {S : Sl} {σ : St} (h : SlR c G S σ) (i : Nat) : SlR c G (S.set i none) (σ.set i none) := by
  refine ⟨by rw [List.length_set, List.length_set]; exact h.1, fun j d e => ?_⟩
  by_cases z : i = j
  · subst z
    have hl : i < S.length := by
      have := (List.getElem?_eq_some_iff.mp e).1
      rwa [List.length_set] at this
    rw [List.getElem?_set_self hl] at e
    cases Option.some.inj e
  · rw [List.getElem?_set_ne z] at e
    rw [List.getElem?_set_ne z]
    exact h.2 j d e
section
variable {X : Cx} {W : WX} {cx n : Str} {c : Value} {i : Nat} {body suite : List Stmt} {b0 : Stmt} {np pos pos' : Pos} {tb : TF} {su : Addr → Addr → Ex → TF} {cl : List Str}
theorem qtry (hs : X.stack = X.env :: X.outer) (hf : X.env.frame = some X.env.locals) (hN : X.N.Nodup) (hi : X.N[i]? = some n) (hln : X.env.kindOf n = some .local) (hc : Names X cx c) (tk : Takes X W)
    (hall : ∀ nm ∈ cl, ∀ C, X.mg nm = some (.ref C) → PySem.W.exmOne X.K (.ref C) c = some true)
    (hb : ∀ (W' : WX) (pn : List (Addr × Obj)) (xe : Value → Shared → Prop), Takes (X.tr pn xe) W' → PassesOwn (model X.prog X.w) X.A X.env xe → QSs (X.tr pn xe) W' body tb)
    (hsu : ∀ (a dd C : Addr) (oe : Obj) (x : Ex) (pn : List (Addr × Obj)), x.c ∈ cl → X.mg x.c = some (.ref C) → Zc (.ref C) (some dd) oe → (∃ vs, oe.data = .fields vs) → QSs (X.suite a ((a, oe) :: pn)) (fun _ _ _ _ => False) (b0 :: suite) (su a dd x)) :
    QS X W (.Try body [.ExceptHandler (some (.Name cx np)) (some n) (b0 :: suite) pos'] [] [] pos) (kTry cl i tb su) := by
  refine PS.imp (ps_try_as hs hf hN hi hln hc tk (tb := fun W' => UpS (cn X) W' tb)
    (ts := fun a cls d D σ H => ∃ (x : Ex) (dd C : Addr), d = some dd ∧ cls = .ref C ∧ x.c ∈ cl ∧ X.mg x.c = some (.ref C) ∧ UpS (cn X) (fun _ _ _ _ => False) (su a dd x) D σ H) hb
    (fun a oe cls d pn hz hv => ⟨fun pins s σ H D I h => ?_⟩)) fun D σ H h => ?_
  · obtain ⟨x, dd, C, rfl, rfl, hcl, hm, h⟩ := h
    exact (hsu a dd C oe x pn hcl hm hz hv).run pins s σ H D I h
  · obtain ⟨G, S, M, r, s, p⟩ := h
    refine ⟨G, S, M, r, s, ?_⟩
    unfold kTry at p
    cases e : tb S M with
    | nx S2 M2 => rw [e] at p; exact p
    | rt d M2 => rw [e] at p; exact p
    | bk S2 M2 => rw [e] at p; exact p
    | ct S2 M2 => rw [e] at p; exact p
    | bad => rw [e] at p; exact p
    | rz x S2 M2 =>
      rw [e] at p
      simp only at p
      split at p
      · rename_i hz
        obtain ⟨hcl, hfs⟩ := hz
        intro G2 cls dd σ2 H2 g2 r2 s2 ⟨C, m, ec, q⟩
        subst ec
        refine ⟨true, hall x.c hcl C m, fun _ a na => ?_, fun z => by cases z⟩
        rcases q with q | ⟨d0, ws, ed, fz, df⟩
        · exact absurd q hfs
        · refine ⟨x, d0, C, ed, rfl, hcl, m, G2, _, M2, r2, s2.set (d := .exc a d0 x.c x.fs) ⟨rfl, ⟨C, m⟩, ws, fz, df⟩, ?_⟩
          unfold pick at p
          split at p
          · rename_i hp
            rw [← hp a d0] at p
            have p : PostS (cn X) W G2 D ((su a d0 x (S2.set i (some (.exc a d0 x.c x.fs))) M2).off i) := PostS.mono g2 p
            cases e3 : su a d0 x (S2.set i (some (.exc a d0 x.c x.fs))) M2 with
            | nx S3 M3 => rw [e3] at p; exact fun G3 σ3 H3 g3 r3 s3 => p G3 _ H3 g3 r3 (s3.offs i)
            | bk S3 M3 => rw [e3] at p; exact fun G3 σ3 H3 g3 r3 s3 => p G3 _ H3 g3 r3 (s3.offs i)
            | ct S3 M3 => rw [e3] at p; exact fun G3 σ3 H3 g3 r3 s3 => p G3 _ H3 g3 r3 (s3.offs i)
            | rt d M3 => rw [e3] at p; exact p
            | rz x3 S3 M3 => rw [e3] at p; exact p.elim
            | bad => rw [e3] at p; exact p.elim
          · exact p.elim
      · exact p.elim
end
/-! ### in the suite: isinstance(e, C), isinstance(e, (C, D)), e.f -/
def eIsX (a dd : Addr) (b : Bool) (e : EF) : EF := fun S M => (e S M).bind fun d M1 => match d with
  | .exc a' dd' _ _ => if a' = a ∧ dd' = dd then .ok (.bl b) M1 else .bad
  | _ => .bad
def eXF (a dd : Addr) (f : Str) (e : EF) : EF := fun S M => (e S M).bind fun d M1 => match d with
  | .exc a' dd' _ fs => if a' = a ∧ dd' = dd then match fs.lookup f with
      | some y => .ok y M1
      | none => .bad
    else .bad
  | _ => .bad
section
variable {X : Cx} {W : WX} {a dd C Ct : Addr} {oe : Obj} {pn : List (Addr × Obj)} {e : Expr} {fe : EF} {p p2 pos : Pos} {t f : Str} {b : Bool}
theorem qisX (Ec : PySem.W.EcD X.K C) (hz : Zc (.ref C) (some dd) oe) (hv : ∃ vs, oe.data = .fields vs) (hg : Gl (X.suite a ((a, oe) :: pn)) "isinstance") (hm : X.mg "isinstance" = none) (he : QE (X.suite a ((a, oe) :: pn)) W e fe) (gt : Gl (X.suite a ((a, oe) :: pn)) t) (mt : X.mg t = some (.ref Ct))
    (hk : PySem.W.kitOne X.K (.ref C) (.ref Ct) = some b) (hdt : (t == ("__debug__" : Str)) = false := by decide)
    (h1 : starEach [e, .Name t p2] (X.suite a ((a, oe) :: pn)).env = (false, eval e (X.suite a ((a, oe) :: pn)).env) :: starEach [.Name t p2] (X.suite a ((a, oe) :: pn)).env := by rfl)
    (h2 : starEach [.Name t p2] (X.suite a ((a, oe) :: pn)).env = (false, eval (.Name t p2) (X.suite a ((a, oe) :: pn)).env) :: starEach [] (X.suite a ((a, oe) :: pn)).env := by rfl) (hp : (backTo pos (starEach [.Name t p2] (X.suite a ((a, oe) :: pn)).env)).any (·.1) = false := by rfl) :
    QE (X.suite a ((a, oe) :: pn)) W (.Call (.Name "isinstance" p) [e, .Name t p2] [] pos) (eIsX a dd b fe) :=
  PE.imp (pe_callB (call_isD Ec hz hv) hg hm (by decide +kernel) (pa_cons he (pa_cons (pe_glob (v := .ref Ct) gt mt rfl hdt) pa_nil h2) h1) (by decide) (by decide) h1 hp) fun σ H Q h => by
    refine Up.imp (Up.bind h) fun v H1 ⟨G, S, d, M, r, s, q, p⟩ => ?_
    split at p
    · rename_i a' dd' n' fs'
      split at p
      · rename_i hz
        obtain ⟨rfl, rfl⟩ := hz
        obtain ⟨rfl, _, ws, fz, _⟩ := q
        have hx : H1 dd' = some (.xd ws) := by
          rcases r.fz _ _ fz with z | ⟨z, _⟩
          · exact z
          · cases z
        exact ⟨.ref Ct, .ref Ct, b, ws, rfl, hx, fun u z => z, hk, p G _ H1 (Gr.refl _) r rfl⟩
      · exact p.elim
    · exact p.elim
theorem qisXT {es : List Expr} {cs : List V} {us : List Value} {p3 : Pos} {x3} (Ec : PySem.W.EcD X.K C) (hz : Zc (.ref C) (some dd) oe) (hv : ∃ vs, oe.data = .fields vs) (hg : Gl (X.suite a ((a, oe) :: pn)) "isinstance") (hm : X.mg "isinstance" = none) (he : QE (X.suite a ((a, oe) :: pn)) W e fe)
    (hes : PA (X.suite a ((a, oe) :: pn)) es (fun σ H Q => Q cs H)) (hcs : Paired ClsV cs us) (h64 : cs.length ≤ sizeLine) (hk : PySem.W.kitAny X.K (.ref C) us = some b)
    (h1 : starEach [e, .Tuple es x3 p3] (X.suite a ((a, oe) :: pn)).env = (false, eval e (X.suite a ((a, oe) :: pn)).env) :: starEach [.Tuple es x3 p3] (X.suite a ((a, oe) :: pn)).env := by rfl)
    (h2 : starEach [.Tuple es x3 p3] (X.suite a ((a, oe) :: pn)).env = (false, eval (.Tuple es x3 p3) (X.suite a ((a, oe) :: pn)).env) :: starEach [] (X.suite a ((a, oe) :: pn)).env := by rfl) (hp : (backTo pos (starEach [.Tuple es x3 p3] (X.suite a ((a, oe) :: pn)).env)).any (·.1) = false := by rfl) :
    QE (X.suite a ((a, oe) :: pn)) W (.Call (.Name "isinstance" p) [e, .Tuple es x3 p3] [] pos) (eIsX a dd b fe) :=
  PE.imp (pe_callB (call_isDT Ec hz hv) hg hm (by decide +kernel) (pa_cons he (pa_cons (pe_tup hes) pa_nil h2) h1) (by decide) (by decide) h1 hp) fun σ H Q h => by
    refine Up.imp (Up.bind h) fun v H1 ⟨G, S, d, M, r, s, q, p⟩ => ?_
    split at p
    · rename_i a' dd' n' fs'
      split at p
      · rename_i hz
        obtain ⟨rfl, rfl⟩ := hz
        obtain ⟨rfl, _, ws, fz, _⟩ := q
        have hx : H1 dd' = some (.xd ws) := by
          rcases r.fz _ _ fz with z | ⟨z, _⟩
          · exact z
          · cases z
        refine ⟨h64, fun tp ht => ⟨tp, cs, us, b, ws, rfl, upd_same, hcs, ?_, hk, ?_⟩⟩
        · rw [upd_ne (ne_of_none hx ht)]
          exact hx
        · exact p _ _ _ (Gr.newF (r.fz.free ht)) (r.newF ht) rfl
      · exact p.elim
    · exact p.elim
theorem qxf (Ec : PySem.W.EcD X.K C) (no : PySem.W.findIn X.K (.ref C) f = some none) (hz : Zc (.ref C) (some dd) oe) (hv : ∃ vs, oe.data = .fields vs) (he : QE (X.suite a ((a, oe) :: pn)) W e fe) (hb : attributeBase e f (X.suite a ((a, oe) :: pn)).env (eval e (X.suite a ((a, oe) :: pn)).env) = eval e (X.suite a ((a, oe) :: pn)).env := by rfl) :
    QE (X.suite a ((a, oe) :: pn)) W (.Attribute e f pos) (eXF a dd f fe) := PE.imp (pe_xf ⟨Ec.ga, Ec.gt, Ec.sb, Ec.dc⟩ no hz hv he hb) fun σ H Q h => by
  refine Up.imp (Up.bind h) fun v H1 ⟨G, S, d, M, r, s, q, p⟩ => ?_
  split at p
  · rename_i a' dd' n' fs'
    split at p
    · rename_i hz
      obtain ⟨rfl, rfl⟩ := hz
      obtain ⟨rfl, _, ws, fz, df⟩ := q
      split at p
      · rename_i y hy
        have hx : H1 dd' = some (.xd ws) := by
          rcases r.fz _ _ fz with z | ⟨z, _⟩
          · exact z
          · cases z
        have lk := df.lookup (f := f)
        rw [hy] at lk
        obtain ⟨u, lu, qu⟩ := lk
        exact ⟨rfl, rfl, dd', ws, u, rfl, hx, lu, p G u H1 (Gr.refl _) r qu⟩
      · exact p.elim
    · exact p.elim
  · exact p.elim
end
end QL
end
section
set_option Elab.async false
set_option linter.all false
set_option maxRecDepth 100000
set_option maxHeartbeats 4000000
set_option autoImplicit false
/-! QPur: isinstance of built-in types, walks over dicts and texts, dict(pairs), xs.pop(i). -/
namespace QL
open PySem PySem.Spec L2
open Classical
/-! ### isinstance(x, T) -/
def eIsT (t : String) (e : EF) : EF := fun S M => (e S M).bind fun d M1 => match tyName M1 d with
  | some n => .ok (.bl (isTy n t)) M1
  | none => .bad
section
variable {X : Cx} {W : WX} {e : Expr} {fe : EF} {p p2 pos : Pos} {t : Str} {T : String}
theorem qisT (hT : T ∈ ["bool", "int", "str", "tuple", "list", "dict"]) (hg : Gl X "isinstance") (hm : X.mg "isinstance" = none) (he : QE X W e fe) (gt : Gl X t) (mt : X.mg t = none) (hv : bootBuiltins t = some (.type T)) (hn : t ≠ "__name__" := by decide) (hdt : (t == ("__debug__" : Str)) = false := by decide)
    (h1 : starEach [e, .Name t p2] X.env = (false, eval e X.env) :: starEach [.Name t p2] X.env := by rfl) (h2 : starEach [.Name t p2] X.env = (false, eval (.Name t p2) X.env) :: starEach [] X.env := by rfl) (hp : (backTo pos (starEach [.Name t p2] X.env)).any (·.1) = false := by rfl) :
    QE X W (.Call (.Name "isinstance" p) [e, .Name t p2] [] pos) (eIsT T fe) :=
  PE.imp (pe_callB call_isi hg hm (by decide +kernel) (pa_cons he (pa_cons (pe_bltn (v := .ty T) gt mt hv rfl hn hdt) pa_nil h2) h1) (by decide) (by decide) h1 hp) fun σ H Q h => by
    refine Up.imp (Up.bind h) fun v H1 ⟨G, S, d, M, r, s, q, p⟩ => ?_
    split at p
    · rename_i n hn
      exact ⟨v, .ty T, .type n, .type T, isTy n T, rfl, .ty T, tyName_at r q hn, kit_ty (kit_all n (tyName_in hn) T hT), p G _ H1 (Gr.refl _) r rfl⟩
    · exact p.elim
end
/-! ### walks -/
theorem PI.or {X : Cx} {tg e : Expr} {t t' : TI} (h : PI X tg e t) (h' : PI X tg e t') : PI X tg e (fun σ H R => t σ H R ∨ t' σ H R) := ⟨fun pins s σ H R I z => z.elim (h.run pins s σ H R I) (h'.run pins s σ H R I)⟩
def kD : Key → D
  | .inl i => .int i
  | .inr x => .str x
theorem kD_V {c : Cn} {G : Gd} (k : Key) : DV c G (kD k) (kV k) := by cases k <;> rfl
/-- for x in d, d a dict that will not change -/
def iKeysF (e : EF) : IF := fun S M => (e S M).bind fun d M1 => match d with
  | .dK kvs => .ok ⟨kvs.map fun kv => kD kv.1, none⟩ M1
  | _ => .bad
/-- .. in d.items() -/
def iItemsF (e : EF) : IF := fun S M => (e S M).bind fun d M1 => match d with
  | .dK kvs => .ok ⟨kvs.map fun kv => .tup [kD kv.1, kv.2], none⟩ M1
  | _ => .bad
theorem fz_at {F H : Hp} (z : Fz F H) {a : Addr} {o : Obj} {u : HO} (h : F a = some (.frz o u)) : H a = some (.frz o u) := by
  rcases z _ _ h with y | ⟨y, _⟩
  · exact y
  · cases y
section
variable {X : Cx} {W : WX} {tg l : Expr} {f : EF} {apos cpos : Pos}
theorem kr_at {c : Cn} {G : Gd} : ∀ {kvs : List (Key × D)} {ws : List (Key × V)}, Paired (KR c G) kvs ws → ∀ i : Nat, (h : i < kvs.length) → ∃ w, ws[i]? = some (kvs[i].1, w) ∧ DV c G kvs[i].2 w
  | _, _, .cons r t, 0, _ => ⟨_, by rw [List.getElem?_cons_zero, List.getElem_cons_zero, ← r.1], r.2⟩
  | _ :: kvs, _, .cons r t, i + 1, h => by
    obtain ⟨w, e, q⟩ := kr_at t i (by rw [List.length_cons] at h; omega)
    exact ⟨w, e, q⟩
theorem qi_keys (h : QE X W l f) : QI X W tg l (iKeysF f) := PI.imp (pi_keys h) fun σ H R h => by
  refine Up.imp (UpI.bind h) fun v H1 ⟨G, S, d, M, r, s, q, p⟩ => ?_
  split at p
  · rename_i kvs
    obtain ⟨a, ws, o, rfl, fz, t⟩ := q
    have lw := kr_len t.pr
    refine ⟨a, o, rfl, .inl ⟨ws, fz_at r.fz fz, p G _ H1 (Gr.refl _) r fun G' H' M' g r' _ => ?_⟩⟩
    have hl : (kvs.map fun kv => kD kv.1).length = kvs.length := List.length_map _
    have hd := fz_at r'.fz (g.F _ _ fz)
    refine ⟨fun i hi => ?_, fun i hi => ⟨hd, by rw [hl] at hi; show ws.length ≤ i; omega⟩⟩
    rw [hl] at hi
    refine ⟨⟨hd, by omega⟩, fun x H2 y => ?_⟩
    obtain ⟨rfl, k, w, e, rfl⟩ := y
    obtain ⟨w', e', _⟩ := kr_at (t.mono0 g).pr i hi
    rw [e'] at e
    cases e
    refine ⟨G', _, ?_, Gr.refl _, r', kD_V _⟩
    rw [List.getElem?_map, List.getElem?_eq_getElem hi]
    rfl
  · exact p.elim
theorem qi_items {elts : List Expr} {kk : Nat} {tpos : Pos} (h : QE X W l f) (hbase : attributeBase l "items" X.env (eval l X.env) = eval l X.env := by rfl) (hline : (apos.endLine == cpos.line) = true := by rfl) :
    QI X W (.Tuple elts kk tpos) (.Call (.Attribute l "items" apos) [] [] cpos) (iItemsF f) := PI.imp (pi_items h hbase hline) fun σ H R h => by
  refine Up.imp (UpI.bind h) fun v H1 ⟨G, S, d, M, r, s, q, p⟩ => ?_
  split at p
  · rename_i kvs
    obtain ⟨a, ws, o, rfl, fz, t⟩ := q
    have lw := kr_len t.pr
    refine ⟨a, o, ws, rfl, fz_at r.fz fz, p G _ H1 (Gr.refl _) r fun G' H' M' g r' _ => ?_⟩
    have hl : (kvs.map fun kv => D.tup [kD kv.1, kv.2]).length = kvs.length := List.length_map _
    have hd := fz_at r'.fz (g.F _ _ fz)
    refine ⟨fun i hi => ?_, fun i hi => ⟨hd, by rw [hl] at hi; show ws.length ≤ i; omega⟩⟩
    rw [hl] at hi
    refine ⟨⟨hd, by omega⟩, fun x H2 y => ?_⟩
    obtain ⟨T, k, w, e, rfl, hT, rfl⟩ := y
    obtain ⟨w', e', qw⟩ := kr_at (t.mono0 g).pr i hi
    rw [e'] at e
    cases e
    have gn : Gr G' { G' with F := upd G'.F T (.tup [kV kvs[i].1, w]) } := Gr.newF (r'.fz.free hT)
    refine ⟨_, .tup [kD kvs[i].1, kvs[i].2], ?_, gn, r'.newF hT, ⟨T, _, rfl, upd_same, DVs.cons (kD_V _) (DVs.one (qw.mono gn))⟩⟩
    rw [List.getElem?_map, List.getElem?_eq_getElem hi]
    rfl
  · exact p.elim
end
/-! ### dict(pairs) -/
def pairsOf : List D → Option (List (Key × D))
  | [] => some []
  | .tup [k, v] :: r => match keyOf k, pairsOf r with
    | some key, some t => some ((key, v) :: t)
    | _, _ => none
  | _ => none
def mergeKD (kvs more : List (Key × D)) : List (Key × D) := more.foldl (fun acc kv => putKD acc kv.1 kv.2) kvs
theorem kr_merge {c : Cn} {G : Gd} : ∀ {more : List (Key × D)} {ms : List (Key × V)} {kvs : List (Key × D)} {ws : List (Key × V)}, Paired (KR c G) more ms → Paired (KR c G) kvs ws → Paired (KR c G) (mergeKD kvs more) (mergeK ws ms) := by
  intro more ms kvs ws h
  induction h generalizing kvs ws with
  | nil => exact fun k => k
  | @cons p q ps qs r t ih =>
    intro k
    have e := kr_put k p.1 r.2
    rw [← r.1] at e
    show Paired (KR c G) (mergeKD (putKD kvs p.1 p.2) ps) (mergeK (putK ws q.1 q.2) qs)
    refine ih ?_
    rw [← r.1]
    exact e
theorem pairs_at {c : Cn} {G : Gd} {H : Hp} (z : Fz G.F H) : ∀ {ds : List D} {vs : List V} {kvs : List (Key × D)}, DVs c G ds vs → pairsOf ds = some kvs → ∃ (ps : List Addr) (ws : List (Key × V)), vs = ps.map V.ref ∧ Paired (fun (p : Addr) (kv : Key × V) => SqT c.K H p [kV kv.1, kv.2]) ps ws ∧ Paired (KR c G) kvs ws
  | [], _, _, h, e => by
    cases (show _ = [] from h)
    cases e
    exact ⟨[], [], rfl, .nil, .nil⟩
  | d :: r, _, kvs, h, e => by
    obtain ⟨v, t, rfl, q, h⟩ := h
    unfold pairsOf at e
    split at e
    · rename_i heq
      cases heq
    · rename_i k w r' heq
      cases heq
      split at e
      · rename_i key t' e1 e2
        cases e
        obtain ⟨a, vs, rfl, fa, qs⟩ := q
        obtain ⟨v1, t1, rfl, q1, qs⟩ := qs
        obtain ⟨v2, t2, rfl, q2, qs⟩ := qs
        cases (show t2 = [] from qs)
        obtain ⟨ps, ws, rfl, p1, p2⟩ := pairs_at z h e2
        rw [keyOf_at q1 e1] at fa
        exact ⟨a :: ps, (key, v2) :: ws, rfl, .cons (.inl (.inl (z.tup fa))) p1, .cons ⟨rfl, q2⟩ p2⟩
      · cases e
    · cases e
def bDictP (ds : List D) (M : Mem) : Res D := match ds with
  | [d] => match asL M d with
    | some xs => match pairsOf xs with
      | some kvs => .ok (.ptr M.length) (M ++ [.dK (mergeKD [] kvs)])
      | none => .bad
    | none => .bad
  | _ => .bad
theorem rc_dictP {c : Cn} : RCs c bDictP (fun xs H Q => ∃ (a : Addr) (ps : List Addr) (kvs : List (Key × V)), xs = [.ref a] ∧ SqL c.K H a (ps.map V.ref) ∧ Paired (fun p kv => SqT c.K H p [kV kv.1, kv.2]) ps kvs ∧ ∀ p, H p = none → Q (.ref p) (upd H p (.dK (mergeK [] kvs)))) := by
  intro W σ G H M vs ds Q r q p
  unfold bDictP at p
  split at p
  · split at p
    · rename_i xs hx
      split at p
      · rename_i kvs hk
        obtain ⟨v, t, rfl, q1, qt⟩ := q
        cases (show t = [] from qt)
        obtain ⟨a, us, rfl, s, t⟩ := asL_at r q1 hx
        obtain ⟨ps, ws, rfl, p1, p2⟩ := pairs_at r.fz t hk
        refine ⟨a, ps, ws, rfl, s, p1, fun x hx' => ?_⟩
        have g := Gr.newP (G := G) x
        have tt := kr_merge p2 (.nil : Paired (KR c G) [] [])
        exact p _ _ _ g (r.newP hx' (mo := .dK (mergeKD [] kvs)) ⟨_, upd_same, (DVk.of tt).mono g⟩) (ptr_new r)
      · exact p.elim
    · exact p.elim
  · exact p.elim
section
variable {X : Cx} {W : WX} {e : Expr} {a : AF} {p pos : Pos}
theorem qdictP (hc : X.calm = true) (hg : Gl X "dict") (hm : X.mg "dict" = none) (ha : QA X W [e] a) (he : starEach [e] X.env = (false, eval e X.env) :: starEach [] X.env := by rfl) (hpl : (backTo pos (starEach [] X.env)).any (·.1) = false := by rfl) :
    QE X W (.Call (.Name "dict" p) [e] [] pos) (eCall bDictP a) := q_ct (call_dictP hc) rc_dictP hg hm ha (by decide +kernel) (by decide) (by decide) he hpl
end
/-! ### xs.pop(i) -/
def ePopI (o v : EF) : EF := fun S M => (o S M).bind fun d M1 => match asL M1 d with
  | some _ => (v S M1).bind fun y M2 => match d with
    | .ptr k => match M2[k]? with
      | some (.lst ds) => match y with
        | .int i => match L2.ixN ds.length i with
          | some j => match ds[j]? with
            | some w => if ds.length ≤ sizeLine then .ok w (M2.set k (.lst (ds.eraseIdx j))) else .bad
            | none => .bad
          | none => .bad
        | _ => .bad
      | _ => .bad
    | _ => .bad
  | none => .bad
theorem DVs.eraseIdx {c : Cn} {G : Gd} : ∀ {ds : List D} {vs : List V} (h : DVs c G ds vs) (j : Nat), DVs c G (ds.eraseIdx j) (vs.eraseIdx j)
  | [], _, h, j => by
    cases (show _ = [] from h)
    exact rfl
  | d :: r, _, h, 0 => by
    obtain ⟨v, t, rfl, q, h⟩ := h
    exact h
  | d :: r, _, h, j + 1 => by
    obtain ⟨v, t, rfl, q, h⟩ := h
    exact ⟨v, _, rfl, q, DVs.eraseIdx h j⟩
section
variable {X : Cx} {W : WX} {o e : Expr} {fo fe : EF} {apos pos : Pos}
theorem qpopI (ho : QE X W o fo) (he : QE X W e fe)
    (hbase : attributeBase o "pop" X.env (eval o X.env) = eval o X.env := by rfl)
    (hfew : ((backTo pos (starEach [e] X.env)).all (fun x => !x.1) && (backToKw pos (keywordEach [] X.env)).all (fun x => x.1.isSome)
      && decide ([e].length + ([] : List Keyword).length + (if ([] : List Keyword).isEmpty then 0 else 1) < 30)) = true := by rfl)
    (hline : (apos.endLine == pos.line) = true := by rfl) (hs : starEach [e] X.env = (false, eval e X.env) :: starEach [] X.env := by rfl) (hplain : (backTo pos (starEach [] X.env)).any (·.1) = false := by rfl) :
    QE X W (.Call (.Attribute o "pop" apos) [e] [] pos) (ePopI fo fe) := PE.imp (pe_bm PySem.F.plainAttrs_list PySem.F.slot_list_pop PySem.F.type_list_pop mt_popAt ho (pa_cons he pa_nil hs) hbase hfew hline hs hplain) fun σ H Q h => by
  refine Up.imp (Up.bind h) fun x H1 ⟨G, S, d, M, r, s, q, p⟩ => ?_
  split at p
  · rename_i ds0 hds
    obtain ⟨a, vs, rfl, sq, t⟩ := asL_at r q hds
    refine ⟨.inl ⟨rfl, vs, sq⟩, G, S, M, r, s, (Post.bind (rel := DV (cn X)) p).imp fun y H2 ⟨G2, dy, M2, g2, r2, q2, p2⟩ => ?_⟩
    obtain ⟨k, rfl⟩ : ∃ k, d = .ptr k := by cases d <;> first | exact ⟨_, rfl⟩ | exact p2.elim
    simp only at p2
    split at p2
    · rename_i ds ek
      split at p2
      · rename_i i
        split at p2
        · rename_i j hj
          split at p2
          · rename_i w hw
            split at p2
            · rename_i hz
              obtain ⟨a2, e1, e2⟩ := q.mono g2
              cases e2
              obtain ⟨us, hu, q3⟩ := r2.mem k _ a ek e1
              obtain ⟨v, ev, qv⟩ := q3.get hw
              obtain ⟨s1, _, b1, b2⟩ := ixN_seq hj
              have z : (sizeLine : Int) < 2 ^ 63 := by decide
              exact ⟨a, us, i, j, v, rfl, by rw [show y = V.int i from q2], hu, by omega, by omega, by rw [q3.length]; exact s1, ev, p2 G2 _ _ (Gr.refl _) (r2.write ek e1 rfl ⟨_, upd_same, q3.eraseIdx j⟩) qv⟩
            · exact p2.elim
          · exact p2.elim
        · exact p2.elim
      · exact p2.elim
    · exact p2.elim
  · exact p.elim
end
end QL
end
section
set_option Elab.async false
set_option linter.all false
set_option maxRecDepth 100000
set_option maxHeartbeats 4000000
set_option autoImplicit false
/-! QTop: classes and errors by their names. -/
namespace QL
open PySem PySem.Spec L2
open PyProof.Rows (envOfC)
open Classical
/-- where the thing of that name lies -/
def adr (mg : Str → Option Value) (n : Str) : Addr := match mg n with
  | some (.ref a) => a
  | _ => 0
theorem adr_eq {mg : Str → Option Value} {n : Str} {a : Addr} (h : mg n = some (.ref a)) : adr mg n = a := by
  unfold adr
  rw [h]
theorem adr_at {mg : Str → Option Value} {n : Str} {a : Addr} (h : mg n = some (.ref a)) : mg n = some (.ref (adr mg n)) := by rw [adr_eq h]; exact h
section
variable {P : Program} {w : World} {K : PySem.W.Frag} {mg : Str → Option Value} {base : Heap}
def RawC (K : PySem.W.Frag) (mg : Str → Option Value) (cl qual : Str) (st : Stmt) (ps : List Str) : Prop :=
  ∃ C f fd, mg cl = some (.ref C) ∧ Mk K C f ∧ Fun K "__init__" qual st f fd ∧ Binds K fd ps []
theorem RawC.has {cl qual : Str} {st : Stmt} {N ps : List Str} {k m : Nat} {t : TF} (R : RawC K mg cl qual st ps) (S : FnScope N ps (defScope st)) (hN : N.length = ps.length + m)
    (hb : ∀ (f : Addr) (cdv : Value) (A : Around) (outer : List Env) (s : Shared) (H : Hp) (E : XK), RoomG k (A.deeper (envOfC qual (defScope st) s.heap.objs.size f cdv)) → QSs (cxQ P w K mg base N qual st f cdv A outer s H E) (WF E) (defBody st) t) :
    HasC P w K mg base (k + 1) cl ps (runF ps.length m t) := by
  obtain ⟨C, f, fd, m1, me, F, b⟩ := R
  exact ⟨C, f, fd, m1, me, b, okQ F S hN (hb f)⟩
end
section
variable {X : Cx} {W : WX} {pos : Pos}
theorem qgI {x : Str} {i : Int} (hg : Gl X x) (hm : ∃ t, X.mg x = some (.int i t)) (hd : (x == ("__debug__" : Str)) = false := by decide) : QE X W (.Name x pos) (eC (.int i)) := by
  obtain ⟨t, h⟩ := hm
  exact qglobI hg h hd
theorem qgS {x : Str} {i : Str} (hg : Gl X x) (hm : ∃ t, X.mg x = some (.str i t)) (hd : (x == ("__debug__" : Str)) = false := by decide) : QE X W (.Name x pos) (eC (.str i)) := by
  obtain ⟨t, h⟩ := hm
  exact qglobS hg h hd
end
/-- the own errors all stand one below the base class -/
def subE (n t : Str) : Bool := decide (n = t) || decide (t = "ClubError")
theorem kitAny_map {K : PySem.W.Frag} {D : Value} {f : Str → Bool} {g : Str → Addr} : ∀ ts : List Str, (∀ t ∈ ts, PySem.W.kitOne K D (.ref (g t)) = some (f t)) → PySem.W.kitAny K D (ts.map fun t => .ref (g t)) = some (ts.any f)
  | [], _ => kitAny_nil
  | t :: ts, h => by
    rw [List.map_cons, List.any_cons]
    refine kitAny_cons (h t List.mem_cons_self) (fun e => ?_) fun e => ?_
    · rw [e, Bool.false_or]
      exact kitAny_map ts fun x hx => h x (List.mem_cons_of_mem _ hx)
    · rw [e, Bool.true_or]
section
variable {X : Cx} {W : WX} {cx n : Str} {i : Nat} {body suite : List Stmt} {b0 : Stmt} {np pos pos' : Pos} {tb : TF} {su : Addr → Addr → Ex → TF} {cl : List Str}
theorem qtryA (hs : X.stack = X.env :: X.outer) (hf : X.env.frame = some X.env.locals) (hN : X.N.Nodup) (hi : X.N[i]? = some n) (hln : X.env.kindOf n = some .local) (gc : Gl X cx) (mc : X.mg cx = some (.ref (adr X.mg cx))) (tk : Takes X W)
    (hall : ∀ nm ∈ cl, PySem.W.exmOne X.K (.ref (adr X.mg nm)) (.ref (adr X.mg cx)) = some true)
    (hb : ∀ (W' : WX) (pn : List (Addr × Obj)) (xe : Value → Shared → Prop), Takes (X.tr pn xe) W' → PassesOwn (model X.prog X.w) X.A X.env xe → QSs (X.tr pn xe) W' body tb)
    (hsu : ∀ (a dd : Addr) (oe : Obj) (x : Ex) (pn : List (Addr × Obj)), x.c ∈ cl → Zc (.ref (adr X.mg x.c)) (some dd) oe → (∃ vs, oe.data = .fields vs) → QSs (X.suite a ((a, oe) :: pn)) (fun _ _ _ _ => False) (b0 :: suite) (su a dd x)) (hdb : (cx == ("__debug__" : Str)) = false := by decide) :
    QS X W (.Try body [.ExceptHandler (some (.Name cx np)) (some n) (b0 :: suite) pos'] [] [] pos) (kTry cl i tb su) :=
  qtry (c := .ref (adr X.mg cx)) hs hf hN hi hln ⟨gc, hdb, .inl mc⟩ tk (fun nm hn C hC => by rw [← adr_eq hC]; exact hall nm hn) hb fun a dd C oe x pn hcl hC hz hv => hsu a dd oe x pn hcl (by rw [adr_eq hC]; exact hz) hv
end
/-- how the class of an own error is told -/
theorem ErC.mk1 {P : Program} {w : World} {K : PySem.W.Frag} {mg : Str → Option Value} {base : Heap} {n : Str} {fl ps : List Str} {C fI : Addr} {fd : FuncData} (m1 : mg n = some (.ref C)) (T1 : OexC K C) (T2 : PySem.W.EcD K C) (iC : PySem.W.findIn K (.ref C) "__init__" = some (some (.ref fI))) (tI : PySem.W.typeIn K (.ref fI) = some (.type "function"))
    (no : ∀ f ∈ fl, PySem.W.findIn K (.ref C) f = some none) (b : Binds K fd ps []) (F : FnOk P w K mg base (L2.CX P w) 1 fI fd ps (spI K fl)) : ErC P w K mg base n fl := ⟨⟨C, fI, fd, ps, m1, T1, T2, iC, tI, no, b, F⟩⟩
end QL
end
section
set_option Elab.async false
set_option linter.all false
set_option maxRecDepth 100000
set_option maxHeartbeats 4000000
set_option autoImplicit false
/-! QLc2: list comprehensions with two fors. -/
namespace QL
open PySem PySem.Spec L2
open Classical
/-- the outer turns -/
noncomputable def lcO (gd : Mem → Prop) (g : GF) (b : BF) (f1 : IF) (g1 : GF) (b1 : BF) (e : EF) (S0 : Sl) (vs1 : List Nat) : List D → List D → Mem → Res (List D)
  | [], acc, M => if gd M then .ok acc M else .bad
  | d :: r, acc, M => if gd M then match g d S0 M with
      | .ok S1 M1 => match b S1 M1 with
        | .ok true M2 => match f1 S1 M2 with
          | .ok I M3 => match lcL I.gd g1 b1 e (kl vs1 S1) I.ds acc M3 with
            | .ok acc2 M4 => lcO gd g b f1 g1 b1 e S0 vs1 r acc2 M4
            | _ => .bad
          | _ => .bad
        | .ok false M2 => lcO gd g b f1 g1 b1 e S0 vs1 r acc M2
        | _ => .bad
      | _ => .bad
    else .bad
noncomputable def eLc2 (f : IF) (g : GF) (b : BF) (f1 : IF) (g1 : GF) (b1 : BF) (e : EF) (vs vs1 : List Nat) : EF := fun S M => (f S M).bind fun I M1 => (lcO I.gd g b f1 g1 b1 e (kl vs S) vs1 I.ds [] M1).bind fun ys M2 => .ok (.lst ys) M2
section
variable {X : Cx} {W : WX} {tg iter tg1 iter1 elt : Expr} {ifs ifs1 : List Expr} {scope : Scope} {own : List (Str × Nat)} {pos : Pos} {f f1 : IF} {g g1 : GF} {b b1 : BF} {e : EF}
theorem lc_in {c : Cn} {σ : St} {vs : List Nat} {G1 : Gd} {S : Sl} {H1 : Hp} {M1 : Mem} {I : Its} {J : It} {D : Addr} {P0 : List (Addr × HO)} {us0 : List V} {acc0 : List QL.D} {Qd : Hp → Prop} (r1 : Rep c G1 H1 M1) (eP0 : G1.P = (D, .lst us0) :: P0) (nP : ∀ q ∈ P0, q.1 ≠ D) (q0 : DVs c G1 acc0 us0) (s1 : SlR c G1 S σ) (w1 : Wk c G1 J I.ds I.gd)
    (ne : lcL I.gd g b e (kl vs S) I.ds acc0 M1 ≠ .bad) (hq : ∀ ys M2, lcL I.gd g b e (kl vs S) I.ds acc0 M1 = .ok ys M2 → ∀ G2 H2 us, Gr0 G1 G2 → G2.P = (D, .lst us) :: P0 → Rep c G2 H2 M2 → DVs c G2 ys us → Qd H2) :
    ∃ Wd : Nat → Nat → Hp → Prop, (∃ m, Wd 0 m H1) ∧ ∀ i m H, Wd i m H →
      (J.stop i H ∧ Qd H) ∨ (J.go i H ∧ ∃ Nx : Hp → Prop, (∀ H', Nx H' → ∃ m', m' < m ∧ Wd (i + 1) m' H') ∧ ∀ x H', J.yld i H x H' → UpGv c W0 vs g x (wipe σ vs) H' fun σ2 H2 => wipe σ2 vs = wipe σ vs ∧ Up c W0 (fun _ (a b : Bool) => a = b) b σ2 H2 fun b' H3 =>
        if b' = true then Up c W0 (DV c) e σ2 H3 fun y H4 => ∃ acc, H4 D = some (.lst acc) ∧ acc.length < sizeLine ∧ Nx (upd H4 D (.lst (acc ++ [y]))) else Nx H3) := by
  obtain ⟨R0, eR0⟩ : ∃ R0, lcL I.gd g b e (kl vs S) I.ds acc0 M1 = R0 := ⟨_, rfl⟩
  rw [eR0] at ne hq
  refine ⟨fun i m H => m = I.ds.length - i ∧ i ≤ I.ds.length ∧ ∃ G acc us M, Gr0 G1 G ∧ G.P = (D, .lst us) :: P0 ∧ Rep c G H M ∧ DVs c G acc us ∧ lcL I.gd g b e (kl vs S) (I.ds.drop i) acc M = R0,
    ⟨I.ds.length, by simp, Nat.zero_le _, G1, acc0, us0, M1, Gr0.refl G1, eP0, r1, q0, eR0⟩, ?_⟩
  rintro i m H ⟨rfl, hi, G, acc, us, M, g0, eP, r, q, el⟩
  by_cases hlt : i < I.ds.length
  · have ed : I.ds.drop i = I.ds[i] :: I.ds.drop (i + 1) := List.drop_eq_getElem_cons hlt
    rw [ed] at el
    unfold lcL at el
    by_cases hk : I.gd M
    · rw [if_pos hk] at el
      obtain ⟨go, yl⟩ := (w1 G H M g0 r hk).1 i hlt
      refine .inr ⟨go, fun H => ∃ G acc us M, Gr0 G1 G ∧ G.P = (D, .lst us) :: P0 ∧ Rep c G H M ∧ DVs c G acc us ∧ lcL I.gd g b e (kl vs S) (I.ds.drop (i + 1)) acc M = R0,
        fun H' z => ⟨_, by omega, rfl, hlt, z⟩, fun x H' y => ?_⟩
      obtain ⟨G3, d, ed3, g3, r3, q3⟩ := yl x H' y
      rw [List.getElem?_eq_getElem hlt] at ed3
      cases ed3
      refine ⟨G3, kl vs S, M, _, r3, SlR.klw (S := S) (⟨s1.1, fun i d e => let ⟨v, z, w⟩ := s1.2 i d e; ⟨v, z, w.mono0 (g0.trans g3.toGr0)⟩⟩), q3, ?_⟩
      cases eg : g I.ds[i] (kl vs S) M with
      | rz x M2 => rw [eg] at el; exact absurd el.symm ne
      | bad => rw [eg] at el; exact absurd el.symm ne
      | ok S4 M4 =>
        rw [eg] at el
        intro G4 σ4 H4 g4 r4 ⟨s4, w4⟩
        have ww : wipe σ4 vs = wipe σ vs := by
          rw [w4]
          have id1 : ∀ (vs : List Nat) (σ : St), wipe (wipe σ vs) vs = wipe σ vs := by
            intro vs σ
            have st : ∀ (i : Nat) (τ : St), (wipe τ vs)[i]? = if i ∈ vs then (τ[i]?).map (fun _ => (none : Option V)) else τ[i]? := by
              induction vs with
              | nil => intro i τ; simp [wipe]
              | cons v vs ih =>
                intro i τ
                show ((wipe τ vs).set v none)[i]? = _
                by_cases hv : v = i
                · subst hv
                  rw [if_pos (List.mem_cons_self)]
                  rw [List.getElem?_set]
                  rw [if_pos rfl, wipe_length]
                  by_cases hl : v < τ.length
                  · rw [if_pos hl, List.getElem?_eq_getElem hl]; rfl
                  · rw [if_neg hl, List.getElem?_eq_none (by omega)]; rfl
                · rw [List.getElem?_set_ne hv, ih i τ]
                  by_cases hm : i ∈ vs
                  · rw [if_pos hm, if_pos (List.mem_cons_of_mem _ hm)]
                  · rw [if_neg hm, if_neg (by intro z; rcases List.mem_cons.mp z with z | z; exact hv z.symm; exact hm z)]
            apply List.ext_getElem?
            intro i
            rw [st i (wipe σ vs), st i σ]
            by_cases hm : i ∈ vs
            · rw [if_pos hm, if_pos hm]
              cases σ[i]? <;> rfl
            · rw [if_neg hm, if_neg hm]
          exact id1 vs σ
        refine ⟨ww, G4, S4, M4, r4, s4, ?_⟩
        have gg := (g0.trans g3.toGr0).trans g4.toGr0
        have eP4 : G4.P = (D, .lst us) :: P0 := by rw [g4.P, g3.P, eP]
        have q4 := q.mono0 (g3.toGr0.trans g4.toGr0)
        cases eb : b S4 M4 with
        | rz x M5 => simp only [eb] at el; exact absurd el.symm ne
        | bad => simp only [eb] at el; exact absurd el.symm ne
        | ok k M5 =>
          simp only [eb] at el
          intro G5 k' H5 g5 r5 hk'
          subst hk'
          have eP5 : G5.P = (D, .lst us) :: P0 := by rw [g5.P, eP4]
          cases k with
          | false =>
            rw [if_neg Bool.false_ne_true]
            exact ⟨G5, acc, us, M5, gg.trans g5.toGr0, eP5, r5, q4.mono g5, el⟩
          | true =>
            rw [if_pos rfl]
            refine ⟨G5, S4, M5, r5, s4.mono g5, ?_⟩
            cases ee : e S4 M5 with
            | rz x M6 => simp only [ee] at el; exact absurd el.symm ne
            | bad => simp only [ee] at el; exact absurd el.symm ne
            | ok y M6 =>
              simp only [ee] at el
              by_cases hz : acc.length < sizeLine
              · rw [if_pos hz] at el
                intro G6 v H6 g6 r6 q6
                have eP6 : G6.P = (D, .lst us) :: P0 := by rw [g6.P, eP5]
                have hpin := r6.pin (D, .lst us) (by rw [eP6]; exact List.mem_cons_self)
                have q5 := (q4.mono g5).mono g6
                refine ⟨us, hpin.1, by rw [q5.length]; exact hz, ?_⟩
                have e6 : G6 = { G6 with P := (D, .lst us) :: P0 } := by
                  obtain ⟨F6, θ6, P6⟩ := G6
                  have eP6' : P6 = (D, .lst us) :: P0 := eP6
                  rw [eP6']
                rw [e6] at r6
                have r7 := r6.pinSet (o' := .lst (us ++ [v])) nP
                refine ⟨{ G6 with P := (D, .lst (us ++ [v])) :: P0 }, acc ++ [y], us ++ [v], M6, ⟨(gg.trans (g5.toGr0.trans g6.toGr0)).F, (gg.trans (g5.toGr0.trans g6.toGr0)).θ⟩, rfl, r7, ?_, el⟩
                have g7 : Gr0 G6 { G6 with P := (D, .lst (us ++ [v])) :: P0 } := ⟨fun _ _ h => h, [], (List.append_nil _).symm⟩
                exact (q5.append (DVs.one q6)).mono0 g7
              · rw [if_neg hz] at el
                exact absurd el.symm ne
    · rw [if_neg hk] at el
      exact absurd el.symm ne
  · have ei : i = I.ds.length := by omega
    subst ei
    rw [List.drop_length] at el
    unfold lcL at el
    by_cases hk : I.gd M
    · rw [if_pos hk] at el
      exact .inl ⟨(w1 G H M g0 r hk).2 _ (Nat.le_refl _), hq _ _ el.symm G H us g0 eP r q⟩
    · rw [if_neg hk] at el
      exact absurd el.symm ne
theorem wipe_idem (σ : St) (vs : List Nat) : wipe (wipe σ vs) vs = wipe σ vs := by
  have st : ∀ (vs : List Nat) (i : Nat) (τ : St), (wipe τ vs)[i]? = if i ∈ vs then (τ[i]?).map (fun _ => (none : Option V)) else τ[i]? := by
    intro vs
    induction vs with
    | nil => intro i τ; simp [wipe]
    | cons v vs ih =>
      intro i τ
      show ((wipe τ vs).set v none)[i]? = _
      by_cases hv : v = i
      · subst hv
        rw [if_pos (List.mem_cons_self)]
        rw [List.getElem?_set]
        rw [if_pos rfl, wipe_length]
        by_cases hl : v < τ.length
        · rw [if_pos hl, List.getElem?_eq_getElem hl]; rfl
        · rw [if_neg hl, List.getElem?_eq_none (by omega)]; rfl
      · rw [List.getElem?_set_ne hv, ih i τ]
        by_cases hm : i ∈ vs
        · rw [if_pos hm, if_pos (List.mem_cons_of_mem _ hm)]
        · rw [if_neg hm, if_neg (by intro z; rcases List.mem_cons.mp z with z | z; exact hv z.symm; exact hm z)]
  apply List.ext_getElem?
  intro i
  rw [st vs i (wipe σ vs), st vs i σ]
  by_cases hm : i ∈ vs
  · rw [if_pos hm, if_pos hm]
    cases σ[i]? <;> rfl
  · rw [if_neg hm, if_neg hm]
theorem up_lc2 {c : Cn} {vs vs1 : List Nat} {σ : St} {H : Hp} {Q : VK} (h : Up c W (DV c) (eLc2 f g b f1 g1 b1 e vs vs1) σ H Q) :
    tLc2 (UpI c W f) (UpGv c W0 vs g) (Up c W0 (fun _ (a b : Bool) => a = b) b) (UpI c W0 f1) (UpGv c W0 vs1 g1) (Up c W0 (fun _ (a b : Bool) => a = b) b1) (Up c W0 (DV c) e) vs vs1 σ H Q := by
  obtain ⟨G, S, M, r, s, p⟩ := h
  refine ⟨G, S, M, r, s, ?_⟩
  unfold eLc2 at p
  cases ef : f S M with
  | bad => rw [ef] at p; exact p
  | rz x M1 => rw [ef] at p; exact p
  | ok I M1 =>
    rw [ef] at p
    intro G1 J H1 gr1 r1 w1 D hD
    have p1 : Post c W σ G1 (DV c) ((lcO I.gd g b f1 g1 b1 e (kl vs S) vs1 I.ds [] M1).bind fun ys M2 => .ok (.lst ys) M2) Q := Post.mono gr1 p
    have s1 := s.mono gr1
    have nP : ∀ q ∈ G1.P, q.1 ≠ D := fun q hq z => by
      obtain ⟨h1, _⟩ := r1.pin q hq
      rw [z, hD] at h1
      cases h1
    have ne : lcO I.gd g b f1 g1 b1 e (kl vs S) vs1 I.ds [] M1 ≠ .bad := fun z => by rw [z] at p1; exact p1
    have hq : ∀ ys M2, lcO I.gd g b f1 g1 b1 e (kl vs S) vs1 I.ds [] M1 = .ok ys M2 → ∀ G2 H2 us, Gr0 G1 G2 → G2.P = (D, .lst us) :: G1.P → Rep c G2 H2 M2 → DVs c G2 ys us → Q (.ref D) H2 := fun ys M2 ey G2 H2 us g2 eP r2 q2 => by
      rw [ey] at p1
      have e2 : G2 = { G2 with P := (D, .lst us) :: G1.P } := by
        obtain ⟨F6, θ6, P6⟩ := G2
        have eP6' : P6 = (D, .lst us) :: G1.P := eP
        rw [eP6']
      rw [e2] at r2
      have hf := (r2.pin (D, .lst us) List.mem_cons_self).2.1
      have r3 := r2.pinF nP
      have g3 : Gr0 G2 { G2 with F := upd G2.F D (.lst us), P := G1.P } := ⟨fun a u e => by show upd G2.F D _ a = some u; rw [upd_ne (ne_of_none e hf)]; exact e, [], (List.append_nil _).symm⟩
      exact p1 _ _ H2 ⟨g2.trans g3, rfl⟩ r3 ⟨D, us, rfl, .inl (.inl upd_same), q2.mono0 g3⟩
    clear p p1
    obtain ⟨R0, eR0⟩ : ∃ R0, lcO I.gd g b f1 g1 b1 e (kl vs S) vs1 I.ds [] M1 = R0 := ⟨_, rfl⟩
    rw [eR0] at ne hq
    refine ⟨fun i m H => m = I.ds.length - i ∧ i ≤ I.ds.length ∧ ∃ G acc us M, Gr0 G1 G ∧ G.P = (D, .lst us) :: G1.P ∧ Rep c G H M ∧ DVs c G acc us ∧ lcO I.gd g b f1 g1 b1 e (kl vs S) vs1 (I.ds.drop i) acc M = R0,
      ⟨I.ds.length, by simp, Nat.zero_le _, { G1 with P := (D, .lst []) :: G1.P }, [], [], M1, ⟨fun _ _ h => h, [], (List.append_nil _).symm⟩, rfl, r1.pinNew hD, rfl, eR0⟩, ?_⟩
    rintro i m H ⟨rfl, hi, G, acc, us, M, g0, eP, r, q, el⟩
    by_cases hlt : i < I.ds.length
    · have ed : I.ds.drop i = I.ds[i] :: I.ds.drop (i + 1) := List.drop_eq_getElem_cons hlt
      rw [ed] at el
      unfold lcO at el
      by_cases hk : I.gd M
      · rw [if_pos hk] at el
        obtain ⟨go, yl⟩ := (w1 G H M g0 r hk).1 i hlt
        refine .inr ⟨go, fun H => ∃ G acc us M, Gr0 G1 G ∧ G.P = (D, .lst us) :: G1.P ∧ Rep c G H M ∧ DVs c G acc us ∧ lcO I.gd g b f1 g1 b1 e (kl vs S) vs1 (I.ds.drop (i + 1)) acc M = R0,
          fun H' z => ⟨_, by omega, rfl, hlt, z⟩, fun x H' y => ?_⟩
        obtain ⟨G3, d, ed3, g3, r3, q3⟩ := yl x H' y
        rw [List.getElem?_eq_getElem hlt] at ed3
        cases ed3
        refine ⟨G3, kl vs S, M, _, r3, SlR.klw (S := S) (⟨s1.1, fun i d e => let ⟨v, z, w⟩ := s1.2 i d e; ⟨v, z, w.mono0 (g0.trans g3.toGr0)⟩⟩), q3, ?_⟩
        cases eg : g I.ds[i] (kl vs S) M with
        | rz x M2 => rw [eg] at el; exact absurd el.symm ne
        | bad => rw [eg] at el; exact absurd el.symm ne
        | ok S4 M4 =>
          rw [eg] at el
          intro G4 σ4 H4 g4 r4 ⟨s4, w4⟩
          have ww : wipe σ4 vs = wipe σ vs := by rw [w4]; exact wipe_idem σ vs
          refine ⟨ww, G4, S4, M4, r4, s4, ?_⟩
          have gg := (g0.trans g3.toGr0).trans g4.toGr0
          have eP4 : G4.P = (D, .lst us) :: G1.P := by rw [g4.P, g3.P, eP]
          have q4 := q.mono0 (g3.toGr0.trans g4.toGr0)
          cases eb : b S4 M4 with
          | rz x M5 => simp only [eb] at el; exact absurd el.symm ne
          | bad => simp only [eb] at el; exact absurd el.symm ne
          | ok k M5 =>
            simp only [eb] at el
            intro G5 k' H5 g5 r5 hk'
            subst hk'
            have eP5 : G5.P = (D, .lst us) :: G1.P := by rw [g5.P, eP4]
            cases k with
            | false =>
              rw [if_neg Bool.false_ne_true]
              exact ⟨G5, acc, us, M5, gg.trans g5.toGr0, eP5, r5, q4.mono g5, el⟩
            | true =>
              rw [if_pos rfl]
              refine ⟨G5, S4, M5, r5, s4.mono g5, ?_⟩
              cases e1 : f1 S4 M5 with
              | rz x M6 => simp only [e1] at el; exact absurd el.symm ne
              | bad => simp only [e1] at el; exact absurd el.symm ne
              | ok I1 M6 =>
                simp only [e1] at el
                intro G6 J1 H6 g6 r6 w6
                have eP6 : G6.P = (D, .lst us) :: G1.P := by rw [g6.P, eP5]
                have q6 := (q4.mono g5).mono g6
                refine lc_in (P0 := G1.P) r6 eP6 nP q6 ((s4.mono g5).mono g6) w6 (fun z => by rw [z] at el; exact absurd el.symm ne) fun ys M7 ey G7 H7 us7 g7 eP7 r7 q7 => ?_
                rw [ey] at el
                exact ⟨G7, ys, us7, M7, (gg.trans (g5.toGr0.trans g6.toGr0)).trans g7, eP7, r7, q7, el⟩
      · rw [if_neg hk] at el
        exact absurd el.symm ne
    · have ei : i = I.ds.length := by omega
      subst ei
      rw [List.drop_length] at el
      unfold lcO at el
      by_cases hk : I.gd M
      · rw [if_pos hk] at el
        exact .inl ⟨(w1 G H M g0 r hk).2 _ (Nat.le_refl _), hq _ _ el.symm G H us g0 eP r q⟩
      · rw [if_neg hk] at el
        exact absurd el.symm ne
theorem qlc2 {vs1 : List Nat} (hc : X.calm = true) (hN : X.N.Nodup) (hi : QI X W tg iter f) (ok : BlkOk X.N X.env.scope scope own) (hv : ∀ i ∈ vs1, i ∈ own.map (·.2))
    (hg : ∀ (s : Shared) (H : Hp) (C : Addr) (cl : List (Str × Addr)) (fp : List Addr), QGv (X.blk s H scope (compEnvC scope cl C X.env) fp) (own.map (·.2)) tg g) (ht : ∀ (s : Shared) (H : Hp) (C : Addr) (cl : List (Str × Addr)) (fp : List Addr), QTs (X.blk s H scope (compEnvC scope cl C X.env) fp) ifs b)
    (hi1 : ∀ (s : Shared) (H : Hp) (C : Addr) (cl : List (Str × Addr)) (fp : List Addr), QI (X.blk s H scope (compEnvC scope cl C X.env) fp) W0 tg1 iter1 f1)
    (hg1 : ∀ (s : Shared) (H : Hp) (C : Addr) (cl : List (Str × Addr)) (fp : List Addr), QGv (X.blk s H scope (compEnvC scope cl C X.env) fp) vs1 tg1 g1) (ht1 : ∀ (s : Shared) (H : Hp) (C : Addr) (cl : List (Str × Addr)) (fp : List Addr), QTs (X.blk s H scope (compEnvC scope cl C X.env) fp) ifs1 b1)
    (he : ∀ (s : Shared) (H : Hp) (C : Addr) (cl : List (Str × Addr)) (fp : List Addr), QE (X.blk s H scope (compEnvC scope cl C X.env) fp) W0 elt e) (hs : ∀ x, foldedSetIterable iter X.env x = pure x := by intro _; rfl) (hs1 : ∀ env x, foldedSetIterable iter1 env x = pure x := by intro _ _; rfl) :
    QE X W (.ListComp elt [⟨tg, iter, ifs, 0⟩, ⟨tg1, iter1, ifs1, 0⟩] scope pos) (eLc2 f g b f1 g1 b1 e (own.map (·.2)) vs1) :=
  PE.imp (pe_lc2 (g := UpGv (cn X) W0 (own.map fun p : Str × Nat => p.2) g) (tt := Up (cn X) W0 (fun _ (a b : Bool) => a = b) b) (wi1 := UpI (cn X) W0 f1) (g1 := UpGv (cn X) W0 vs1 g1) (tt1 := Up (cn X) W0 (fun _ (a b : Bool) => a = b) b1) (te := Up (cn X) W0 (DV (cn X)) e) hc hN hi ok hv hg ht hi1 hg1 ht1 he hs hs1) fun _ _ _ h => up_lc2 h
end
end QL
end
section
set_option Elab.async false
set_option linter.all false
set_option maxRecDepth 100000
set_option maxHeartbeats 4000000
set_option autoImplicit false
/-! QRev: a list turned about. -/
namespace QL
open PySem PySem.Spec L2
open Classical
def eRev (e : EF) : EF := fun S M => (e S M).bind fun d M1 => match asL M1 d with
  | some ds => .ok (.lst ds.reverse) M1
  | none => .bad
def eRevP (e : EF) : EF := fun S M => (e S M).bind fun d M1 => match asL M1 d with
  | some ds => .ok (.ptr M1.length) (M1 ++ [.lst ds.reverse])
  | none => .bad
theorem DVs.rev {c : Cn} {G : Gd} : ∀ {ds : List D} {vs : List V}, DVs c G ds vs → DVs c G ds.reverse vs.reverse
  | [], _, h => by
    cases (show _ = [] from h)
    exact rfl
  | _ :: _, _, h => by
    obtain ⟨v, t, rfl, q, r⟩ := h
    rw [List.reverse_cons, List.reverse_cons]
    exact (DVs.rev r).append (DVs.one q)
section
variable {X : Cx} {W : WX} {e : Expr} {fe : EF} {k : Nat} {p1 p2 p3 pos : Pos}
theorem qrev (he : QE X W e fe) : QE X W (.Subscript e (.Slice none none (some (.UnaryOp .USub (.Constant (.int 1) k p1) p2)) p3) pos) (eRev fe) := PE.imp (pe_revL he) fun σ H Q h => by
  refine Up.imp (Up.bind h) fun v H1 ⟨G, S, d, M, r, s, q, p⟩ => ?_
  split at p
  · rename_i ds hd
    obtain ⟨a, us, rfl, sq, t⟩ := asL_at r q hd
    refine ⟨a, us, rfl, sq, fun l hl => ?_⟩
    have g := Gr.newF (G := G) (o := .lst us.reverse) (r.fz.free hl)
    exact p _ _ _ g (r.newF hl) ⟨l, us.reverse, rfl, .inl (.inl upd_same), (t.rev).mono g⟩
  · exact p.elim
theorem qrevP (he : QE X W e fe) : QE X W (.Subscript e (.Slice none none (some (.UnaryOp .USub (.Constant (.int 1) k p1) p2)) p3) pos) (eRevP fe) := PE.imp (pe_revL he) fun σ H Q h => by
  refine Up.imp (Up.bind h) fun v H1 ⟨G, S, d, M, r, s, q, p⟩ => ?_
  split at p
  · rename_i ds hd
    obtain ⟨a, us, rfl, sq, t⟩ := asL_at r q hd
    refine ⟨a, us, rfl, sq, fun l hl => ?_⟩
    exact p _ _ _ (Gr.newP l) (r.newP hl (mo := .lst ds.reverse) ⟨us.reverse, upd_same, (t.rev).mono (Gr.newP l)⟩) (ptr_new r)
  · exact p.elim
end
/-- a, b, c = x, y, z on one line -/
def kPar3 (i j l : Nat) (a : AF) : TF := fun S M => (a S M).thn S fun ds M1 => match ds with
  | [d, e, u] => .nx (((S.set i (some d)).set j (some e)).set l (some u)) M1
  | _ => .bad
theorem qpar3 {X : Cx} {W : WX} {pos : Pos} {i j l : Nat} {x y z : Str} {a b c : Expr} {ta : AF} {px py pz pt : Pos} {kt k2 pt2} (hc : X.calm = true) (hN : X.N.Nodup) (hi : X.N[i]? = some x) (hj : X.N[j]? = some y) (hl : X.N[l]? = some z) (hij : i ≠ j) (hil : i ≠ l) (hjl : j ≠ l)
    (ha : QA X W [a, b, c] ta) (hx : X.env.scope.names.lookup x = some .local := by rfl) (hy : X.env.scope.names.lookup y = some .local := by rfl) (hz : X.env.scope.names.lookup z = some .local := by rfl)
    (hw : swappedStores [.Tuple [.Name x px, .Name y py, .Name z pz] kt pt] (.Tuple [a, b, c] k2 pt2) X.env = pure (some [x, y, z]) := by rfl)
    (hs : swapsWithSole [.Tuple [.Name x px, .Name y py, .Name z pz] kt pt] (.Tuple [a, b, c] k2 pt2) pos.line X.env = pure false := by rfl) :
    QS X W (.Assign [.Tuple [.Name x px, .Name y py, .Name z pz] kt pt] (.Tuple [a, b, c] k2 pt2) pos) (kPar3 i j l ta) := PS.imp (ps_par3 hc hN hi hj hl hij hil hjl hx hy hz ha hw hs) fun D σ H h => by
  refine Up.imp (UpS.thn h) fun v H1 ⟨G, S, d, M, r, s, q, p⟩ => ?_
  split at p
  · rename_i d1 d2 d3
    obtain ⟨v1, t, rfl, q1, v2, t2, rfl, q2, v3, t3, rfl, q3, rfl⟩ := q
    exact ⟨v1, v2, v3, rfl, p G _ H1 (Gr.refl G) r (((s.set q1).set q2).set q3)⟩
  · exact p.elim
def prR3 (i j l : Nat) (S : Sl) (r : Res (List D)) : SR := r.thn S fun ds M1 => match ds with
  | [d, e, u] => .nx (((S.set i (some d)).set j (some e)).set l (some u)) M1
  | _ => .bad
theorem kPar3_ap {i j l : Nat} {ar : AF} {S : Sl} {M : Mem} : kPar3 i j l ar S M = prR3 i j l S (ar S M) := (rfl)
theorem prR3_ok {i j l : Nat} {S : Sl} {x y z : D} {M : Mem} : prR3 i j l S (.ok [x, y, z] M) = .nx (((S.set i (some x)).set j (some y)).set l (some z)) M := (rfl)
end QL
end
section
set_option Elab.async false
set_option linter.all false
set_option maxRecDepth 100000
set_option maxHeartbeats 1000000
set_option autoImplicit false
/-! QKat: tuples of texts and ints with a text at the head, in order; the sort of a list of them. -/
namespace QP
open PySem PySem.W PyProof.Rows PySem.Spec L2
/-! ### texts in order -/
def ltS (x y : Str) : Bool := decide (x.cps.toList < y.cps.toList)
theorem ltS_irr (x : Str) : ltS x x = false := decide_eq_false (List.lt_irrefl _)
theorem ltS_asym {x y : Str} (h : ltS x y = true) : ltS y x = false := decide_eq_false fun z => List.lt_irrefl _ (List.lt_trans (of_decide_eq_true h) z)
theorem ltS_tr {x y z : Str} (h1 : ltS y x = false) (h2 : ltS z y = false) : ltS z x = false := by
  refine decide_eq_false fun h => ?_
  have a : x.cps.toList ≤ y.cps.toList := of_decide_eq_false h1
  have b : y.cps.toList ≤ z.cps.toList := of_decide_eq_false h2
  exact (List.le_trans a b) h
theorem ltS_trans {x y z : Str} (h1 : ltS x y = true) (h2 : ltS y z = true) : ltS x z = true := decide_eq_true (List.lt_trans (of_decide_eq_true h1) (of_decide_eq_true h2))
theorem ltS_conn {x y : Str} (h1 : ltS x y = false) (h2 : ltS y x = false) : x = y := by
  have e := List.le_antisymm (show x.cps.toList ≤ y.cps.toList from of_decide_eq_false h2) (show y.cps.toList ≤ x.cps.toList from of_decide_eq_false h1)
  obtain ⟨⟨la⟩⟩ := x
  obtain ⟨⟨lb⟩⟩ := y
  simp at e
  rw [e]
/-! ### parts in order: ints come ahead of texts (they never meet where it counts) -/
def ltKey (p q : Key) : Bool := match p, q with
  | .inl i, .inl j => decide (i < j)
  | .inr x, .inr y => ltS x y
  | .inl _, .inr _ => true
  | .inr _, .inl _ => false
theorem ltKey_irr : ∀ p : Key, ltKey p p = false := by
  rintro (i | x)
  · exact decide_eq_false (Int.lt_irrefl i)
  · exact ltS_irr x
theorem ltKey_asym {p q : Key} (h : ltKey p q = true) : ltKey q p = false := by
  rcases p with i | x <;> rcases q with j | y
  · exact decide_eq_false (Int.lt_asymm (of_decide_eq_true h))
  · rfl
  · cases h
  · exact ltS_asym h
theorem ltKey_tr {p q r : Key} (h1 : ltKey q p = false) (h2 : ltKey r q = false) : ltKey r p = false := by
  rcases p with i | x <;> rcases q with j | y <;> rcases r with k | z
  · have a := of_decide_eq_false h1
    have b := of_decide_eq_false h2
    exact decide_eq_false (by omega)
  · rfl
  · cases h2
  · rfl
  · cases h1
  · cases h1
  · cases h2
  · exact ltS_tr h1 h2
theorem ltKey_conn {p q : Key} (h1 : ltKey p q = false) (h2 : ltKey q p = false) : p = q := by
  rcases p with i | x <;> rcases q with j | y
  · have a := of_decide_eq_false h1
    have b := of_decide_eq_false h2
    rw [show i = j by omega]
  · cases h1
  · cases h2
  · rw [ltS_conn h1 h2]
/-! ### rows of parts, the first difference decides -/
def ltL : List Key → List Key → Bool
  | _, [] => false
  | [], _ :: _ => true
  | p :: ps, q :: qs => if p = q then ltL ps qs else ltKey p q
theorem ltL_nil (ps : List Key) : ltL ps [] = false := by cases ps <;> rfl
theorem ltL_eq (p : Key) (ps qs : List Key) : ltL (p :: ps) (p :: qs) = ltL ps qs := if_pos rfl
theorem ltL_ne {p q : Key} (n : p ≠ q) (ps qs : List Key) : ltL (p :: ps) (q :: qs) = ltKey p q := if_neg n
theorem ltL_irr (ps : List Key) : ltL ps ps = false := by
  induction ps with
  | nil => rfl
  | cons p ps ih => rw [ltL_eq, ih]
theorem ltL_asym {ps qs : List Key} (h : ltL ps qs = true) : ltL qs ps = false := by
  induction ps generalizing qs with
  | nil => exact ltL_nil qs
  | cons p ps ih =>
    cases qs with
    | nil => cases h
    | cons q qs =>
      by_cases e : p = q
      · subst e
        rw [ltL_eq] at h ⊢
        exact ih h
      · rw [ltL_ne e] at h
        rw [ltL_ne (Ne.symm e)]
        exact ltKey_asym h
theorem ltL_conn {ps qs : List Key} (h1 : ltL ps qs = false) (h2 : ltL qs ps = false) : ps = qs := by
  induction ps generalizing qs with
  | nil => cases qs with
    | nil => rfl
    | cons q qs => cases h1
  | cons p ps ih =>
    cases qs with
    | nil => cases h2
    | cons q qs =>
      by_cases e : p = q
      · subst e
        rw [ltL_eq] at h1 h2
        rw [ih h1 h2]
      · rw [ltL_ne e] at h1
        rw [ltL_ne (Ne.symm e)] at h2
        exact absurd (ltKey_conn h1 h2) e
theorem ltL_tr {ps qs rs : List Key} (h1 : ltL qs ps = false) (h2 : ltL rs qs = false) : ltL rs ps = false := by
  induction ps generalizing qs rs with
  | nil => exact ltL_nil rs
  | cons p ps ih =>
    cases qs with
    | nil => cases h1
    | cons q qs =>
      cases rs with
      | nil => cases h2
      | cons r rs =>
        by_cases a : q = p
        · subst a
          by_cases b : r = q
          · subst b
            rw [ltL_eq] at h1 h2 ⊢
            exact ih h1 h2
          · rw [ltL_ne b] at h2 ⊢
            exact h2
        · rw [ltL_ne a] at h1
          by_cases b : r = q
          · subst b
            rw [ltL_ne a]
            exact h1
          · rw [ltL_ne b] at h2
            have c := ltKey_tr h1 h2
            by_cases d : r = p
            · subst d
              exact absurd (ltKey_conn h1 h2) a
            · rw [ltL_ne d]
              exact c
theorem swoL {α : Type} (k : α → List Key) : SrtO.Swo (fun v u : α => ltL (k v) (k u)) := ⟨fun x y h => ltL_asym h, fun x y z h1 h2 => ltL_tr h1 h2⟩
/-- rows whose parts are of the same kinds, place by place -/
def sameK : List Key → List Key → Bool
  | [], [] => true
  | .inl _ :: r, .inl _ :: t => sameK r t
  | .inr _ :: r, .inr _ :: t => sameK r t
  | _, _ => false
theorem sameK_len {ps qs : List Key} (h : sameK ps qs = true) : ps.length = qs.length := by
  induction ps generalizing qs with
  | nil => cases qs with
    | nil => rfl
    | cons q qs => cases h
  | cons p ps ih => rcases p with i | x <;> rcases qs with _ | ⟨j | y, qs⟩ <;> first | (cases h; done) | exact congrArg (· + 1) (ih h)
/-- a text at the head -/
def hdT : List Key → Bool
  | .inr _ :: _ => true
  | _ => false
/-- v is a tuple of these -/
def TupV (h : Heap) (v : Value) (ks : List Key) : Prop := ∃ (a : Addr) (us : List Value), v = .ref a ∧ Vals (ks.map kV) us ∧ IsTup h a us.toArray
theorem TupV.keeps {h h' : Heap} {v : Value} {ks : List Key} (z : TupV h v ks) (k : ∀ b o, h.get? b = some o → o.cls = .type "tuple" → h'.get? b = some o) : TupV h' v ks := by
  obtain ⟨a, us, e, r, ⟨o, ho, hc, d⟩⟩ := z
  exact ⟨a, us, e, r, ⟨o, k _ _ ho hc, hc, d⟩⟩
/-- the text that leads a tuple, found in the heap -/
theorem TupV.lead {h : Heap} {v : Value} {ks : List Key} (z : TupV h v ks) (hh : hdT ks = true) : ∃ (y : Str) (t : Tok) (a : Addr) (o : Obj) (us : Array Value) (n : Nat), v = .ref a ∧ h.get? a = some o ∧ o.cls = .type "tuple" ∧ o.data = .seq us n ∧ us[0]? = some (.str y t) := by
  obtain ⟨a, us, e, r, ⟨o, ho, hc, n, hd⟩⟩ := z
  rcases ks with _ | ⟨i | y, ks⟩
  · cases hh
  · cases hh
  · cases r with
    | cons r0 _ =>
      obtain ⟨t, r0⟩ := r0
      exact ⟨y, t, a, o, _, n, e, ho, hc, hd, by rw [r0]; rfl⟩
theorem leads {h : Heap} {k : Value → List Key} (vs : List Value) (z : ∀ v ∈ vs, TupV h v (k v) ∧ hdT (k v) = true) : ∃ fs : List Value, KatTups h vs fs ∧ fs.length = vs.length ∧ ∀ f ∈ fs, ∃ (y : Str) (t : Tok), f = Value.str y t := by
  induction vs with
  | nil => exact ⟨[], trivial, rfl, by intro f hf; cases hf⟩
  | cons v vs ih =>
    obtain ⟨y, t, a, o, us, n, there⟩ := (z v (.head _)).1.lead (z v (.head _)).2
    obtain ⟨fs, kt, len, txt⟩ := ih fun u m => z u (.tail _ m)
    refine ⟨.str y t :: fs, ⟨⟨a, o, us, n, there⟩, kt⟩, congrArg (· + 1) len, fun f m => ?_⟩
    cases m with
    | head => exact ⟨y, t, rfl⟩
    | tail _ m => exact txt f m
section
variable {prog : Program} {w : World} {A : Around} {E : Value → Shared → Prop} {s : Shared}
/-- one part after another: `lead` says that the kit's short way for texts is taken at the head -/
theorem walk_parts {lead : Bool} {Q : Bool → Shared → Prop} : ∀ (ks ks' : List Key) (us us' : List Value) (i : Nat), (lead = true → i = 0 → hdT ks = true ∨ ks = []) → sameK ks ks' = true → Vals (ks.map kV) us → Vals (ks'.map kV) us' → Q (ltL ks ks') s → KatLex prog w A lead false Q (us.zip us') i s := by
  intro ks
  induction ks with
  | nil =>
    intro ks' us us' i _ hs r r' q
    cases ks' with
    | nil => cases r; cases r'; exact kat_nil q
    | cons q qs => cases hs
  | cons p ps ih =>
    intro ks' us us' i hl hs r r' q
    cases ks' with
    | nil => rcases p with i | x <;> cases hs
    | cons p' ps' =>
      rw [List.map_cons] at r r'
      cases r with
      | @cons _ u _ us0 ru rt =>
        cases r' with
        | @cons _ u' _ us1 ru' rt' =>
          show KatLex prog w A lead false Q ((u, u') :: us0.zip us1) i s
          rcases p with a | a <;> rcases p' with b | b
          · obtain ⟨tk, rfl⟩ := (show ∃ t, u = Value.int a t from ru)
            obtain ⟨tl, rfl⟩ := (show ∃ t, u' = Value.int b t from ru')
            refine kat_cons (SeqAt.EqAt.int_int a tk b tl prog w _ _ ?_)
            by_cases e : a = b
            · subst e
              rw [ltL_eq] at q
              rw [beq_self_eq_true]
              exact kat_yes (ih ps' _ _ (i + 1) (fun _ z => absurd z (Nat.succ_ne_zero i)) hs rt rt' q)
            · rw [ltL_ne fun z => e (Sum.inl.inj z)] at q
              rw [beq_eq_false_iff_ne.mpr e]
              have slow : (lead && i == 0) = false := by
                cases lead with
                | false => rfl
                | true => cases i with
                  | zero => rcases hl rfl rfl with z | z <;> cases z
                  | succ i => rfl
              refine kat_no ?_
              rw [slow]
              exact kat_one _ _ (PyProof.Rows.lt_int q)
          · cases hs
          · cases hs
          · obtain ⟨tk, rfl⟩ := (show ∃ t, u = Value.str a t from ru)
            obtain ⟨tl, rfl⟩ := (show ∃ t, u' = Value.str b t from ru')
            refine kat_cons (SeqAt.EqAt.str_str a tk b tl prog w _ _ ?_)
            by_cases e : a = b
            · subst e
              rw [ltL_eq] at q
              rw [beq_self_eq_true]
              exact kat_yes (ih ps' _ _ (i + 1) (fun _ z => absurd z (Nat.succ_ne_zero i)) hs rt rt' q)
            · rw [ltL_ne fun z => e (Sum.inr.inj z)] at q
              rw [beq_eq_false_iff_ne.mpr e]
              refine kat_no ?_
              cases lead && i == 0 with
              | true => exact oneLt_str q
              | false => exact kat_one _ _ (DT.rcLt_str _ _ _ _ _ _ _ _ _ _ q)
theorem tups_cmp {vs : List Value} {k : Value → List Key} (hp : ∀ v ∈ vs, TupV s.heap v (k v) ∧ hdT (k v) = true) (hs : ∀ v ∈ vs, ∀ u ∈ vs, sameK (k v) (k u) = true) : SrtO.Cmp prog w A s (tuples' true) (fun p => p.1 ∈ vs) (SrtO.lt2 fun v u => ltL (k v) (k u)) := by
  intro p q mp mq
  obtain ⟨⟨a, us, ea, ra, o, ho, _, n, hd⟩, ha⟩ := hp _ mp
  obtain ⟨⟨b, ws, eb, rb, o', ho', _, n', hd'⟩, _⟩ := hp _ mq
  have same := hs _ mp _ mq
  have len : us.length = ws.length := by
    have x := ra.length
    have y := rb.length
    rw [List.length_map] at x y
    rw [← x, ← y, sameK_len same]
  have go := walk_parts (prog := prog) (w := w) (A := A) (s := s) (lead := true) (Q := fun r s' => s' = s ∧ r = ltL (k p.1) (k q.1)) _ _ us ws 0 (fun _ _ => .inl ha) same ra rb ⟨rfl, rfl⟩
  have fin : decide (us.toArray.size < ws.toArray.size) = false := decide_eq_false (by rw [List.size_toArray, List.size_toArray, len]; exact Nat.lt_irrefl _)
  have run := kat_lt (prog := prog) (w := w) (A := A) (E := fun _ _ => False) (b := true) (Q := fun r s' => s' = s ∧ r = ltL (k p.1) (k q.1)) ho hd ho' hd' (by rw [fin]; exact go)
  rw [← ea, ← eb] at run
  exact run
theorem tups_sortable {a : Addr} {vs : List Value} {k : Value → List Key} (h0 : 0 < vs.length) (hp : ∀ v ∈ vs, TupV s.heap v (k v) ∧ hdT (k v) = true) (hs : ∀ v ∈ vs, ∀ u ∈ vs, sameK (k v) (k u) = true) (ha : ∀ o, s.heap.get? a = some o → o.cls ≠ .type "tuple") : SrtO.SortableO prog w A s a vs fun v u => ltL (k v) (k u) := by
  intro h1 keep
  have there : ∀ v ∈ vs, TupV h1 v (k v) ∧ hdT (k v) = true := fun v m => ⟨(hp v m).1.keeps fun b o e c => keep b o (by intro z; rw [z] at e; exact ha o e c) e, (hp v m).2⟩
  obtain ⟨fs, kt, len, txt⟩ := leads vs there
  refine ⟨tuples' true, fun Q E q => kat_kind (T := .type "str") kt (len ▸ h0) (fun f m => ?_) rfl ?_, tups_cmp there hs⟩
  · obtain ⟨y, t, ef⟩ := txt f m
    rw [ef]
    exact PySem.W.Looks.now
  · rw [show (Value.type "str" != Value.type "tuple") = true by first | decide +kernel | rfl | decide]
    exact q
/-- a list's object is no tuple -/
theorem list_no_tuple {us : Array Value} {n : Nat} {o u : Obj} (x : some o = some u) (y : u = seqObj "list" us n) : o.cls ≠ .type "tuple" := fun c => by
  rw [Option.some.inj x, y] at c
  exact absurd (Value.type.inj c) (by decide)
/-- l.sort(), l a list of such tuples -/
theorem call_sort_tups {l : Addr} {vs : List Value} {k : Value → List Key} {Q : Value → Shared → Prop} (ho : s.heap.get? l = some (seqObj "list" vs.toArray 0)) (hz : vs.length ≤ sizeLine) (hp : ∀ v ∈ vs, TupV s.heap v (k v) ∧ hdT (k v) = true) (hs : ∀ v ∈ vs, ∀ u ∈ vs, sameK (k v) (k u) = true)
    (q : ∀ out : List Value, SrtO.Srtd (fun v u => ltL (k v) (k u)) out → SrtO.Stb (fun v u => ltL (k v) (k u)) out vs → Q .none { s with heap := sortedHeap s.heap l vs out.toArray }) :
    wpAny (model prog w) A (call (.builtin "list.sort") [.ref l]) Q E s :=
  wpAny_call_entry slot_list_sort ⟨_, ho, rfl⟩ entry_list_sort (SrtO.list_sort_ord (swoL k) ho hz (fun two => tups_sortable (Nat.lt_of_lt_of_le Nat.zero_lt_two two) hp hs fun o e => list_no_tuple (e.symm.trans ho) rfl) fun out h1 h2 => ⟨_, rfl, q out h1 h2⟩) (args_list_sort _)
/-- sorted(l), l a list of such tuples -/
theorem sorted_tupV {l : Addr} {vs : List Value} {k : Value → List Key} {Q : Value → Shared → Prop} (hl : s.heap.IsList l vs.toArray) (hz : vs.length ≤ sizeLine) (hp : ∀ v ∈ vs, TupV s.heap v (k v) ∧ hdT (k v) = true) (hs : ∀ v ∈ vs, ∀ u ∈ vs, sameK (k v) (k u) = true)
    (h : ∀ (h' : Heap) (d : Addr) (out : List Value), SrtO.Srtd (fun v u => ltL (k v) (k u)) out → SrtO.Stb (fun v u => ltL (k v) (k u)) out vs → (∀ b o, s.heap.get? b = some o → h'.get? b = some o) → s.heap.objs.size ≤ d → (∃ n, h'.get? d = some (seqObj "list" out.toArray n)) → Q (.ref d) { s with heap := h' }) :
    wpAny (model prog w) A (call (.builtin "sorted") [.ref l]) Q E s :=
  SrtO.sorted_ord (swoL k) hl hz (fun two h₁ a ha kk => tups_sortable (s := { s with heap := h₁ }) (Nat.lt_of_lt_of_le Nat.zero_lt_two two) (fun v m => ⟨(hp v m).1.keeps fun b o e _ => (kk b o e).2, (hp v m).2⟩) hs fun o e => list_no_tuple (e.symm.trans ha) rfl)
    fun out h1 h2 => h _ _ out h1 h2 (fun b o e => sortedAll_old e) (Nat.le_succ _) (sortedAll_at s.heap vs out.toArray)
end
/-- where a list was sorted in its place, all else stays -/
theorem sortedHeap_keep {h : Heap} {l : Addr} {vs : List Value} {out : Array Value} {b : Addr} {o : Obj} (n : b ≠ l) (e : h.get? b = some o) : (sortedHeap h l vs out).get? b = some o := (sortedHeap_old n (Heap.lt_size e)).trans e
end QP
end
section
set_option Elab.async false
set_option linter.all false
set_option maxRecDepth 100000
set_option maxHeartbeats 1000000
set_option autoImplicit false
/-! QItm: sorted(d.items()), keys texts, values ints. -/
namespace QL
open PySem PySem.Spec L2 PyProof.Rows
open Classical
section
variable {X : Cx} {e : Expr} {td : TE} {apos cpos : Pos}
/-- d.items() as a value -/
theorem pe_itemsK (he : PE X e td) (hbase : attributeBase e "items" X.env (eval e X.env) = eval e X.env := by rfl) (hline : (apos.endLine == cpos.line) = true := by rfl) :
    PE X (.Call (.Attribute e "items" apos) [] [] cpos) (fun σ H Q => td σ H fun x H1 => ∃ (d : Addr) (kvs : List (Key × V)), x = .ref d ∧ Rd H1 d (.dK kvs) ∧ ∀ p, H1 p = none → Q (.ref p) (upd H1 p (L2.DX.itemsO p d))) := by
  refine ⟨fun pins s σ H Q I h => ?_⟩
  refine wpAny_Call_method (T := "dict") (id := "dict.items") hbase rfl hline PySem.F.plainAttrs_dict PySem.F.slot_dict_items PySem.F.type_dict_items (thn (he.run pins s σ H _ I h) fun u s1 ⟨x, H1, I1, rx, d, kvs, ex, hd, q⟩ => ?_)
  subst ex
  obtain rfl : u = Value.ref d := rx
  obtain ⟨hz, hsm, vs, kv, hm⟩ := dk_rd I1.hok hd
  refine ⟨hm.typeIs, hm.mapOf.noDict, ?_⟩
  obtain ⟨o, es, ep, ho, hx, hdat, _⟩ := hm
  have fin : wpAny (model X.prog X.w) X.A (call (.builtin "dict.items") [.ref d]) (EP X pins σ Q) X.xe s1 := by
    refine DT.callItems (es := es) (ep := ep) hsm ⟨o, ho, hx, hdat⟩ ?_
    have hf : H1 s1.heap.objs.size = none := I1.hok.fresh (Nat.le_refl _)
    exact ⟨.ref s1.heap.objs.size, upd H1 s1.heap.objs.size (L2.DX.itemsO s1.heap.objs.size d), I1.laid (t' := s1.toks) (fun b u e => Heap.get?_push_of_some _ e) (Nat.le_refl _) (L2.DX.itemsO_ok (Heap.get?_push_size _ rfl)), rfl, q _ hf⟩
  exact Calls.callWith_builtin rfl (PySem.evalArgs_none fin)
end
abbrev entS (e : Str × Int) : Key × V := (Sum.inr e.1, V.int e.2)
/-- ρ the texts' rank -/
def rSortItK : List V → Hp → VK → Prop := fun vs H Q => ∃ (p a : Addr) (ks : List (Str × Int)) (ρ : Str → Int), vs = [.ref p] ∧ H p = some (L2.DX.itemsO p a) ∧ Rd H a (.dK (ks.map entS)) ∧ ks.length < 64 ∧
  ((ks.map (·.1)).Nodup → (∀ e ∈ ks, ∀ f ∈ ks, decide (e.1.cps.toList < f.1.cps.toList) = decide (ρ e.1 < ρ f.1)) ∧
  ∀ (H' : Hp) (l : Addr) (ps : List (Addr × Str × Int)), (ps.map (·.2)).Perm ks → (ps.map (·.2)).Pairwise (fun e f => ρ e.1 ≤ ρ f.1) → H l = none → (∀ z ∈ ps, H z.1 = none ∧ H' z.1 = some (.tup [.str z.2.1, .int z.2.2])) → H' l = some (.lst (ps.map fun z => V.ref z.1)) →
    (∀ b, b ≠ l → (∀ z ∈ ps, b ≠ z.1) → H' b = H b) → Q (.ref l) H')
theorem find_ent {ks : List (Str × Int)} : ∀ {e : Str × Int}, (ks.map (·.1)).Nodup → e ∈ ks → ((ks.find? fun z => decide (z.1 = e.1)).map (·.2)).getD 0 = e.2 := by
  induction ks with
  | nil => intro e _ h; cases h
  | cons z r ih =>
    intro e nd h
    rw [List.map_cons, List.nodup_cons] at nd
    rw [List.find?_cons]
    rcases List.mem_cons.mp h with q | q
    · subst q; simp
    · have ne : ¬ z.1 = e.1 := fun x => nd.1 (by rw [x]; exact List.mem_map_of_mem q)
      simp only [ne, decide_false]
      exact ih nd.2 q
/-- tuples that lie in the heap already are tracked, all at once -/
theorem adopt {X : Cx} {pins : List (Addr × Obj)} {σ : L2.St} {s : Shared} (g : Addr → List V) (L : List Addr) (foot : ∀ b ∈ L, ∀ H' : Hp, H' b = none → FpOk X pins H' b) (good : ∀ b ∈ L, ∀ H' : Hp, ObjOk X.prog X.w H' s.heap b (.tup (g b))) (nd : L.Nodup) :
    ∀ H : Hp, Inv X pins σ H s → (∀ b ∈ L, H b = none) → Inv X pins σ (fun b => if b ∈ L then some (.tup (g b)) else H b) s := by
  induction L with
  | nil => intro H I _; simpa using I
  | cons a L ih =>
    intro H I free
    have nd' := List.nodup_cons.mp nd
    have I1 : Inv X pins σ (upd H a (.tup (g a))) s := I.take (h' := s.heap) (t' := s.toks) (fun _ _ _ e => e) (foot a (.head _) H (free a (.head _))) (good a (.head _) _)
    have I2 := ih (fun b m => foot b (.tail _ m)) (fun b m => good b (.tail _ m)) nd'.2 _ I1 fun b m => by
      rw [upd_ne (by intro z; rw [z] at m; exact nd'.1 m)]
      exact free b (.tail _ m)
    have same : (fun b => if b ∈ L then some (HO.tup (g b)) else upd H a (.tup (g a)) b) = fun b => if b ∈ a :: L then some (.tup (g b)) else H b := by
      funext b
      by_cases m : b ∈ L
      · rw [if_pos m, if_pos (List.mem_cons_of_mem _ m)]
      · rw [if_neg m]
        by_cases z : b = a
        · rw [z, upd_same, if_pos (List.mem_cons_self ..)]
        · rw [upd_ne z, if_neg (by rw [List.mem_cons]; exact fun w => w.elim z m)]
    rw [same] at I2
    exact I2
/-- the parts of an entry as a row -/
abbrev rowE (e : Str × Int) : List Key := [.inr e.1, .inl e.2]
/-- the j-th entry of a table of ints, as it lies in the heap -/
theorem entry_of {prog : Program} {w : World} {es : List DictEntry} {ws : List (Key × Value)} {ks : List (Str × Int)} (p : Pairs (mixKind prog w) es ws) (k : KV (ks.map entS) ws) {j : Nat} {en : DictEntry} (h : es[j]? = some en) :
    ∃ (e : Str × Int) (t u : Tok), ks[j]? = some e ∧ en.key = .str e.1 t ∧ en.val = .int e.2 u := by
  have inside : j < ks.length := by
    have a : j < es.length := (List.getElem?_eq_some_iff.mp h).1
    have b : es.length = ws.length := p.length
    have c := Paired.length k
    rw [List.length_map] at c
    omega
  have there : ks[j]? = some ks[j] := List.getElem?_eq_getElem inside
  obtain ⟨⟨key, val⟩, at1, same, vr⟩ := paired_get k (i := j) (a := entS ks[j]) (by rw [List.getElem?_map, there]; rfl)
  obtain ⟨k1, k2⟩ := p.get? h at1
  have k1' : keyIs key en.key = true := k1
  rw [show key = Sum.inr ks[j].1 from same.symm] at k1'
  rcases keyIs_shape k1' with ⟨_, _, z, _⟩ | ⟨x, t, z, kx⟩
  · cases z
  · obtain ⟨u, vu⟩ := (show ∃ u, val = Value.int ks[j].2 u from vr)
    exact ⟨ks[j], t, u, there, by rw [kx, ← Sum.inr.inj z], by rw [k2, vu]⟩
theorem cr_sortedItemsK {X : Cx} (hc : X.calm = true) : CallR X (.builtin "sorted") rSortItK := by
  intro pins s σ H xs us Q I r h
  obtain ⟨p, a, ks, ρ, rfl, hp, ha, _, rest⟩ := h
  obtain rfl := Vals.ref1 r
  have view : s.heap.IsItemsView p a := (show ObjOk X.prog X.w H s.heap p (L2.DX.itemsO p a) from I.hok p _ hp).1
  obtain ⟨_, _, ws, kv, o, es, ep, ho, hx, hdat, _, prs, ndk⟩ := dk_rd I.hok ha
  have len1 : es.size = ks.length := by
    have b : es.toList.length = ws.length := prs.length
    have c := Paired.length kv
    rw [List.length_map] at c
    rw [← Array.length_toList, b, ← c]
  have names : (ks.map (·.1)).Nodup := by
    have firsts : ws.map (·.1) = (ks.map (·.1)).map (Sum.inr : Str → Key) := by
      refine List.ext_getElem? fun j => ?_
      rw [List.getElem?_map, List.getElem?_map, List.getElem?_map]
      cases at1 : ks[j]? with
      | none =>
        have c := Paired.length kv
        rw [List.length_map] at c
        rw [List.getElem?_eq_none (by rw [← c]; exact List.getElem?_eq_none_iff.mp at1)]
        rfl
      | some e =>
        obtain ⟨b, at2, same, _⟩ := paired_get kv (i := j) (a := entS e) (by rw [List.getElem?_map, at1]; rfl)
        rw [at2]
        exact congrArg some same.symm
    rw [firsts] at ndk
    exact List.Pairwise.of_map _ (fun _ _ n z => n (congrArg _ z)) ndk
  have small : ks.length ≤ sizeLine := by rw [sizeLine_eq]; omega
  obtain ⟨rank, q⟩ := rest names
  refine DT.sortedI (I.ok.hd hc) view ⟨o, ho, hx, hdat⟩ (len1 ▸ small) fun h1 tk as keep grew len made => ?_
  -- each tuple and its entry
  have nd : as.Nodup := made.rise.imp fun z => Nat.ne_of_lt z
  have row : ∀ {j : Nat} {b : Addr}, as[j]? = some b → ∃ e : Str × Int, ks[j]? = some e ∧ QP.TupV h1 (.ref b) (rowE e) := fun {j b} at1 => by
    obtain ⟨en, there, made1⟩ := made.pairs j b at1
    obtain ⟨e, t, u, at2, k1, k2⟩ := entry_of prs kv (j := j) (by rw [Array.getElem?_toList]; exact there)
    rw [k1, k2] at made1
    exact ⟨e, at2, b, _, rfl, .cons ⟨t, rfl⟩ (.cons ⟨u, rfl⟩ .nil), _, made1, rfl, 0, rfl⟩
  let ent : Addr → Str × Int := fun b => (ks[as.idxOf b]?).getD (⟨#[]⟩, 0)
  have entAt : ∀ {j : Nat} {b : Addr} {e : Str × Int}, as[j]? = some b → ks[j]? = some e → ent b = e := fun {j b e} at1 at2 => by
    obtain ⟨lt, eq⟩ := List.getElem?_eq_some_iff.mp at1
    show (ks[as.idxOf b]?).getD _ = e
    rw [← eq, nd.idxOf_getElem j lt, at2]
    rfl
  have ofMem : ∀ {b : Addr}, b ∈ as → ∃ j : Nat, as[j]? = some b ∧ ks[j]? = some (ent b) ∧ QP.TupV h1 (.ref b) (rowE (ent b)) := fun {b} m => by
    obtain ⟨j, at1⟩ := List.mem_iff_getElem?.mp m
    obtain ⟨e, at2, tv⟩ := row at1
    rw [entAt at1 at2]
    exact ⟨j, at1, at2, tv⟩
  have all : as.map ent = ks := by
    refine List.ext_getElem? fun j => ?_
    rw [List.getElem?_map]
    cases at1 : as[j]? with
    | none => rw [List.getElem?_eq_none (by rw [← len1, ← len]; exact List.getElem?_eq_none_iff.mp at1)]; rfl
    | some b =>
      obtain ⟨e, at2, _⟩ := row at1
      rw [at2, ← entAt at1 at2]
      rfl
  -- the list laid behind them, and its sort
  have lay : (h1.push { cls := .type "list", data := .seq (as.map Value.ref).toArray }).get? h1.objs.size = some (seqObj "list" (as.map Value.ref).toArray 0) := Heap.get?_push_size _ rfl
  have old : ∀ {b : Addr} {u : Obj}, h1.get? b = some u → (h1.push { cls := .type "list", data := .seq (as.map Value.ref).toArray }).get? b = some u := fun e => Heap.get?_push_of_some _ e
  have apart : ∀ {b : Addr} {u : Obj}, h1.get? b = some u → b ≠ h1.objs.size := fun e z => Nat.lt_irrefl _ (z ▸ Heap.lt_size e)
  refine QP.call_sort_tups (s := { s with heap := h1.push { cls := .type "list", data := .seq (as.map Value.ref).toArray }, toks := tk }) (k := fun v => rowE (ent (DT.refOf (some v)))) lay (by rw [List.length_map, len, len1]; exact small) (fun v m => ?_) (fun _ _ _ _ => rfl) fun out srt stb => ?_
  · obtain ⟨b, mb, rfl⟩ := List.mem_map.mp m
    obtain ⟨_, _, _, tv⟩ := ofMem mb
    exact ⟨tv.keeps fun _ _ e _ => old e, rfl⟩
  · generalize h1.push { cls := .type "list", data := .seq (as.map Value.ref).toArray } = h2 at lay old
    show EP X pins σ Q (.ref h1.objs.size) { s with heap := sortedHeap h2 h1.objs.size (as.map Value.ref) out.toArray, toks := tk }
    obtain ⟨n, new⟩ := PyProof.Rows.sortedHeap_at (vs := as.map Value.ref) (out := out.toArray) lay
    have still : ∀ {b : Addr} {u : Obj}, h1.get? b = some u → (sortedHeap h2 h1.objs.size (as.map Value.ref) out.toArray).get? b = some u := fun e => QP.sortedHeap_keep (apart e) (old e)
    generalize sortedHeap h2 h1.objs.size (as.map Value.ref) out.toArray = h3 at new still ⊢
    have from_ : ∀ {v : Value}, v ∈ out → ∃ b, v = .ref b ∧ b ∈ as := fun m => by
      obtain ⟨b, mb, e⟩ := List.mem_map.mp (stb.perm.mem_iff.mp m)
      exact ⟨b, e.symm, mb⟩
    let L : List (Addr × Str × Int) := out.map fun v => (DT.refOf (some v), ent (DT.refOf (some v)))
    have inL : ∀ {z : Addr × Str × Int}, z ∈ L → z.1 ∈ as ∧ z.2 = ent z.1 := fun m => by
      obtain ⟨v, mv, rfl⟩ := List.mem_map.mp m
      obtain ⟨b, rfl, mb⟩ := from_ mv
      exact ⟨mb, rfl⟩
    have onL : ∀ {b : Addr}, b ∈ as → ∃ z ∈ L, z.1 = b := fun {b} m => ⟨(b, ent b), List.mem_map.mpr ⟨.ref b, stb.perm.mem_iff.mpr (List.mem_map.mpr ⟨b, m, rfl⟩), rfl⟩, rfl⟩
    have perm : (L.map (·.2)).Perm ks := by
      have x := stb.perm.map fun v => ent (DT.refOf (some v))
      rw [List.map_map, show (as.map ((fun v => ent (DT.refOf (some v))) ∘ Value.ref)) = ks from all] at x
      rw [show L.map (·.2) = out.map fun v => ent (DT.refOf (some v)) by rw [List.map_map]; rfl]
      exact x
    have sorted : (L.map (·.2)).Pairwise fun e f => ρ e.1 ≤ ρ f.1 := by
      rw [List.pairwise_map, List.pairwise_map]
      refine List.Pairwise.imp_of_mem (fun {v u} mv mu z => ?_) srt
      have z' : QP.ltL (rowE (ent (DT.refOf (some u)))) (rowE (ent (DT.refOf (some v)))) = false := z
      obtain ⟨b, rfl, mb⟩ := from_ mv
      obtain ⟨c, rfl, mc⟩ := from_ mu
      obtain ⟨_, _, kb, _⟩ := ofMem mb
      obtain ⟨_, _, kc, _⟩ := ofMem mc
      show ρ (ent b).1 ≤ ρ (ent c).1
      have z2 : QP.ltL (rowE (ent c)) (rowE (ent b)) = false := z'
      by_cases same : (ent c).1 = (ent b).1
      · rw [same]; exact Int.le_refl _
      · rw [QP.ltL_ne fun z => same (Sum.inr.inj z)] at z2
        have rk := rank _ (List.mem_of_getElem? kc) _ (List.mem_of_getElem? kb)
        rw [show decide ((ent c).1.cps.toList < (ent b).1.cps.toList) = false from z2] at rk
        have := of_decide_eq_false rk.symm
        omega
    -- the store behind it
    have above : ∀ {b : Addr}, b ∈ as → s.heap.objs.size ≤ b := fun m => Nat.le_of_lt (made.above _ m)
    have lastFree : H h1.objs.size = none := I.hok.fresh (Nat.le_of_lt grew)
    have I0 : Inv X pins σ H { s with heap := h3, toks := tk } := I.kept (t' := tk) fun b u e => still (keep b u e)
    have I1 := adopt (fun b => [V.str (ent b).1, .int (ent b).2]) as (fun b m H' z => I.fpOk (above m) z) (fun b m H' => by
      obtain ⟨_, _, _, b', us, e, rv, o', ho', hc', n', hd'⟩ := ofMem m
      cases e
      exact ⟨by rw [sizeLine_eq]; exact (show 2 ≤ 16777216 by decide), us, rv, o', still ho', hc', n', hd'⟩) nd H I0 fun b m => I.hok.fresh (above m)
    have notIn : h1.objs.size ∉ as := fun m => by
      obtain ⟨_, _, _, b', _, e, _, o', ho', _⟩ := ofMem m
      cases e
      exact apart ho' rfl
    have back : out = L.map fun z => Value.ref z.1 := by
      rw [List.map_map]
      refine (List.map_id out).symm.trans (List.map_congr_left fun v m => ?_)
      obtain ⟨b, rfl, _⟩ := from_ m
      rfl
    have rv : Vals (L.map fun z => V.ref z.1) out := by
      have x := vals_maps (fun z : Addr × Str × Int => V.ref z.1) (fun z => Value.ref z.1) L fun _ _ => rfl
      rwa [← back] at x
    have fits : (L.map fun z => V.ref z.1).length ≤ sizeLine := by
      have x := perm.length_eq
      rw [List.length_map] at x
      rw [List.length_map, x]
      exact small
    have I2 := I1.take (h' := h3) (t' := tk) (it := h1.objs.size) (o := .lst (L.map fun z => V.ref z.1)) (fun _ _ _ e => e) (I.fpOk (Nat.le_of_lt grew) (by rw [if_neg notIn]; exact lastFree)) ⟨fits, out, n, rv, new⟩
    refine ⟨.ref h1.objs.size, _, I2, rfl, q _ _ L perm sorted lastFree (fun z m => ?_) upd_same fun b n1 n2 => ?_⟩
    · obtain ⟨mz, ez⟩ := inL m
      refine ⟨I.hok.fresh (above mz), ?_⟩
      rw [upd_ne (fun e => notIn (by rw [← e]; exact mz)), if_pos mz, ez]
    · rw [upd_ne n1, if_neg fun m => by obtain ⟨z, mz, e⟩ := onL m; exact n2 z mz e.symm]
end QL
end
section
set_option Elab.async false
set_option linter.all false
set_option maxRecDepth 100000
set_option maxHeartbeats 1000000
set_option autoImplicit false
/-! QItm2: sorted(d.items()) as a plain function. -/
namespace QL
open PySem PySem.Spec L2
open Classical
def itemsOf : List (Key × D) → Option (List (Str × Int))
  | [] => some []
  | (.inr x, .int i) :: r => (itemsOf r).map ((x, i) :: ·)
  | _ => none
def srtI (ks : List (Str × Int)) : List (Str × Int) := ks.mergeSort fun a b => leS a.1 b.1
def itD (z : Str × Int) : D := .tup [.str z.1, .int z.2]
def eSortIt (e : EF) : EF := fun S M => (e S M).bind fun d M1 => match asK M1 d with
  | some kvs => match itemsOf kvs with
    | some ks => if ks.length < 64 then .ok (.lst ((srtI ks).map itD)) M1 else .bad
    | none => .bad
  | none => .bad
theorem itemsOf_at {c : Cn} {G : Gd} : ∀ {kvs : List (Key × D)} {ws : List (Key × V)} {ks : List (Str × Int)}, DVk c G kvs ws → itemsOf kvs = some ks → ws = ks.map entS
  | [], ws, ks, h, e => by
    cases e
    exact h
  | (.inr x, .int i) :: r, ws, ks, h, e => by
    obtain ⟨v, t, rfl, ⟨h1, h2⟩, ht⟩ := h
    unfold itemsOf at e
    cases hr : itemsOf r with
    | none => rw [hr] at e; cases e
    | some ks' =>
      rw [hr] at e
      cases e
      rw [itemsOf_at ht hr]
      obtain ⟨v1, v2⟩ := v
      cases h1
      cases (show v2 = V.int i from h2)
      rfl
  | (.inl _, _) :: _, _, _, _, e => by cases e
  | (.inr _, .non) :: _, _, _, _, e => by cases e
  | (.inr _, .bl _) :: _, _, _, _, e => by cases e
  | (.inr _, .str _) :: _, _, _, _, e => by cases e
  | (.inr _, .ptr _) :: _, _, _, _, e => by cases e
  | (.inr _, .raw _) :: _, _, _, _, e => by cases e
  | (.inr _, .tup _) :: _, _, _, _, e => by cases e
  | (.inr _, .lst _) :: _, _, _, _, e => by cases e
  | (.inr _, .dK _) :: _, _, _, _, e => by cases e
  | (.inr _, .dT _) :: _, _, _, _, e => by cases e
  | (.inr _, .obj _ _) :: _, _, _, _, e => by cases e
  | (.inr _, .exc _ _ _ _) :: _, _, _, _, e => by cases e
theorem cnt_le {α : Type} {p q : α → Bool} : ∀ {l : List α}, (∀ z ∈ l, p z = true → q z = true) → (l.filter p).length ≤ (l.filter q).length
  | [], _ => Nat.le_refl _
  | z :: r, h => by
    have ih := cnt_le (l := r) fun y hy => h y (List.mem_cons_of_mem _ hy)
    rw [List.filter_cons, List.filter_cons]
    cases hp : p z with
    | true =>
      rw [h z List.mem_cons_self hp]
      simp only [if_true, List.length_cons]
      omega
    | false =>
      cases q z <;> simp <;> omega
theorem cnt_lt {α : Type} {p q : α → Bool} : ∀ {l : List α}, (∀ z ∈ l, p z = true → q z = true) → (∃ z ∈ l, q z = true ∧ p z = false) → (l.filter p).length < (l.filter q).length
  | [], _, ⟨z, hz, _⟩ => by cases hz
  | z :: r, h, ⟨y, hy, h1, h2⟩ => by
    rw [List.filter_cons, List.filter_cons]
    rcases List.mem_cons.mp hy with e | e
    · subst e
      have := cnt_le (l := r) fun y hy => h y (List.mem_cons_of_mem _ hy)
      rw [h1, h2]
      simp only [if_true, List.length_cons, Bool.false_eq_true, if_false]
      omega
    · have ih := cnt_lt (l := r) (fun y hy => h y (List.mem_cons_of_mem _ hy)) ⟨y, e, h1, h2⟩
      cases hp : p z with
      | true =>
        rw [h z List.mem_cons_self hp]
        simp only [if_true, List.length_cons]
        omega
      | false =>
        cases q z <;> simp <;> omega
/-- a text's place -/
noncomputable def rk (ks : List (Str × Int)) (x : Str) : Int := ((ks.filter fun z => decide (z.1.cps.toList < x.cps.toList)).length : Nat)
theorem rk_lt {ks : List (Str × Int)} {e f : Str × Int} (he : e ∈ ks) (hf : f ∈ ks) : decide (e.1.cps.toList < f.1.cps.toList) = decide (rk ks e.1 < rk ks f.1) := by
  by_cases h : e.1.cps.toList < f.1.cps.toList
  · rw [decide_eq_true h]
    refine (decide_eq_true ?_).symm
    have := cnt_lt (p := fun z : Str × Int => decide (z.1.cps.toList < e.1.cps.toList)) (q := fun z : Str × Int => decide (z.1.cps.toList < f.1.cps.toList)) (l := ks) (fun z _ hz => decide_eq_true (List.lt_trans (of_decide_eq_true hz) h)) ⟨e, he, decide_eq_true h, decide_eq_false (List.lt_irrefl _)⟩
    unfold rk
    omega
  · rw [decide_eq_false h]
    refine (decide_eq_false ?_).symm
    have := cnt_le (p := fun z : Str × Int => decide (z.1.cps.toList < f.1.cps.toList)) (q := fun z : Str × Int => decide (z.1.cps.toList < e.1.cps.toList)) (l := ks) (fun z _ hz => by
      by_cases hze : z.1.cps.toList < e.1.cps.toList
      · exact decide_eq_true hze
      · have h1 : f.1.cps.toList ≤ e.1.cps.toList := h
        have h2 : e.1.cps.toList ≤ z.1.cps.toList := hze
        exact absurd (of_decide_eq_true hz) (List.le_trans h1 h2))
    unfold rk
    omega
theorem srtI_eq {ks ps : List (Str × Int)} (nd : (ks.map (·.1)).Nodup) (hp : ps.Perm ks) (hs : ps.Pairwise fun e f => rk ks e.1 ≤ rk ks f.1) : ps = srtI ks := by
  have inj : ∀ ks : List (Str × Int), (ks.map (·.1)).Nodup → ∀ a ∈ ks, ∀ b ∈ ks, a.1 = b.1 → a = b := by
    intro ks
    induction ks with
    | nil => intro _ a ha; cases ha
    | cons z r ih =>
      intro nd a ha b hb e
      rw [List.map_cons, List.nodup_cons] at nd
      rcases List.mem_cons.mp ha with h1 | h1
      · rcases List.mem_cons.mp hb with h2 | h2
        · rw [h1, h2]
        · exact absurd (by rw [← h1, e]; exact List.mem_map_of_mem h2) nd.1
      · rcases List.mem_cons.mp hb with h2 | h2
        · exact absurd (by rw [← h2, ← e]; exact List.mem_map_of_mem h1) nd.1
        · exact ih nd.2 a h1 b h2 e
  have h1 : ps.Pairwise fun a b => leS a.1 b.1 = true := by
    refine List.Pairwise.imp_of_mem (fun {x y} hx hy h => ?_) hs
    rw [leS_iff]
    intro z
    have := rk_lt (hp.mem_iff.mp hy) (hp.mem_iff.mp hx)
    rw [decide_eq_true z] at this
    have := of_decide_eq_true this.symm
    omega
  have h2 : (srtI ks).Pairwise fun a b => leS a.1 b.1 = true := List.pairwise_mergeSort (le := fun a b : Str × Int => leS a.1 b.1) (fun a b c => leS_trans a.1 b.1 c.1) (fun a b => leS_total a.1 b.1) ks
  have pm : (srtI ks).Perm ks := List.mergeSort_perm _ _
  exact List.Perm.eq_of_pairwise (le := fun a b : Str × Int => leS a.1 b.1 = true) (fun a b ha hb g1 g2 => inj ks nd a (hp.mem_iff.mp ha) b (pm.mem_iff.mp hb) (leS_anti g1 g2)) h1 h2 (hp.trans pm.symm)
/-- things that are new and will not change -/
theorem Rep.newFs {c : Cn} {G : Gd} {H H' : Hp} {M : Mem} (r : Rep c G H M) (L : List Addr) (hn : ∀ a ∈ L, H a = none) (hs : ∀ a ∈ L, ∃ u, H' a = some u) (ho : ∀ b, b ∉ L → H b ≠ none → H' b = H b) :
    Gr G { G with F := fun b => if b ∈ L then H' b else G.F b } ∧ Rep c { G with F := fun b => if b ∈ L then H' b else G.F b } H' M := by
  have fF : ∀ b ∈ L, G.F b = none := fun b hb => r.fz.free (hn b hb)
  have fth : ∀ a ∈ G.θ, a ∉ L := fun a ha hL => by
    obtain ⟨u, e⟩ := r.liv a ha
    rw [hn a hL] at e
    cases e
  have g : Gr G { G with F := fun b => if b ∈ L then H' b else G.F b } := ⟨⟨fun b u e => by
    have nb : b ∉ L := fun h => by rw [fF b h] at e; cases e
    show (if b ∈ L then H' b else G.F b) = some u
    rw [if_neg nb, e], [], (List.append_nil _).symm⟩, rfl⟩
  have keep : ∀ b u, H b = some u → H' b = some u := fun b u e => by
    have nb : b ∉ L := fun h => by rw [hn b h] at e; cases e
    rw [ho b nb (by rw [e]; simp), e]
  refine ⟨g, fun b u e => ?_, r.len, r.nd, fun k mo a e1 e2 => ?_, fun k mo a e1 e2 l => ?_, fun a ha => ?_, fun p hp => ?_⟩
  · have e' : (if b ∈ L then H' b else G.F b) = some u := e
    by_cases hb : b ∈ L
    · rw [if_pos hb] at e'; exact .inl e'
    · rw [if_neg hb] at e'
      rcases r.fz b u e' with z | ⟨z1, o, z2⟩
      · exact .inl (keep b u z)
      · exact .inr ⟨z1, o, keep b _ z2⟩
  · have ha : a ∈ G.θ := List.mem_of_getElem? e2
    obtain ⟨u, e⟩ := r.liv a ha
    exact ((r.mem k mo a e1 e2).at ((keep a u e).trans e.symm)).mono g
  · have ha : a ∈ G.θ := List.mem_of_getElem? e2
    show (if a ∈ L then H' a else G.F a) = none
    rw [if_neg (fth a ha)]
    exact r.sep k mo a e1 e2 l
  · obtain ⟨u, e⟩ := r.liv a ha
    exact ⟨u, keep a u e⟩
  · obtain ⟨h1, h2, h3⟩ := r.pin p hp
    have np : p.1 ∉ L := fun h => by rw [hn _ h] at h1; cases h1
    refine ⟨keep _ _ h1, ?_, h3⟩
    show (if p.1 ∈ L then H' p.1 else G.F p.1) = none
    rw [if_neg np]
    exact h2
section
variable {X : Cx} {W : WX} {e : Expr} {fe : EF} {p apos cpos pos : Pos}
theorem qsortIt (hc : X.calm = true) (hg : Gl X "sorted") (hm : X.mg "sorted" = none) (he : QE X W e fe) (hbase : attributeBase e "items" X.env (eval e X.env) = eval e X.env := by rfl) (hline : (apos.endLine == cpos.line) = true := by rfl)
    (h1 : starEach [.Call (.Attribute e "items" apos) [] [] cpos] X.env = (false, eval (.Call (.Attribute e "items" apos) [] [] cpos) X.env) :: starEach [] X.env := by rfl) (hpl : (backTo pos (starEach [] X.env)).any (·.1) = false := by rfl) :
    QE X W (.Call (.Name "sorted" p) [.Call (.Attribute e "items" apos) [] [] cpos] [] pos) (eSortIt fe) :=
  PE.imp (pe_callB (cr_sortedItemsK hc) hg hm (by decide +kernel) (pa_cons (pe_itemsK he hbase hline) pa_nil h1) (by decide) (by decide) h1 hpl) fun σ H Q h => by
    refine Up.imp (Up.bind h) fun v H1 ⟨G, S, d, M, r, s, q, p⟩ => ?_
    split at p
    · rename_i kvs hk
      split at p
      · rename_i ks hi
        split at p
        · rename_i h64
          obtain ⟨a, ws, rfl, rd, t⟩ := asK_at r q hk
          have ew := itemsOf_at t hi
          refine ⟨a, ws, rfl, rd, fun pv hp => ?_⟩
          have hpa : a ≠ pv := fun z => by
            rcases rd with x | ⟨o, x⟩ <;> rw [z, hp] at x <;> cases x
          refine ⟨pv, a, ks, rk ks, rfl, upd_same, ?_, h64, fun nd => ⟨fun e he f hf => rk_lt he hf, fun H' l ps perm srt hl hz hL other => ?_⟩⟩
          · rw [ew] at rd
            rcases rd with x | ⟨o, x⟩
            · exact .inl (by rw [upd_ne hpa]; exact x)
            · exact .inr ⟨o, by rw [upd_ne hpa]; exact x⟩
          · have ne1 : ∀ b, (upd H1 pv (L2.DX.itemsO pv a)) b = none → H1 b = none := fun b e => by
              by_cases z : b = pv
              · rw [z]; exact hp
              · rwa [upd_ne z] at e
            have mL : ∀ b, b ∈ l :: ps.map (·.1) ↔ b = l ∨ ∃ z ∈ ps, z.1 = b := fun b => by rw [List.mem_cons, List.mem_map]
            obtain ⟨g, r'⟩ := r.newFs (H' := H') (l :: ps.map (·.1)) (fun b hb => by
              rcases (mL b).mp hb with z | ⟨z, hz', e⟩
              · rw [z]; exact ne1 _ hl
              · rw [← e]; exact ne1 _ (hz z hz').1) (fun b hb => by
              rcases (mL b).mp hb with z | ⟨z, hz', e⟩
              · rw [z]; exact ⟨_, hL⟩
              · rw [← e]; exact ⟨_, (hz z hz').2⟩) fun b hb hne => by
              have e1 := other b (fun z => hb ((mL b).mpr (.inl z))) fun z hz' e => hb ((mL b).mpr (.inr ⟨z, hz', e.symm⟩))
              rw [e1, upd_ne fun z => hne (by rw [z]; exact hp)]
            refine p _ _ H' g r' ⟨l, ps.map fun z => V.ref z.1, rfl, .inl (.inl ?_), ?_⟩
            · show (if l ∈ l :: ps.map (·.1) then H' l else G.F l) = _
              rw [if_pos List.mem_cons_self]
              exact hL
            · rw [← srtI_eq nd perm srt, List.map_map]
              have go : ∀ qs : List (Addr × Str × Int), (∀ z ∈ qs, z ∈ ps) → DVs (cn X) { G with F := fun b => if b ∈ l :: ps.map (·.1) then H' b else G.F b } (qs.map (itD ∘ fun z => z.2)) (qs.map fun z => V.ref z.1) := by
                intro qs
                induction qs with
                | nil => exact fun _ => rfl
                | cons z r ih =>
                  intro hq
                  refine ⟨V.ref z.1, _, rfl, ⟨z.1, [.str z.2.1, .int z.2.2], rfl, ?_, ⟨_, _, rfl, rfl, _, _, rfl, rfl, rfl⟩⟩, ih fun y hy => hq y (List.mem_cons_of_mem _ hy)⟩
                  show (if z.1 ∈ l :: ps.map (·.1) then H' z.1 else G.F z.1) = _
                  rw [if_pos ((mL _).mpr (.inr ⟨z, hq z List.mem_cons_self, rfl⟩))]
                  exact (hz z (hq z List.mem_cons_self)).2
              exact go ps fun _ h => h
        · exact p.elim
      · exact p.elim
    · exact p.elim
end
/-! ### min of a list of ints -/
def bMinL (ds : List D) (M : Mem) : Res D := match ds with
  | [d] => match asL M d with
    | some xs => match intsOf xs with
      | some (n :: r) => .ok (.int (r.foldl min n)) M
      | _ => .bad
    | none => .bad
  | _ => .bad
theorem foldl_min : ∀ (r : List Int) (n : Int), r.foldl min n ∈ n :: r ∧ ∀ y ∈ n :: r, r.foldl min n ≤ y
  | [], n => ⟨List.mem_cons_self, fun y hy => by rw [List.mem_singleton.mp hy]; exact Int.le_refl _⟩
  | x :: r, n => by
    obtain ⟨h1, h2⟩ := foldl_min r (min n x)
    refine ⟨?_, fun y hy => ?_⟩
    · show r.foldl min (min n x) ∈ _
      rcases List.mem_cons.mp h1 with e | e
      · rw [e]
        rcases Int.le_total n x with l | l
        · rw [Int.min_eq_left l]; exact List.mem_cons_self
        · rw [Int.min_eq_right l]; exact List.mem_cons_of_mem _ List.mem_cons_self
      · exact List.mem_cons_of_mem _ (List.mem_cons_of_mem _ e)
    · show r.foldl min (min n x) ≤ y
      have h3 := h2 (min n x) List.mem_cons_self
      rcases List.mem_cons.mp hy with e | e
      · rw [e]; omega
      · rcases List.mem_cons.mp e with e | e
        · rw [e]; omega
        · exact h2 y (List.mem_cons_of_mem _ e)
theorem rc_minL {c : Cn} : RCs c bMinL (rMin c.K) := by
  intro W σ G H M vs ds Q r q p
  unfold bMinL at p
  split at p
  · split at p
    · rename_i xs hx
      split at p
      · rename_i n rr hn
        obtain ⟨v, t, rfl, q1, rfl⟩ := q
        obtain ⟨a, us, rfl, s, t⟩ := asL_at r q1 hx
        rw [intsOf_eq hn] at t
        rw [t.ints] at s
        obtain ⟨f1, f2⟩ := foldl_min rr n
        refine ⟨a, n :: rr, rfl, s, by simp, fun m h1 h2 => ?_⟩
        have e : m = rr.foldl min n := Int.le_antisymm (h2 _ f1) (f2 _ h1)
        rw [e]
        exact p G _ H (Gr.refl _) r rfl
      · exact p.elim
    · exact p.elim
  · exact p.elim
theorem qminL {X : Cx} {W : WX} {e : Expr} {a : AF} {p pos : Pos} (hc : X.calm = true) (hg : Gl X "min") (hm : X.mg "min" = none) (ha : QA X W [e] a) (he : starEach [e] X.env = (false, eval e X.env) :: starEach [] X.env := by rfl) (hpl : (backTo pos (starEach [] X.env)).any (·.1) = false := by rfl) :
    QE X W (.Call (.Name "min" p) [e] [] pos) (eCall bMinL a) := q_cb (cr_min hc) rc_minL hg hm ha (by decide +kernel) (by decide) (by decide) he hpl
end QL
end
section
set_option Elab.async false
set_option linter.all false
set_option maxRecDepth 100000
set_option maxHeartbeats 1000000
set_option autoImplicit false
/-! QIs2: is of truths; isinstance(e, ValueError); sorted(d.items()) as a list that changes. -/
namespace QL
open PySem PySem.Spec L2
open Classical
def fIsB (x y : D) (M : Mem) : Res D := match x, y with
  | .bl a, .bl b => .ok (.bl (decide (a = b))) M
  | _, _ => .bad
def fNotB (x y : D) (M : Mem) : Res D := match x, y with
  | .bl a, .bl b => .ok (.bl (!decide (a = b))) M
  | _, _ => .bad
theorem r2_isB {c : Cn} : R2s c fIsB rIsB := by
  intro W σ G H M x y dx dy Q r qx qy p
  unfold fIsB at p
  split at p
  · rename_i a b
    cases (show x = V.bl a from qx)
    cases (show y = V.bl b from qy)
    exact ⟨a, b, rfl, rfl, p G _ H (Gr.refl _) r rfl⟩
  · exact p.elim
theorem r2_notB {c : Cn} : R2s c fNotB rNotB := by
  intro W σ G H M x y dx dy Q r qx qy p
  unfold fNotB at p
  split at p
  · rename_i a b
    cases (show x = V.bl a from qx)
    cases (show y = V.bl b from qy)
    exact ⟨a, b, rfl, rfl, p G _ H (Gr.refl _) r rfl⟩
  · exact p.elim
section
variable {X : Cx} {W : WX} {pos : Pos} {a b : Expr} {fa fb : EF}
theorem qisB (ha : QE X W a fa) (hb : QE X W b fb) : QE X W (.Compare a [.Is] [b] pos) (e2 fIsB fa fb) := q_cmp op_isBl r2_isB (nomark _) ha hb
theorem tisB (ha : QE X W a fa) (hb : QE X W b fb) : QT X W (.Compare a [.Is] [b] pos) (bV (e2 fIsB fa fb)) := qt_cmp op_isBl r2_isB (nomark _) ha hb
theorem qnotB (ha : QE X W a fa) (hb : QE X W b fb) : QE X W (.Compare a [.IsNot] [b] pos) (e2 fNotB fa fb) := q_cmp op_notBl r2_notB (nomark _) ha hb
theorem tnotB (ha : QE X W a fa) (hb : QE X W b fb) : QT X W (.Compare a [.IsNot] [b] pos) (bV (e2 fNotB fa fb)) := qt_cmp op_notBl r2_notB (nomark _) ha hb
end
section
variable {X : Cx} {W : WX} {a dd C : Addr} {oe : Obj} {pn : List (Addr × Obj)} {e : Expr} {fe : EF} {p p2 pos : Pos} {t : Str} {T : String} {b : Bool}
/-- isinstance(e, T), T built in -/
theorem qisXB (Ec : PySem.W.EcD X.K C) (hz : Zc (.ref C) (some dd) oe) (hv : ∃ vs, oe.data = .fields vs) (hg : Gl (X.suite a ((a, oe) :: pn)) "isinstance") (hm : X.mg "isinstance" = none) (he : QE (X.suite a ((a, oe) :: pn)) W e fe) (gt : Gl (X.suite a ((a, oe) :: pn)) t) (mt : X.mg t = none) (hvb : bootBuiltins t = some (.type T))
    (hk : PySem.W.kitOne X.K (.ref C) (.type T) = some b) (hn : t ≠ "__name__" := by decide) (hdt : (t == ("__debug__" : Str)) = false := by decide)
    (h1 : starEach [e, .Name t p2] (X.suite a ((a, oe) :: pn)).env = (false, eval e (X.suite a ((a, oe) :: pn)).env) :: starEach [.Name t p2] (X.suite a ((a, oe) :: pn)).env := by rfl)
    (h2 : starEach [.Name t p2] (X.suite a ((a, oe) :: pn)).env = (false, eval (.Name t p2) (X.suite a ((a, oe) :: pn)).env) :: starEach [] (X.suite a ((a, oe) :: pn)).env := by rfl) (hp : (backTo pos (starEach [.Name t p2] (X.suite a ((a, oe) :: pn)).env)).any (·.1) = false := by rfl) :
    QE (X.suite a ((a, oe) :: pn)) W (.Call (.Name "isinstance" p) [e, .Name t p2] [] pos) (eIsX a dd b fe) :=
  PE.imp (pe_callB (call_isD Ec hz hv) hg hm (by decide +kernel) (pa_cons he (pa_cons (pe_bltn (v := .ty T) gt mt hvb rfl hn hdt) pa_nil h2) h1) (by decide) (by decide) h1 hp) fun σ H Q h => by
    refine Up.imp (Up.bind h) fun v H1 ⟨G, S, d, M, r, s, q, p⟩ => ?_
    split at p
    · rename_i a' dd' n' fs'
      split at p
      · rename_i hz
        obtain ⟨rfl, rfl⟩ := hz
        obtain ⟨rfl, _, ws, fz, _⟩ := q
        have hx : H1 dd' = some (.xd ws) := by
          rcases r.fz _ _ fz with z | ⟨z, _⟩
          · exact z
          · cases z
        exact ⟨.ty T, .type T, b, ws, rfl, hx, fun u z => z, hk, p G _ H1 (Gr.refl _) r rfl⟩
      · exact p.elim
    · exact p.elim
end
def eSortItP (e : EF) : EF := fun S M => (e S M).bind fun d M1 => match asK M1 d with
  | some kvs => match itemsOf kvs with
    | some ks => if ks.length < 64 then .ok (.ptr M1.length) (M1 ++ [.lst ((srtI ks).map itD)]) else .bad
    | none => .bad
  | none => .bad
section
variable {X : Cx} {W : WX} {e : Expr} {fe : EF} {p apos cpos pos : Pos}
theorem qsortItP (hc : X.calm = true) (hg : Gl X "sorted") (hm : X.mg "sorted" = none) (he : QE X W e fe) (hbase : attributeBase e "items" X.env (eval e X.env) = eval e X.env := by rfl) (hline : (apos.endLine == cpos.line) = true := by rfl)
    (h1 : starEach [.Call (.Attribute e "items" apos) [] [] cpos] X.env = (false, eval (.Call (.Attribute e "items" apos) [] [] cpos) X.env) :: starEach [] X.env := by rfl) (hpl : (backTo pos (starEach [] X.env)).any (·.1) = false := by rfl) :
    QE X W (.Call (.Name "sorted" p) [.Call (.Attribute e "items" apos) [] [] cpos] [] pos) (eSortItP fe) :=
  PE.imp (pe_callB (cr_sortedItemsK hc) hg hm (by decide +kernel) (pa_cons (pe_itemsK he hbase hline) pa_nil h1) (by decide) (by decide) h1 hpl) fun σ H Q h => by
    refine Up.imp (Up.bind h) fun v H1 ⟨G, S, d, M, r, s, q, p⟩ => ?_
    split at p
    · rename_i kvs hk
      split at p
      · rename_i ks hi
        split at p
        · rename_i h64
          obtain ⟨a, ws, rfl, rd, t⟩ := asK_at r q hk
          have ew := itemsOf_at t hi
          refine ⟨a, ws, rfl, rd, fun pv hp => ?_⟩
          have hpa : a ≠ pv := fun z => by
            rcases rd with x | ⟨o, x⟩ <;> rw [z, hp] at x <;> cases x
          refine ⟨pv, a, ks, rk ks, rfl, upd_same, ?_, h64, fun nd => ⟨fun e he f hf => rk_lt he hf, fun H' l ps perm srt hl hz hL other => ?_⟩⟩
          · rw [ew] at rd
            rcases rd with x | ⟨o, x⟩
            · exact .inl (by rw [upd_ne hpa]; exact x)
            · exact .inr ⟨o, by rw [upd_ne hpa]; exact x⟩
          · have ne1 : ∀ b, (upd H1 pv (L2.DX.itemsO pv a)) b = none → H1 b = none := fun b e => by
              by_cases z : b = pv
              · rw [z]; exact hp
              · rwa [upd_ne z] at e
            have nl : ∀ z ∈ ps, z.1 ≠ l := fun z hz' e => by
              have := (hz z hz').2
              rw [e, hL] at this
              cases this
            have eH : H' = upd (fun b => if b = l then none else H' b) l (.lst (ps.map fun z => V.ref z.1)) := by
              funext b
              by_cases z : b = l
              · rw [z, upd_same]; exact hL
              · rw [upd_ne z]
                show _ = if b = l then none else H' b
                rw [if_neg z]
            obtain ⟨g, r'⟩ := r.newFs (H' := fun b => if b = l then none else H' b) (ps.map (·.1)) (fun b hb => by
              obtain ⟨z, hz', e⟩ := List.mem_map.mp hb
              rw [← e]; exact ne1 _ (hz z hz').1) (fun b hb => by
              obtain ⟨z, hz', e⟩ := List.mem_map.mp hb
              refine ⟨.tup [.str z.2.1, .int z.2.2], ?_⟩
              show (if b = l then none else H' b) = _
              rw [← e, if_neg (nl z hz')]
              exact (hz z hz').2) fun b hb hne => by
              have bl : b ≠ l := fun z => hne (by rw [z]; exact ne1 _ hl)
              show (if b = l then none else H' b) = _
              rw [if_neg bl, other b bl fun z hz' e => hb (List.mem_map.mpr ⟨z, hz', e.symm⟩), upd_ne fun z => hne (by rw [z]; exact hp)]
            have go : ∀ qs : List (Addr × Str × Int), (∀ z ∈ qs, z ∈ ps) → DVs (cn X) { G with F := fun b => if b ∈ ps.map (·.1) then (if b = l then none else H' b) else G.F b } (qs.map (itD ∘ fun z => z.2)) (qs.map fun z => V.ref z.1) := by
              intro qs
              induction qs with
              | nil => exact fun _ => rfl
              | cons z r ih =>
                intro hq
                refine ⟨V.ref z.1, _, rfl, ⟨z.1, [.str z.2.1, .int z.2.2], rfl, ?_, ⟨_, _, rfl, rfl, _, _, rfl, rfl, rfl⟩⟩, ih fun y hy => hq y (List.mem_cons_of_mem _ hy)⟩
                have hz' := hq z List.mem_cons_self
                show (if z.1 ∈ ps.map (·.1) then (if z.1 = l then none else H' z.1) else G.F z.1) = _
                rw [if_pos (List.mem_map_of_mem hz'), if_neg (nl z hz')]
                exact (hz z hz').2
            have dv : DVs (cn X) { G with F := fun b => if b ∈ ps.map (·.1) then (if b = l then none else H' b) else G.F b } ((srtI ks).map itD) (ps.map fun z => V.ref z.1) := by
              rw [← srtI_eq nd perm srt, List.map_map]
              exact go ps fun _ h => h
            have hl0 : (fun b => if b = l then none else H' b) l = none := if_pos rfl
            have r2 := r'.newP hl0 (mo := .lst ((srtI ks).map itD)) ⟨_, upd_same, dv.mono (Gr.newP l)⟩
            rw [eH]
            exact p _ _ _ (g.trans (Gr.newP l)) r2 (ptr_new r')
        · exact p.elim
      · exact p.elim
    · exact p.elim
end
end QL
end
section
set_option Elab.async false
set_option linter.all false
set_option maxRecDepth 100000
set_option maxHeartbeats 1000000
set_option autoImplicit false
/-! QNest: a comprehension within a comprehension. -/
namespace QL
open PySem PySem.Spec L2
/-- a name's kind behind the change of some free ones to cells -/
def toCell (env : Env) (x : Str × NameKind) : Str × NameKind := if (x.2 == NameKind.free && env.scope.kind == .function && env.kindOf x.1 == some .cell) then (x.1, NameKind.cell) else x
theorem toCell_fst (env : Env) (x : Str × NameKind) : (toCell env x).1 = x.1 := by
  unfold toCell
  split <;> rfl
theorem toCell_snd (env : Env) (x : Str × NameKind) (h : x.2 = .cell ∨ x.2 = .free) : (toCell env x).2 = .cell ∨ (toCell env x).2 = .free := by
  unfold toCell
  split
  · exact .inl rfl
  · exact h
theorem lookup_relab {env : Env} (names : List (Str × NameKind)) {x : Str} (h : names.lookup x = some .cell ∨ names.lookup x = some .free) : (names.map (toCell env)).lookup x = some .cell ∨ (names.map (toCell env)).lookup x = some .free := by
  induction names with
  | nil => exact h.elim (fun z => nomatch z) fun z => nomatch z
  | cons y r ih =>
    obtain ⟨m, k⟩ := y
    rw [List.map_cons]
    have e := toCell_fst env (m, k)
    have f := toCell_snd env (m, k)
    generalize toCell env (m, k) = z at e f ⊢
    obtain ⟨m', k'⟩ := z
    cases (show m' = m from e)
    unfold List.lookup at h ⊢
    split at h
    · exact (f (h.imp Option.some.inj Option.some.inj)).imp (congrArg some) (congrArg some)
    · exact ih h
theorem relabOk {N : List Str} {sc scope : Scope} {own : List (Str × Nat)} {env : Env} (h : BlkOk N sc scope own) : BlkOk N (relabel sc env) scope own := by
  refine ⟨h.kind, h.uniq, h.ix, fun y hy e => ?_, h.own⟩
  exact lookup_relab _ (h.free y hy e)
end QL
end
section
set_option Elab.async false
set_option linter.all false
set_option maxRecDepth 100000
set_option maxHeartbeats 1000000
set_option autoImplicit false
/-! QReprK: repr of data with dicts. -/
namespace QL
open PySem PySem.Spec L2 PyProof.Rows
open Classical
def keyPy : Key → PyData
  | .inl i => .int i
  | .inr x => .str x
mutual
/-- v is data, dicts too -/
inductive Dk (K : PySem.W.Frag) (H : Hp) : V → PyData → Prop
  | non : Dk K H V.non PyData.none
  | bl (b : Bool) : Dk K H (V.bl b) (PyData.bool b)
  | int (i : Int) : Dk K H (V.int i) (PyData.int i)
  | str (x : Str) : Dk K H (V.str x) (PyData.str x)
  | lst {a : Addr} {vs : List V} {ds : List PyData} (h : SqL K H a vs) (t : DkS K H vs ds) : Dk K H (V.ref a) (PyData.list ds)
  | tup {a : Addr} {vs : List V} {ds : List PyData} (h : SqT K H a vs) (t : DkS K H vs ds) : Dk K H (V.ref a) (PyData.tuple ds)
  | dct {a : Addr} {vs : List (Key × V)} {ds : List (PyData × PyData)} (h : Rd H a (.dK vs)) (t : DkV K H vs ds) : Dk K H (V.ref a) (PyData.dict ds)
inductive DkS (K : PySem.W.Frag) (H : Hp) : List V → List PyData → Prop
  | nil : DkS K H [] []
  | cons {v : V} {d : PyData} {vs : List V} {ds : List PyData} (h : Dk K H v d) (t : DkS K H vs ds) : DkS K H (v :: vs) (d :: ds)
inductive DkV (K : PySem.W.Frag) (H : Hp) : List (Key × V) → List (PyData × PyData) → Prop
  | nil : DkV K H [] []
  | cons {k : Key} {v : V} {d : PyData} {vs : List (Key × V)} {ds : List (PyData × PyData)} (h : Dk K H v d) (t : DkV K H vs ds) : DkV K H ((k, v) :: vs) ((keyPy k, d) :: ds)
end
/-- what the repr of u in the heap is -/
def Sh (P : Program) (w : World) (h : Heap) (u : Value) (d : PyData) : Prop := (∃ as, Reads h u d as) ∧ ∃ bs, ReadAtMost h d.depth bs ∧ ReprK P w bs h d.depth u d.shown
def ShS (P : Program) (w : World) (h : Heap) (us : List Value) (ds : List PyData) : Prop := (∃ as, ReadsAll h us ds as) ∧ ∃ bs, ReadAtMost h (PyData.depthAll ds) bs ∧ ReprAllK P w bs h (PyData.depthAll ds) us (PyData.shownAll ds)
section
variable {P : Program} {w : World} {h : Heap} {u : Value} {us : List Value} {d : PyData} {ds : List PyData}
theorem Sh.atom (r : Reads h u d []) (q : ReprIs P w u d.shown) : Sh P w h u d := ⟨⟨_, r⟩, [], fun b hb => (List.not_mem_nil hb).elim, ReprK.of_is q _ _ _⟩
theorem ShS.nil : ShS P w h [] [] := ⟨⟨_, ReadsAll.nil⟩, [], fun b hb => (List.not_mem_nil hb).elim, ReprAllK.nil⟩
theorem ShS.cons (a : Sh P w h u d) (b : ShS P w h us ds) : ShS P w h (u :: us) (d :: ds) := by
  obtain ⟨⟨as1, r1⟩, b1, m1, k1⟩ := a
  obtain ⟨⟨as2, r2⟩, b2, m2, k2⟩ := b
  have l1 : d.depth ≤ PyData.depthAll (d :: ds) := by rw [PyData.depthAll]; omega
  have l2 : PyData.depthAll ds ≤ PyData.depthAll (d :: ds) := by rw [PyData.depthAll]; omega
  refine ⟨⟨_, ReadsAll.cons r1 r2⟩, b1 ++ b2, ReadAtMost.append (m1.mono l1) (m2.mono l2), ?_⟩
  rw [PyData.shownAll]
  have j1 : ReprK P w (b1 ++ b2) h (PyData.depthAll (d :: ds)) u d.shown := (k1.more (as' := b1 ++ b2) fun z hz => List.mem_append.mpr (.inl hz)).level_le l1
  exact ReprAllK.cons j1 (k2.more_le (fun z hz => List.mem_append.mpr (.inr hz)) l2)
end
section
variable {X : Cx} {pins : List (Addr × Obj)} {σ : L2.St} {H : Hp} {s : Shared}
theorem keys_sh {h : Heap} {P : Program} {w : World} : ∀ {el : List DictEntry} {ws : List (Key × Value)} {kl : List (Key × V)} {ds : List (PyData × PyData)} {K : PySem.W.Frag}, Pairs (mixKind P w) el ws → KV kl ws → DkV K H kl ds → PyData.showableAll (ds.map (·.1)) = true → (∀ t ∈ PyData.shownAll (ds.map (·.1)), t.length ≤ sizeLine) → ShS P w h (el.map (·.key)) (ds.map (·.1))
  | _, _, _, _, _, .nil, r, q, _, _ => by
    cases r
    cases q
    exact ShS.nil
  | _, _, _, _, _, .cons p1 p2 p3, r, q, hs, hz => by
    cases r with
    | cons r0 rr =>
      cases q with
      | cons q0 qr =>
        simp only [List.map_cons, PyData.showableAll, Bool.and_eq_true, PyData.shownAll, List.mem_cons] at hs hz
        have ih := keys_sh (h := h) p3 rr qr hs.2 fun t ht => hz t (.inr ht)
        have z0 := hz _ (.inl rfl)
        rw [← r0.1] at p1
        rcases keyIs_shape p1 with ⟨i, t, rfl, e2⟩ | ⟨x, t, rfl, e2⟩
        · rw [List.map_cons, e2]
          exact ShS.cons (d := PyData.int i) (Sh.atom (Reads.int i t) (by rw [PyData.shown]; exact ReprIs.int t (by simpa [PyData.showable, keyPy] using hs.1))) ih
        · rw [List.map_cons, e2]
          exact ShS.cons (d := PyData.str x) (Sh.atom (Reads.str x t) (by rw [PyData.shown]; exact ReprIs.str x t (by simpa only [PyData.shown, keyPy] using z0))) ih
theorem vals_of {P : Program} {w : World} : ∀ {el : List DictEntry} {ws : List (Key × Value)} {kl : List (Key × V)}, Pairs (mixKind P w) el ws → KV kl ws → Vals (kl.map (·.2)) (el.map (·.val))
  | _, _, _, .nil, r => by cases r; exact .nil
  | _, _, _, .cons p1 p2 p3, r => by
    cases r with
    | cons r0 rr =>
      rw [List.map_cons, List.map_cons, p2]
      exact .cons r0.2 (vals_of p3 rr)
theorem depth_kv (ds : List (PyData × PyData)) : PyData.depthAll (ds.map (·.1)) ≤ PyData.depthKv ds ∧ PyData.depthAll (ds.map (·.2)) ≤ PyData.depthKv ds := ⟨PyData.depthAll_keys_le ds, PyData.depthAll_vals_le ds⟩
/-- a dict's parts -/
theorem dct_sh {a : Addr} {kl : List (Key × V)} {ds : List (PyData × PyData)} (I : Inv X pins σ H s) (hd : Rd H a (.dK kl)) (q : DkV X.K H kl ds) (hs : PyData.showableKv ds = true) (hz : (dictText (PyData.shownKv ds)).length ≤ sizeLine)
    (vals : ∀ {us : List Value}, Vals (kl.map (·.2)) us → PyData.showableAll (ds.map (·.2)) = true → (∀ t ∈ PyData.shownAll (ds.map (·.2)), t.length ≤ sizeLine) → ShS X.prog X.w s.heap us (ds.map (·.2))) :
    (a == sysModules) = false ∧ ∃ (o : Obj) (es : Array DictEntry) (ep : Nat) (bs : List Addr), s.heap.get? a = some o ∧ o.cls = Value.type "dict" ∧ o.data = .dict es ep ∧ (∃ as, Reads s.heap (.ref a) (.dict ds) as) ∧ a ∉ bs ∧ ReadAtMost s.heap (PyData.depthKv ds) bs ∧
      ReprEntriesK X.prog X.w bs s.heap (PyData.depthKv ds) es.toList (PyData.shownKv ds) := by
  obtain ⟨z, hsm, ws, kv, o, es, ep, ho, hx, hdat, _, prs, _⟩ := dk_rd I.hok hd
  obtain ⟨s1, s2⟩ := PyData.showableKv_split ds hs
  obtain ⟨⟨as1, r1⟩, b1, m1, k1⟩ := keys_sh (h := s.heap) prs kv q s1 fun t ht => by
    obtain ⟨p, hp, l⟩ := PyData.shownKv_key_le ds t ht
    exact Nat.le_trans (Nat.le_trans l (dictText_mem_le hp)) hz
  obtain ⟨⟨as2, r2⟩, b2, m2, k2⟩ := vals (vals_of prs kv) s2 fun t ht => by
    obtain ⟨p, hp, l⟩ := PyData.shownKv_val_le ds t ht
    exact Nat.le_trans (Nat.le_trans l (dictText_mem_le hp)) hz
  have rr : Reads s.heap (.ref a) (.dict ds) _ := Reads.dict ho hx.1 hdat r1 r2
  obtain ⟨d1, d2⟩ := depth_kv ds
  have mm : ReadAtMost s.heap (PyData.depthKv ds) (b1 ++ b2) := ReadAtMost.append (m1.mono d1) (m2.mono d2)
  refine ⟨hsm, o, es, ep, b1 ++ b2, ho, hx.1, hdat, ⟨_, rr⟩, not_mem_of_deeper rr (by rw [PyData.depth]; omega) mm, mm, ?_⟩
  rw [PyData.shownKv_eq]
  exact ReprEntriesK.of_two _ _ _ (k1.more_le (fun y hy => List.mem_append.mpr (.inl hy)) d1) (k2.more_le (fun y hy => List.mem_append.mpr (.inr hy)) d2)
/-- a list's parts -/
theorem lst_sh {a : Addr} {vs : List V} {ds : List PyData} (I : Inv X pins σ H s) (hd : SqL X.K H a vs)
    (all : ∀ {us : List Value}, Vals vs us → ShS X.prog X.w s.heap us ds) :
    ∃ (o : Obj) (us : List Value) (n : Nat) (bs : List Addr), s.heap.get? a = some o ∧ o.cls = Value.type "list" ∧ o.data = .seq us.toArray n ∧ (∃ as, Reads s.heap (.ref a) (.list ds) as) ∧ a ∉ bs ∧ ReadAtMost s.heap (PyData.depthAll ds) bs ∧ (∃ as, ReadsAll s.heap us ds as) ∧
      ReprAllK X.prog X.w bs s.heap (PyData.depthAll ds) us (PyData.shownAll ds) := by
  obtain ⟨us, rv, ⟨o, n, ho, hc, _, hdat⟩, _⟩ := I.list hd
  obtain ⟨⟨as, r⟩, bs, m, k⟩ := all rv
  have rr : Reads s.heap (.ref a) (.list ds) _ := Reads.list ho hc hdat r
  exact ⟨o, us, n, bs, ho, hc, hdat, ⟨_, rr⟩, not_mem_of_deeper rr (by rw [PyData.depth]; omega) m, m, ⟨as, r⟩, k⟩
theorem tup_sh {a : Addr} {vs : List V} {ds : List PyData} (I : Inv X pins σ H s) (hd : SqT X.K H a vs)
    (all : ∀ {us : List Value}, Vals vs us → ShS X.prog X.w s.heap us ds) :
    ∃ (o : Obj) (us : List Value) (n : Nat) (bs : List Addr), s.heap.get? a = some o ∧ o.cls = Value.type "tuple" ∧ o.data = .seq us.toArray n ∧ (∃ as, Reads s.heap (.ref a) (.tuple ds) as) ∧ a ∉ bs ∧ ReadAtMost s.heap (PyData.depthAll ds) bs ∧
      ReprAllK X.prog X.w bs s.heap (PyData.depthAll ds) us (PyData.shownAll ds) := by
  obtain ⟨us, rv, ⟨o, ho, hc, n, hdat⟩, _⟩ := I.tuple hd
  obtain ⟨⟨as, r⟩, bs, m, k⟩ := all rv
  have rr : Reads s.heap (.ref a) (.tuple ds) _ := Reads.tuple ho hc hdat r
  exact ⟨o, us, n, bs, ho, hc, hdat, ⟨_, rr⟩, not_mem_of_deeper rr (by rw [PyData.depth]; omega) m, m, k⟩
theorem szL {ds : List PyData} (h : (PyData.list ds).shown.length ≤ sizeLine) : ∀ t ∈ PyData.shownAll ds, t.length ≤ sizeLine := fun t ht => by
  rw [PyData.shown] at h
  exact Nat.le_trans (listText_mem_le ht) h
theorem szT {ds : List PyData} (h : (PyData.tuple ds).shown.length ≤ sizeLine) : ∀ t ∈ PyData.shownAll ds, t.length ≤ sizeLine := fun t ht => by
  rw [PyData.shown] at h
  exact Nat.le_trans (tupleText_mem_le ht) h
mutual
theorem Dk.sh (I : Inv X pins σ H s) : ∀ {v : V} {d : PyData} {u : Value}, Dk X.K H v d → RelV v u → d.showable = true → d.shown.length ≤ sizeLine → Sh X.prog X.w s.heap u d
  | _, _, _, .non, r, _, _ => by
    cases r
    exact Sh.atom Reads.none (by rw [PyData.shown]; exact ReprIs.none)
  | _, _, _, .bl b, r, _, _ => by
    cases r
    exact Sh.atom (Reads.bool b) (by rw [PyData.shown]; exact ReprIs.bool b)
  | _, _, _, .int i, r, hs, _ => by
    obtain ⟨t, rfl⟩ := r
    exact Sh.atom (Reads.int i t) (by rw [PyData.shown]; exact ReprIs.int t (by simpa [PyData.showable] using hs))
  | _, _, _, .str x, r, _, hz => by
    obtain ⟨t, rfl⟩ := r
    exact Sh.atom (Reads.str x t) (by rw [PyData.shown]; exact ReprIs.str x t (by simpa only [PyData.shown] using hz))
  | _, _, _, .lst (ds := ds) h t, r, hs, hz => by
    cases r
    have hs' : PyData.showableAll ds = true := by simpa [PyData.showable] using hs
    obtain ⟨o, us, n, bs, ho, hc, hdat, rr, na, m, ⟨as, ra⟩, k⟩ := lst_sh (ds := ds) I h fun rv => DkS.sh I t rv hs' (szL hz)
    refine ⟨rr, _ :: bs, ReadAtMost.cons rr.choose_spec (by rw [PyData.depth]; omega) m, ?_⟩
    rw [PyData.depth, PyData.shown]
    cases us with
    | nil =>
      cases ra
      rw [PyData.shownAll, listText_nil]
      exact ReprK.listEmpty ho hc hdat
    | cons u0 ur => exact ReprK.list ho hc hdat na (by simpa using k.length_eq) fun i y e => k.item i y (by simpa using e)
  | _, _, _, .tup (ds := ds) h t, r, hs, hz => by
    cases r
    have hs' : PyData.showableAll ds = true := by simpa [PyData.showable] using hs
    obtain ⟨o, us, n, bs, ho, hc, hdat, rr, na, m, k⟩ := tup_sh (ds := ds) I h fun rv => DkS.sh I t rv hs' (szT hz)
    refine ⟨rr, _ :: bs, ReadAtMost.cons rr.choose_spec (by rw [PyData.depth]; omega) m, ?_⟩
    rw [PyData.depth, PyData.shown]
    exact ReprK.tuple ho hc hdat na k
  | _, _, _, .dct (ds := ds) h t, r, hs, hz => by
    cases r
    have hs' : PyData.showableKv ds = true := by simpa [PyData.showable] using hs
    have hz' : (dictText (PyData.shownKv ds)).length ≤ sizeLine := by simpa only [PyData.shown] using hz
    obtain ⟨hsm, o, es, ep, bs, ho, hc, hdat, rr, na, m, k⟩ := dct_sh I h t hs' hz' fun rv s2 z2 => DkV.sh I t rv s2 z2
    refine ⟨rr, _ :: bs, ReadAtMost.cons rr.choose_spec (by rw [PyData.depth]; omega) m, ?_⟩
    rw [PyData.depth, PyData.shown]
    exact ReprK.dict ho hc hdat hsm na k
theorem DkS.sh (I : Inv X pins σ H s) : ∀ {vs : List V} {ds : List PyData} {us : List Value}, DkS X.K H vs ds → Vals vs us → PyData.showableAll ds = true → (∀ t ∈ PyData.shownAll ds, t.length ≤ sizeLine) → ShS X.prog X.w s.heap us ds
  | _, _, _, .nil, r, _, _ => by
    cases r
    exact ShS.nil
  | _, _, _, .cons h t, r, hs, hz => by
    cases r with
    | cons r0 rr =>
      simp only [PyData.showableAll, Bool.and_eq_true, PyData.shownAll, List.mem_cons] at hs hz
      exact ShS.cons (Dk.sh I h r0 hs.1 (hz _ (.inl rfl))) (DkS.sh I t rr hs.2 fun y hy => hz y (.inr hy))
theorem DkV.sh (I : Inv X pins σ H s) : ∀ {vs : List (Key × V)} {ds : List (PyData × PyData)} {us : List Value}, DkV X.K H vs ds → Vals (vs.map (·.2)) us → PyData.showableAll (ds.map (·.2)) = true → (∀ t ∈ PyData.shownAll (ds.map (·.2)), t.length ≤ sizeLine) → ShS X.prog X.w s.heap us (ds.map (·.2))
  | _, _, _, .nil, r, _, _ => by
    cases r
    exact ShS.nil
  | _, _, _, .cons h t, r, hs, hz => by
    rw [List.map_cons] at r
    cases r with
    | cons r0 rr =>
      simp only [List.map_cons, PyData.showableAll, Bool.and_eq_true, PyData.shownAll, List.mem_cons] at hs hz
      rw [List.map_cons]
      exact ShS.cons (Dk.sh I h r0 hs.1 (hz _ (.inl rfl))) (DkV.sh I t rr hs.2 fun y hy => hz y (.inr hy))
end
end
end QL
end
section
set_option Elab.async false
set_option linter.all false
set_option maxRecDepth 100000
set_option maxHeartbeats 1000000
set_option autoImplicit false
/-! QReprK2: the rule of repr of data with dicts. -/
namespace QL
open PySem PySem.Spec L2 PyProof.Rows
open Classical
section
variable {X : Cx} {pins : List (Addr × Obj)} {σ : L2.St} {H : Hp} {s : Shared}
theorem Dk.show {a : Addr} {d : PyData} {Q : Value → Shared → Prop} {E : Value → Shared → Prop} (I : Inv X pins σ H s) (h : Dk X.K H (.ref a) d) (hs : d.showable = true) (hz : d.shown.length ≤ sizeLine) (hg : X.A.guards = some []) (hu : X.A.units + 64 < cLine) (dd : d.depth ≤ 60)
    (hQ : ∀ h' u tk, (∀ b o, s.heap.get? b = some o → h'.get? b = some o) → Q (.str d.shown u) { s with heap := h', toks := tk }) : wpAny (model X.prog X.w) X.A (call (.builtin "repr") [.ref a]) Q E s := by
  cases h with
  | lst h t =>
    rename_i vs ds
    have hs' : PyData.showableAll ds = true := by simpa [PyData.showable] using hs
    obtain ⟨o, us, n, bs, ho, hc, hdat, _, na, _, ⟨as, ra⟩, k⟩ := lst_sh (ds := ds) I h fun rv => DkS.sh I t rv hs' (szL hz)
    rw [PyData.depth] at dd
    rw [PyData.shown] at hz hQ
    refine call_repr_slot (T := "list") (by omega) ⟨o, ho, hc⟩ F.slot_list_repr.toG ?_
    cases us with
    | nil =>
      cases ra
      rw [PyData.shownAll, listText_nil] at hQ
      exact call_list_repr_empty ⟨o, ho, hc⟩ ho hdat ⟨_, _, rfl, hQ s.heap _ _ fun _ _ e => e⟩
    | cons u0 ur => exact call_list_reprK ho hc hdat na (by simpa using k.length_eq) (fun i y e => k.item i y (by simpa using e)) hg (fun b _ => Clear.nil b) (by show X.A.units + 1 + _ < cLine; omega) (fun _ _ e => e) (fun h' u tk hk => ⟨_, _, rfl, hQ h' u tk hk⟩) hz
  | tup h t =>
    rename_i vs ds
    have hs' : PyData.showableAll ds = true := by simpa [PyData.showable] using hs
    obtain ⟨o, us, n, bs, ho, hc, hdat, _, na, _, k⟩ := tup_sh (ds := ds) I h fun rv => DkS.sh I t rv hs' (szT hz)
    rw [PyData.depth] at dd
    rw [PyData.shown] at hz hQ
    refine call_repr_slot (T := "tuple") (by omega) ⟨o, ho, hc⟩ F.slot_tuple_repr ?_
    exact call_tuple_reprK ho hc hdat na k hg (fun b _ => Clear.nil b) (by show X.A.units + 1 + _ < cLine; omega) (fun _ _ e => e) (fun h' u tk hk => ⟨_, _, rfl, hQ h' u tk hk⟩) hz
  | dct h t =>
    rename_i vs ds
    have hs' : PyData.showableKv ds = true := by simpa [PyData.showable] using hs
    rw [PyData.depth] at dd
    rw [PyData.shown] at hz hQ
    obtain ⟨hsm, o, es, ep, bs, ho, hc, hdat, _, na, _, k⟩ := dct_sh I h t hs' hz fun rv s2 z2 => DkV.sh I t rv s2 z2
    refine call_repr_slot (T := "dict") (by omega) ⟨o, ho, hc⟩ F.slot_dict_repr ?_
    exact call_dict_reprK ho hc hdat hsm na k hg (fun b _ => Clear.nil b) (by show X.A.units + 1 + _ < cLine; omega) (fun _ _ e => e) (fun h' u tk hk => ⟨_, _, rfl, hQ h' u tk hk⟩) hz
end
def rReprK (K : PySem.W.Frag) : List V → Hp → VK → Prop := fun xs H Q => ∃ a d, xs = [.ref a] ∧ Dk K H (.ref a) d ∧ d.showable = true ∧ d.depth ≤ 60 ∧ d.shown.length ≤ sizeLine ∧ Q (.str d.shown) H
theorem call_reprKd {X : Cx} (hgd : X.A.guards = some []) (hu : X.A.units + 64 < cLine) : CallR X (.builtin "repr") (rReprK X.K) := by
  intro pins s σ H xs us Q I r h
  obtain ⟨a, d, rfl, dk, sh, dd, hz, q⟩ := h
  rw [Vals.ref1 r]
  exact Dk.show I dk sh hz hgd hu dd fun h' u tk hk => ⟨.str _, H, I.kept hk, ⟨u, rfl⟩, q⟩
/-! ### as data -/
mutual
def pyK : D → PyData
  | .non => .none
  | .bl b => .bool b
  | .int i => .int i
  | .str x => .str x
  | .tup ds => .tuple (pyKs ds)
  | .lst ds => .list (pyKs ds)
  | .dK kvs => .dict (pyKv kvs)
  | _ => .none
def pyKs : List D → List PyData
  | [] => []
  | d :: r => pyK d :: pyKs r
def pyKv : List (Key × D) → List (PyData × PyData)
  | [] => []
  | e :: r => pyK1 e :: pyKv r
def pyK1 : Key × D → PyData × PyData
  | (k, d) => (keyPy k, pyK d)
end
def okKey : Key → Bool
  | .inl i => decide (i.natAbs.log2 < 1920)
  | .inr x => PyData.strOk x
def wtKey : Key → Nat
  | .inl i => i.natAbs.log2 + 2
  | .inr x => 10 * x.length + 2
mutual
/-- data of depth at most n that can be shown -/
def okK : Nat → D → Bool
  | _, .non => true
  | _, .bl _ => true
  | _, .int i => decide (i.natAbs.log2 < 1920)
  | _, .str x => PyData.strOk x
  | n, .tup ds => match n with
    | 0 => false
    | n + 1 => okKs n ds
  | n, .lst ds => match n with
    | 0 => false
    | n + 1 => okKs n ds
  | n, .dK kvs => match n with
    | 0 => false
    | n + 1 => okKv n kvs
  | _, _ => false
def okKs : Nat → List D → Bool
  | _, [] => true
  | n, d :: r => okK n d && okKs n r
def okKv : Nat → List (Key × D) → Bool
  | _, [] => true
  | n, e :: r => okK1 n e && okKv n r
def okK1 : Nat → Key × D → Bool
  | n, (k, d) => okKey k && okK n d
end
mutual
def wtK : D → Nat
  | .non => 4
  | .bl _ => 5
  | .int i => i.natAbs.log2 + 2
  | .str x => 10 * x.length + 2
  | .tup ds => wtKs ds + 3
  | .lst ds => wtKs ds + 4
  | .dK kvs => wtKv kvs + 4
  | _ => 0
def wtKs : List D → Nat
  | [] => 0
  | d :: r => wtK d + 2 + wtKs r
def wtKv : List (Key × D) → Nat
  | [] => 0
  | e :: r => wtK1 e + 2 + wtKv r
def wtK1 : Key × D → Nat
  | (k, d) => wtKey k + 2 + wtK d
end
theorem str_len {x : Str} (h : PyData.strOk x = true) : (reprText x).length ≤ 10 * x.length + 2 := StrLaws.reprText_len x fun c hc => by
  unfold PyData.strOk at h
  have h2 := Array.all_eq_true'.mp h c (Array.mem_toList_iff.mp hc)
  have h3 : c < 0x110000 := of_decide_eq_true h2
  omega
theorem key_ok {k : Key} (h : okKey k = true) : (keyPy k).showable = true ∧ (keyPy k).depth = 0 ∧ (keyPy k).shown.length ≤ wtKey k := by
  cases k with
  | inl i =>
    refine ⟨by simpa [keyPy, PyData.showable, okKey] using h, rfl, ?_⟩
    simp only [keyPy, PyData.shown, wtKey]
    rw [PySem.ofString_length]
    exact int_text_length_le (a := i) (k := i.natAbs.log2 + 1) (by omega) (by omega)
  | inr x =>
    refine ⟨rfl, rfl, ?_⟩
    simp only [keyPy, PyData.shown, wtKey]
    exact str_len h
theorem dictText_le (ps : List Str) : (dictText ps).length ≤ piled ps + 4 := by
  have j : (Str.join ", " ps).length ≤ piled ps := by
    cases ps with
    | nil => exact Nat.zero_le _
    | cons t r =>
      have := join_length_add (t :: r) (by simp)
      omega
  have e : (dictText ps).length = 1 + (Str.join ", " ps).length + 1 := by
    unfold dictText
    rw [strLen_append, strLen_append]
    rfl
  omega
mutual
theorem okK_py : ∀ {n : Nat} {d : D}, okK n d = true → (pyK d).showable = true ∧ (pyK d).depth ≤ n ∧ (pyK d).shown.length ≤ wtK d
  | _, .non, _ => ⟨rfl, Nat.zero_le _, by simp only [pyK, PyData.shown, wtK]; decide⟩
  | _, .bl true, _ => ⟨rfl, Nat.zero_le _, by simp only [pyK, PyData.shown, wtK]; decide⟩
  | _, .bl false, _ => ⟨rfl, Nat.zero_le _, by simp only [pyK, PyData.shown, wtK]; decide⟩
  | _, .int i, h => by
    have k := key_ok (k := .inl i) h
    exact ⟨k.1, Nat.zero_le _, k.2.2⟩
  | _, .str x, h => by
    have k := key_ok (k := .inr x) h
    exact ⟨k.1, Nat.zero_le _, k.2.2⟩
  | 0, .tup _, h => by simp [okK] at h
  | n + 1, .tup ds, h => by
    have h' : okKs n ds = true := by simpa [okK] using h
    obtain ⟨a, b, c⟩ := okKs_py h'
    have e := tupleText_le (PyData.shownAll (pyKs ds))
    refine ⟨by simpa [pyK, PyData.showable] using a, ?_, ?_⟩
    · simp only [pyK, PyData.depth]; omega
    · simp only [pyK, PyData.shown, wtK]; omega
  | 0, .lst _, h => by simp [okK] at h
  | n + 1, .lst ds, h => by
    have h' : okKs n ds = true := by simpa [okK] using h
    obtain ⟨a, b, c⟩ := okKs_py h'
    have e := listText_le (PyData.shownAll (pyKs ds))
    refine ⟨by simpa [pyK, PyData.showable] using a, ?_, ?_⟩
    · simp only [pyK, PyData.depth]; omega
    · simp only [pyK, PyData.shown, wtK]; omega
  | 0, .dK _, h => by simp [okK] at h
  | n + 1, .dK kvs, h => by
    have h' : okKv n kvs = true := by simpa [okK] using h
    obtain ⟨a, b, c⟩ := okKv_py h'
    have e := dictText_le (PyData.shownKv (pyKv kvs))
    refine ⟨by simpa [pyK, PyData.showable] using a, ?_, ?_⟩
    · simp only [pyK, PyData.depth]; omega
    · simp only [pyK, PyData.shown, wtK]; omega
  | _, .ptr _, h => by simp [okK] at h
  | _, .raw _, h => by simp [okK] at h
  | _, .dT _, h => by simp [okK] at h
  | _, .obj _ _, h => by simp [okK] at h
  | _, .exc _ _ _ _, h => by simp [okK] at h
theorem okKs_py : ∀ {n : Nat} {ds : List D}, okKs n ds = true → PyData.showableAll (pyKs ds) = true ∧ PyData.depthAll (pyKs ds) ≤ n ∧ piled (PyData.shownAll (pyKs ds)) ≤ wtKs ds
  | _, [], _ => ⟨rfl, Nat.zero_le _, Nat.le_refl _⟩
  | n, d :: r, h => by
    have h' : okK n d = true ∧ okKs n r = true := by simpa [okKs] using h
    obtain ⟨a1, a2, a3⟩ := okK_py h'.1
    obtain ⟨b1, b2, b3⟩ := okKs_py h'.2
    refine ⟨by simp only [pyKs, PyData.showableAll, a1, b1, Bool.and_self], ?_, ?_⟩
    · simp only [pyKs, PyData.depthAll]; omega
    · simp only [pyKs, PyData.shownAll, wtKs]
      rw [piled_cons]
      omega
theorem okKv_py : ∀ {n : Nat} {kvs : List (Key × D)}, okKv n kvs = true → PyData.showableKv (pyKv kvs) = true ∧ PyData.depthKv (pyKv kvs) ≤ n ∧ piled (PyData.shownKv (pyKv kvs)) ≤ wtKv kvs
  | _, [], _ => ⟨rfl, Nat.zero_le _, Nat.le_refl _⟩
  | n, (k, d) :: r, h => by
    have h' : (okKey k = true ∧ okK n d = true) ∧ okKv n r = true := by simpa [okKv, okK1] using h
    obtain ⟨a1, a2, a3⟩ := okK_py h'.1.2
    obtain ⟨b1, b2, b3⟩ := okKv_py h'.2
    obtain ⟨k1, k2, k3⟩ := key_ok h'.1.1
    refine ⟨by simp only [pyKv, pyK1, PyData.showableKv, a1, b1, k1, Bool.and_self], ?_, ?_⟩
    · simp only [pyKv, pyK1, PyData.depthKv]; omega
    · simp only [pyKv, pyK1, PyData.shownKv, wtKv, wtK1]
      rw [piled_cons, strLen_append, strLen_append]
      have : ((": " : String) : Str).length = 2 := rfl
      omega
end
section
variable {c : Cn} {G : Gd} {H : Hp}
mutual
theorem DV.dk (z : Fz G.F H) : ∀ {n : Nat} {d : D} {v : V}, okK n d = true → DV c G d v → Dk c.K H v (pyK d)
  | _, .non, _, _, q => by rw [show _ = V.non from q, pyK]; exact .non
  | _, .bl b, _, _, q => by rw [show _ = V.bl b from q, pyK]; exact .bl b
  | _, .int b, _, _, q => by rw [show _ = V.int b from q, pyK]; exact .int b
  | _, .str b, _, _, q => by rw [show _ = V.str b from q, pyK]; exact .str b
  | 0, .tup ds, _, h, q => by simp [okK] at h
  | n + 1, .tup ds, _, h, q => by
    have h' : okKs n ds = true := by simpa [okK] using h
    obtain ⟨a, vs, rfl, s, t⟩ := q
    rw [pyK]
    exact .tup (.inl (.inl (z.tup s))) (DVs.dk z h' t)
  | 0, .lst ds, _, h, q => by simp [okK] at h
  | n + 1, .lst ds, _, h, q => by
    have h' : okKs n ds = true := by simpa [okK] using h
    obtain ⟨a, vs, rfl, s, t⟩ := q
    rw [pyK]
    exact .lst (z.sqL s) (DVs.dk z h' t)
  | 0, .dK kvs, _, h, q => by simp [okK] at h
  | n + 1, .dK kvs, _, h, q => by
    have h' : okKv n kvs = true := by simpa [okK] using h
    obtain ⟨a, vs, o, rfl, s, t⟩ := q
    rw [pyK]
    refine .dct (.inr ⟨o, ?_⟩) (DVk.dk z h' t)
    rcases z _ _ s with y | ⟨y, _⟩
    · exact y
    · cases y
  | _, .ptr _, _, h, _ => by simp [okK] at h
  | _, .raw _, _, h, _ => by simp [okK] at h
  | _, .dT _, _, h, _ => by simp [okK] at h
  | _, .obj _ _, _, h, _ => by simp [okK] at h
  | _, .exc _ _ _ _, _, h, _ => by simp [okK] at h
theorem DVs.dk (z : Fz G.F H) : ∀ {n : Nat} {ds : List D} {vs : List V}, okKs n ds = true → DVs c G ds vs → DkS c.K H vs (pyKs ds)
  | _, [], _, _, q => by rw [show _ = ([] : List V) from q, pyKs]; exact .nil
  | n, d :: r, _, h, q => by
    have h' : okK n d = true ∧ okKs n r = true := by simpa [okKs] using h
    obtain ⟨v, t, rfl, q1, q2⟩ := q
    rw [pyKs]
    exact .cons (DV.dk z h'.1 q1) (DVs.dk z h'.2 q2)
theorem DVk.dk (z : Fz G.F H) : ∀ {n : Nat} {ds : List (Key × D)} {vs : List (Key × V)}, okKv n ds = true → DVk c G ds vs → DkV c.K H vs (pyKv ds)
  | _, [], _, _, q => by rw [show _ = ([] : List (Key × V)) from q, pyKv]; exact .nil
  | n, (k, d) :: r, _, h, q => by
    have h' : (okKey k = true ∧ okK n d = true) ∧ okKv n r = true := by simpa [okKv, okK1] using h
    obtain ⟨⟨k', v⟩, t, rfl, ⟨q0, q1⟩, q2⟩ := q
    cases (show k' = k from q0)
    rw [pyKv, pyK1]
    exact .cons (DV.dk z h'.1.2 q1) (DVk.dk z h'.2 q2)
end
end
/-- what a place of the store holds, as data -/
def derK (M : Mem) (d : D) : D := match asL M d with
  | some ds => .lst ds
  | none => match asK M d with
    | some kvs => .dK kvs
    | none => d
def isRefK : D → Bool
  | .tup _ => true
  | .lst _ => true
  | .dK _ => true
  | _ => false
theorem derK_dk {c : Cn} {G : Gd} {H : Hp} {M : Mem} {d : D} {v : V} (r : Rep c G H M) (q : DV c G d v) (h : okK 60 (derK M d) = true) : Dk c.K H v (pyK (derK M d)) := by
  unfold derK at h ⊢
  cases e : asL M d with
  | some ds =>
    rw [e] at h
    simp only at h ⊢
    obtain ⟨a, vs, rfl, s, t⟩ := asL_at r q e
    rw [pyK]
    have h' : okKs 59 ds = true := by simpa [okK] using h
    exact .lst s (DVs.dk r.fz h' t)
  | none =>
    rw [e] at h
    simp only at h ⊢
    cases e2 : asK M d with
    | some kvs =>
      rw [e2] at h
      simp only at h ⊢
      obtain ⟨a, vs, rfl, s, t⟩ := asK_at r q e2
      rw [pyK]
      have h' : okKv 59 kvs = true := by simpa [okK] using h
      exact .dct s (DVk.dk r.fz h' t)
    | none =>
      rw [e2] at h
      exact DV.dk r.fz h q
theorem isRef_ref {c : Cn} {G : Gd} {H : Hp} {M : Mem} {d : D} {v : V} (r : Rep c G H M) (q : DV c G d v) (h : isRefK (derK M d) = true) : ∃ a, v = .ref a := by
  unfold derK at h
  cases e : asL M d with
  | some ds =>
    obtain ⟨a, vs, rfl, _⟩ := asL_at r q e
    exact ⟨a, rfl⟩
  | none =>
    rw [e] at h
    simp only at h
    cases e2 : asK M d with
    | some kvs =>
      obtain ⟨a, vs, rfl, _⟩ := asK_at r q e2
      exact ⟨a, rfl⟩
    | none =>
      rw [e2] at h
      cases d with
      | tup ds => obtain ⟨a, vs, rfl, _⟩ := q; exact ⟨a, rfl⟩
      | lst ds => obtain ⟨a, vs, rfl, _⟩ := q; exact ⟨a, rfl⟩
      | dK ds => obtain ⟨a, vs, o, rfl, _⟩ := q; exact ⟨a, rfl⟩
      | _ => cases h
/-- repr of data, dicts too -/
def bReprK (ds : List D) (M : Mem) : Res D := match ds with
  | [d] => if okK 60 (derK M d) = true ∧ wtK (derK M d) ≤ sizeLine ∧ isRefK (derK M d) = true then .ok (.str (pyK (derK M d)).shown) M else .bad
  | _ => .bad
theorem rc_reprK {c : Cn} : RCs c bReprK (rReprK c.K) := by
  intro W σ G H M vs ds Q r q p
  unfold bReprK at p
  split at p
  · split at p
    · rename_i d hz
      obtain ⟨h1, h2, h3⟩ := hz
      obtain ⟨v, t, rfl, q1, qt⟩ := q
      cases (show t = [] from qt)
      obtain ⟨a, rfl⟩ := isRef_ref r q1 h3
      obtain ⟨s1, s2, s3⟩ := okK_py h1
      exact ⟨a, pyK (derK M d), rfl, derK_dk r q1 h1, s1, s2, Nat.le_trans s3 h2, p G _ H (Gr.refl _) r rfl⟩
    · exact p.elim
  · exact p.elim
def bReprAK := orC bReprA bReprK
theorem qreprAK {X : Cx} {W : WX} {p pos : Pos} {e : Expr} {a : AF} (hgd : X.A.guards = some []) (hu : X.A.units + 64 < cLine) (hg : Gl X "repr") (hm : X.mg "repr" = none) (ha : QA X W [e] a) (he : starEach [e] X.env = (false, eval e X.env) :: starEach [] X.env := by rfl) (hpl : (backTo pos (starEach [] X.env)).any (·.1) = false := by rfl) :
    QE X W (.Call (.Name "repr" p) [e] [] pos) (eCall bReprAK a) := (qreprA hgd hu hg hm ha he hpl).call (q_cb (call_reprKd hgd hu) rc_reprK hg hm ha (by decide +kernel) (by decide) (by decide) he hpl)
end QL
end
section
set_option Elab.async false
set_option linter.all false
set_option maxRecDepth 100000
set_option maxHeartbeats 1000000
set_option autoImplicit false
/-! QIso: isinstance(x, T), T built in, x an object of the program's own too. -/
namespace QL
open PySem PySem.Spec L2
open Classical
def eIsO (os : List Str) (t : String) (e : EF) : EF := fun S M => (e S M).bind fun d M1 => match tyName M1 d with
  | some n => .ok (.bl (isTy n t)) M1
  | none => match d with
    | .obj n _ => if n ∈ os then .ok (.bl false) M1 else .bad
    | _ => .bad
/-- what is known of own classes -/
def IsoC (K : PySem.W.Frag) (mg : Str → Option Value) (os : List Str) (ts : List String) : Prop := ∀ n ∈ os, mg n = some (.ref (adr mg n)) ∧ Cls K (adr mg n) ∧ PySem.W.findIn K (.ref (adr mg n)) "__class__" = some (some (.builtin "object.__class__")) ∧ PySem.W.specialIn K (.builtin "object.__class__") "__get__" = some (some (.builtin "getset_descriptor.__get__")) ∧ PySem.W.takesIn K (.builtin "object.__class__") = some true ∧ PySem.W.mroIn K (adr mg n) (.type "object") = some true ∧ ∀ t ∈ ts, PySem.W.kitOne K (.ref (adr mg n)) (.type t) = some false
section
variable {X : Cx} {W : WX} {e : Expr} {fe : EF} {p p2 pos : Pos} {t : Str} {T : String} {os : List Str} {ts : List String}
theorem qisO (io : IsoC X.K X.mg os ts) (ht : T ∈ ts) (hT : T ∈ ["bool", "int", "str", "tuple", "list", "dict"]) (hg : Gl X "isinstance") (hm : X.mg "isinstance" = none) (he : QE X W e fe) (gt : Gl X t) (mt : X.mg t = none) (hv : bootBuiltins t = some (.type T)) (hn : t ≠ "__name__" := by decide) (hdt : (t == ("__debug__" : Str)) = false := by decide)
    (h1 : starEach [e, .Name t p2] X.env = (false, eval e X.env) :: starEach [.Name t p2] X.env := by rfl) (h2 : starEach [.Name t p2] X.env = (false, eval (.Name t p2) X.env) :: starEach [] X.env := by rfl) (hp : (backTo pos (starEach [.Name t p2] X.env)).any (·.1) = false := by rfl) :
    QE X W (.Call (.Name "isinstance" p) [e, .Name t p2] [] pos) (eIsO os T fe) :=
  PE.imp (pe_callB call_isi hg hm (by decide +kernel) (pa_cons he (pa_cons (pe_bltn (v := .ty T) gt mt hv rfl hn hdt) pa_nil h2) h1) (by decide) (by decide) h1 hp) fun σ H Q h => by
    refine Up.imp (Up.bind h) fun v H1 ⟨G, S, d, M, r, s, q, p⟩ => ?_
    split at p
    · rename_i n hn
      exact ⟨v, .ty T, .type n, .type T, isTy n T, rfl, .ty T, tyName_at r q hn, kit_ty (kit_all n (tyName_in hn) T hT), p G _ H1 (Gr.refl _) r rfl⟩
    · split at p
      · rename_i n fs _
        split at p
        · rename_i hn
          obtain ⟨a, C, dx, ws, rfl, hF, hmg, _⟩ := q
          obtain ⟨m1, cl, hc, hg', ht', hr', hk⟩ := io n hn
          have hmg' : X.mg n = some (.ref C) := hmg
          have eC : adr X.mg n = C := by
            rw [m1] at hmg'
            cases hmg'
            rfl
          rw [eC] at cl hc hr' hk
          exact ⟨.ref a, .ty T, .ref C, .type T, false, rfl, .ty T, .base (.ins (r.fz.ins hF) cl hc hg' ht' hr'), hk T ht, p G _ H1 (Gr.refl _) r rfl⟩
        · exact p.elim
      · exact p.elim
end
end QL
end
section
set_option Elab.async false
set_option linter.all false
set_option maxRecDepth 100000
set_option maxHeartbeats 1000000
set_option autoImplicit false
/-! QLen: str(n); a text times a number; a slice laid at a place of its own; len(o) by an own __len__. -/
namespace QL
open PySem PySem.Spec L2
open Classical
/-- str(n) -/
def bStrI (ds : List D) (M : Mem) : Res D := match ds with
  | [.int i] => if i.natAbs.log2 < 1920 then .ok (.str (toString i)) M else .bad
  | _ => .bad
theorem rc_strI {c : Cn} : RCs c bStrI (fun xs H Q => ∃ i, xs = [.int i] ∧ i.natAbs.log2 < 1920 ∧ Q (.str (toString i)) H) := by
  intro W σ G H M vs ds Q r q p
  unfold bStrI at p
  split at p
  · split at p
    · rename_i hz
      exact ⟨_, DVs.ints (ns := [_]) q, hz, p G _ H (Gr.refl _) r rfl⟩
    · exact p.elim
  · exact p.elim
section
variable {X : Cx} {W : WX} {p pos : Pos} {e : Expr} {a : AF}
theorem qstrI (hg : Gl X "str") (hm : X.mg "str" = none) (ha : QA X W [e] a) (he : starEach [e] X.env = (false, eval e X.env) :: starEach [] X.env := by rfl) (hpl : (backTo pos (starEach [] X.env)).any (·.1) = false := by rfl) :
    QE X W (.Call (.Name "str" p) [e] [] pos) (eCall bStrI a) := q_ct call_str_int rc_strI hg hm ha (by decide +kernel) (by decide) (by decide) he hpl
end
/-! ### a text times a number; xs * n -/
def fMulS (x y : D) (M : Mem) : Res D := match x, y with
  | .str z, .int n => if 0 ≤ n ∧ n ≤ 100 ∧ z.length ≤ 1000 then .ok (.str (Txt.mul z n)) M else .bad
  | _, _ => .bad
def rMulS : R2 := fun x y H Q => ∃ z n, x = .str z ∧ y = .int n ∧ MulOk z n ∧ Q (.str (Txt.mul z n)) H
theorem op_mulS {X : Cx} : OpR X (binaryOp .Mult) rMulS := by
  intro pins s σ H x y v u Q I rx ry h
  obtain ⟨z, n, rfl, rfl, hz, q⟩ := h
  obtain ⟨t, rfl⟩ := rx
  obtain ⟨t2, rfl⟩ := ry
  exact SB.mul hz fun t' k => ⟨.str _, H, I.tok _, ⟨_, rfl⟩, q⟩
theorem mulOk_of {z : Str} {n : Int} (h0 : 0 ≤ n) (h1 : n ≤ 100) (h2 : z.length ≤ 1000) : MulOk z n := by
  refine ⟨?_, fun h3 _ => ?_, fun h3 _ => ?_⟩
  · rw [decide_eq_false (by omega), decide_eq_false (by omega)]; rfl
  · have h4 : (100 : Int) ≤ (2 ^ 63 - 1) / 100 := by decide
    have h5 : (2 ^ 63 - 1 : Int) / 100 ≤ (2 ^ 63 - 1) / n := Int.le_ediv_of_mul_le (by omega) (by
      have : (2 ^ 63 - 1 : Int) / 100 * n ≤ (2 ^ 63 - 1 : Int) / 100 * 100 := Int.mul_le_mul_of_nonneg_left h1 (by decide)
      have h6 : (2 ^ 63 - 1 : Int) / 100 * 100 ≤ 2 ^ 63 - 1 := by decide
      omega)
    have h7 : (1000 : Int) ≤ (2 ^ 63 - 1) / 100 := by decide
    omega
  · unfold Builtin.Str.tooLong
    rw [sizeLine_eq]
    refine decide_eq_false ?_
    have : z.length * n.toNat ≤ 1000 * 100 := Nat.mul_le_mul h2 (by omega)
    omega
theorem r2_mulS {c : Cn} : R2s c fMulS rMulS := by
  intro W σ G H M x y dx dy Q r qx qy p
  unfold fMulS at p
  split at p
  · split at p
    · rename_i z n hz
      exact ⟨z, n, qx, qy, mulOk_of hz.1 hz.2.1 hz.2.2, p G _ H (Gr.refl _) r rfl⟩
    · exact p.elim
  · exact p.elim
section
variable {X : Cx} {W : WX} {p p2 pos : Pos} {a b : Expr} {fa fb : EF} {lo hi : Option Expr}
theorem qmulS (ha : QE X W a fa) (hb : QE X W b fb) : QE X W (.BinOp a .Mult b pos) (e2 fMulS fa fb) := q_op op_mulS r2_mulS ha hb
/-- a list's slice, at a place of its own -/
def fSlP (d : D) (lo hi : Option Int) (M : Mem) : Res D := match asL M d with
  | some ds => .ok (.ptr M.length) (M ++ [.lst (cutD ds lo hi)])
  | none => .bad
def eSlP (e : EF) (l h : OF) : EF := fun S M => (e S M).bind fun d M1 => (l S M1).bind fun lo M2 => (h S M2).bind fun hi M3 => fSlP d lo hi M3
theorem qslP {fl fh : OF} (he : QE X W a fa) (hl : QO X W lo fl) (hu : QO X W hi fh) : QE X W (.Subscript a (.Slice lo hi none p2) pos) (eSlP fa fl fh) :=
  PE.imp (pe_slice sl_list he hl hu) fun σ H Q h => by
  refine Up.imp (Up.bind h) fun v H1 ⟨G, S, d, M, r1, s, q, p⟩ => ?_
  refine ⟨G, S, M, r1, s, (Post.bind (rel := relO) p).imp fun l H2 ⟨G2, l2, M2, g2, r2, e2, p2⟩ => ?_⟩
  refine ⟨G2, S, M2, r2, s.mono g2, (Post.bind (rel := relO) p2).imp fun u H3 ⟨G3, u3, M3, g3, r3, e3, p3⟩ => ?_⟩
  cases e2
  cases e3
  have q3 := (q.mono g2).mono g3
  unfold fSlP at p3
  split at p3
  · rename_i ds hds
    obtain ⟨a, vs, rfl, s, t⟩ := asL_at r3 q3 hds
    refine ⟨a, vs, rfl, s, fun p' hp => ?_⟩
    have g := Gr.newP (G := G3) p'
    refine p3 _ _ _ g (r3.newP hp (mo := .lst (cutD ds l u)) ⟨cutV vs l u, upd_same, (t.cut l u).mono g⟩) ⟨p', ?_, rfl⟩
    show (G3.θ ++ [p'])[M3.length]? = some p'
    rw [List.getElem?_append_right (by rw [r3.len]; exact Nat.le_refl _), r3.len, Nat.sub_self]
    rfl
  · exact p3.elim
end
/-! ### len(o), o an object with an own __len__ -/
theorem RoomG.in1 {n : Nat} {B : Around} (r : RoomG (n + 1) B) : RoomG n B.in1 := ⟨r.toRoom.in1, r.gd⟩
def eLenO (cl : Str) (g : List D → Mem → Res D) (e : EF) : EF := fun S M => (e S M).bind fun d M1 => match isObj cl d M1 with
  | some _ => match g [d] M1 with
    | .ok (.int n) M2 => if 0 ≤ n ∧ n < 2 ^ 63 then .ok (.int n) M2 else .bad
    | _ => .bad
  | none => .bad
section
variable {X : Cx} {W : WX} {p pos : Pos} {e : Expr} {fe : EF} {k : Nat} {ps : List Str} {g : List D → Mem → Res D} {cl : Str} {C f : Addr} {fd : FuncData}
/-- what len answers of an own __len__'s int -/
theorem len_ans {prog : Program} {w : World} {A : Around} {E : Value → Shared → Prop} {s : Shared} {K : PySem.W.Frag} {x : Addr} {ox : Obj} {od : Option Obj} {Q : Value → Shared → Prop} (X : K.In s.heap) (I : PySem.W.InstAt s.heap x ox C od)
    (hs : PySem.W.findIn K (.ref C) "__len__" = some (some (.ref f))) (hf : PySem.W.isFn K (.ref f) = true)
    (h : wpAny (model prog w) A.in1 (call (.ref f) [.ref x]) (fun r s1 => ∃ n u, r = Value.int n u ∧ (0 ≤ n ∧ n < 2 ^ 63) ∧ Q (.int n s1.toks) { s1 with toks := s1.toks + 1 }) E s) : wpAny (model prog w) A (call (.builtin "len") [.ref x]) Q E s := by
  refine Calls.call_function_entry kind_len plain_len entry_len (args_len1 _) ?_
  unfold Builtin.«len»
  refine wpAny_bind (m := oneArg "len" _) (wpAny_pure ?_)
  refine wpAny_bind (m := callSpecial? (.ref x) (Str.ofString "__len__")) (PySem.W.special_fn X I hs (beq_iff_eq.mp hf) (wpAny_mono h (fun r s1 hr => ?_) fun _ _ y => y))
  obtain ⟨n, u, rfl, ⟨h0, h1⟩, hq⟩ := hr
  refine wpAny_bind (wpAny_holding (wpAny_pure ?_))
  refine wpAny_bind (wpAny_letGo ?_)
  refine wpAny_ite_false (decide_eq_false (by omega)) ?_
  refine wpAny_ite_false (decide_eq_false (by omega)) ?_
  exact wpAny_bind (wpAny_mkInt (wpAny_pure ⟨_, rfl, hq⟩))
theorem call_lenO (ok : FnOkG X.prog X.w X.K X.mg X.base k f fd ps (spF (cn X) g)) (hm : Meth X.K C "__len__" f) (b : Binds X.K fd ps []) (hr : RoomG (k + 1) X.A) :
    CallR X (.builtin "len") (fun xs H Q => ∃ a dx ws, xs = [.ref a] ∧ H a = some (.ins C dx ws) ∧ spF (cn X) g [.ref a] H (fun v H1 => ∃ n, v = .int n ∧ (0 ≤ n ∧ n < 2 ^ 63) ∧ Q (.int n) H1) (fun _ _ _ => False)) := by
  intro pins s σ H xs us Q I r h
  obtain ⟨a, dx, ws, rfl, e, h⟩ := h
  rw [Vals.ref1 r]
  obtain ⟨mA, O, _⟩ := ins_get I.hok e
  obtain ⟨od, J, _⟩ := O.look
  refine len_ans I.kIn J hm.at_ hm.fn ?_
  have r1 : Vals [V.ref a] [Value.ref a] := .cons rfl .nil
  have bind0 := b s [.ref a] I.kIn (by rw [List.append_nil, ← r1.length]; exact ok.len _ _ _ _ h)
  rw [List.append_nil] at bind0
  have e0 : Env0 X.prog X.w X.K X.mg X.base X.A.in1 X.stack s H := ⟨I.env0.frames, I.env0.mod, I.env0.bs, I.env0.bsz, I.env0.funs, I.env0.frf, I.env0.hok, I.env0.bare⟩
  refine wpAny_call (codeAny_mono (ok.run X.A.in1 X.stack s H ⟨[.ref a], []⟩ [.ref a] [.ref a] _ _ hr.in1 e0 bind0 r1 h) fun res s1 z => ?_)
  match res, z with
  | .error err, z =>
    obtain ⟨_, _, _, _, _, _, _, _, _, _, _, _, hE⟩ := z
    exact hE.elim
  | .ok (.ret u), z =>
    obtain ⟨v, H1, I1, rv, n, rfl, hn, q⟩ := I.after z
    obtain ⟨t, rfl⟩ := rv
    exact ⟨n, t, rfl, hn, .int n, H1, I1.tok _, ⟨_, rfl⟩, q⟩
  | .ok .next, z => exact (show False from z).elim
  | .ok .brk, z => exact (show False from z).elim
  | .ok .cont, z => exact (show False from z).elim
theorem qlenO (F : HasM X.prog X.w X.K X.mg X.base k cl "__len__" ps g) (hC : X.mg cl = some (.ref C)) (hr : RoomG (k + 1) X.A) (hg : Gl X "len") (hm : X.mg "len" = none) (ho : QE X W e fe)
    (he : starEach [e] X.env = (false, eval e X.env) :: starEach [] X.env := by rfl) (hpl : (backTo pos (starEach [] X.env)).any (·.1) = false := by rfl) :
    QE X W (.Call (.Name "len" p) [e] [] pos) (eLenO cl g fe) := by
  obtain ⟨C1, f, fd, m1, hme, b, ok⟩ := F
  have eC : C1 = C := by
    rw [hC] at m1
    cases m1
    rfl
  subst eC
  refine PE.imp (pe_callB (call_lenO ok hme b hr) hg hm PySem.boot_len (pa_cons ho pa_nil he) (by decide) (by decide) he hpl) fun σ H Q h => ?_
  refine Up.imp (Up.bind h) fun v H1 ⟨G, S, d, M, r, s, q, p⟩ => ?_
  split at p
  · rename_i fs hfs
    obtain ⟨a, dx, ws, rfl, e1, e2⟩ := isObj_at r hC hfs q
    split at p
    · rename_i n M2 hgd
      split at p
      · rename_i hn
        refine ⟨a, dx, ws, rfl, e1, G, [d], M, r, DVs.one q, ?_⟩
        rw [hgd]
        exact fun G2 v2 H2 g2 r2 q2 => ⟨n, q2, hn, (show v2 = V.int n from q2) ▸ p G2 v2 H2 g2 r2 q2⟩
      · exact p.elim
    · exact p.elim
  · exact p.elim
end
end QL
end
section
set_option Elab.async false
set_option linter.all false
set_option maxRecDepth 100000
set_option maxHeartbeats 1000000
set_option autoImplicit false
/-! QFz: from here on the list that a name holds is taken as one that will not change any more. -/
namespace QL
open PySem PySem.Spec L2
open Classical
def kFz (i : Nat) (t : TF) : TF := fun S M => match S[i]? with
  | some (some (.ptr k)) => match M[k]? with
    | some (.lst ds) => t (S.set i (some (.lst ds))) (M.set k .gone)
    | _ => t S M
  | _ => t S M
theorem set_id {α : Type} {l : List α} {i : Nat} {x : α} (h : l[i]? = some x) : l.set i x = l := by
  refine List.ext_getElem? fun j => ?_
  by_cases z : i = j
  · subst z
    rw [List.getElem?_set_self (List.getElem?_eq_some_iff.mp h).1, h]
  · rw [List.getElem?_set_ne z]
theorem qfz {X : Cx} {W : WX} {st : Stmt} {t : TF} {i : Nat} (h : QS X W st t) : QS X W st (kFz i t) := PS.imp h fun D σ H h => by
  obtain ⟨G, S, M, r, s, p⟩ := h
  unfold kFz at p
  split at p
  · rename_i k hS
    split at p
    · rename_i ds ek
      obtain ⟨v, ev, a, e1, rfl⟩ := s.2 i _ hS
      obtain ⟨vs, hu, q⟩ := r.mem k _ a ek e1
      obtain ⟨g, r'⟩ := r.freeze ek e1 rfl hu
      have s2 := (s.mono g).set (i := i) (d := .lst ds) (v := .ref a) ⟨a, vs, rfl, .inl (.inl upd_same), q.mono g⟩
      rw [set_id ev] at s2
      exact ⟨_, _, _, r', s2, PostS.mono g p⟩
    · exact ⟨G, S, M, r, s, p⟩
  · exact ⟨G, S, M, r, s, p⟩
end QL
end
section
set_option Elab.async false
set_option linter.all false
set_option maxRecDepth 100000
set_option maxHeartbeats 4000000
set_option autoImplicit false
namespace QL
open PySem PySem.Spec L2
open Classical
def topQ (i : Nat) : Stmt := PySem.Challenge.pw_eitherpays_k13_purses_refused.main.body.getD i (.Pass ⟨0, 0, 0, 0⟩)
abbrev s__law_hand : Stmt := topQ 26
abbrev s__law_step : Stmt := topQ 27
abbrev s__law_take : Stmt := topQ 28
abbrev s__law_draw : Stmt := topQ 29
abbrev s__law_names : Stmt := topQ 32
abbrev s__law_word : Stmt := topQ 33
abbrev s__law_is_item : Stmt := topQ 34
abbrev s_Purses___len__ : Stmt := inClass (topQ 20) 8
abbrev s_is_name : Stmt := topQ 14
abbrev s_is_integer : Stmt := topQ 13
abbrev s_is_amount : Stmt := topQ 15
abbrev s_Purses___init__ : Stmt := inClass (topQ 20) 0
abbrev s__law_told : Stmt := topQ 36
abbrev s__law_odd : Stmt := topQ 37
abbrev s__law_alike : Stmt := topQ 31
abbrev s_pair_of : Stmt := topQ 23
abbrev s_is_count : Stmt := topQ 16
abbrev s_is_run : Stmt := topQ 17
abbrev s_Lot___init__ : Stmt := inClass (topQ 24) 0
abbrev s__law_shuffled : Stmt := topQ 30
abbrev s__law_great_things : Stmt := topQ 38
abbrev s__law_due : Stmt := topQ 35
abbrev s_law : Stmt := topQ 39
abbrev RAISED : List Str := ["Wrong", "BadItem"]
abbrev TESTED : List Str := ["Known", "TooMany", "Wrong", "BadItem"]
abbrev FIELDS : List Str := ["place", "at"]
abbrev ISO : List Str := ["Purses", "Lot"]
abbrev ISOT : List String := ["bool", "int", "str", "tuple", "list"]
structure Tx (K : PySem.W.Frag) (mg : Str → Option Value) : Prop where
  b_abs : mg "abs" = none
  b_all : mg "all" = none
  b_bool : mg "bool" = none
  b_dict : mg "dict" = none
  b_enumerate : mg "enumerate" = none
  b_int : mg "int" = none
  b_isinstance : mg "isinstance" = none
  b_len : mg "len" = none
  b_list : mg "list" = none
  b_max : mg "max" = none
  b_min : mg "min" = none
  b_range : mg "range" = none
  b_repr : mg "repr" = none
  b_str : mg "str" = none
  b_tuple : mg "tuple" = none
  c_LETTERS : ∃ t, mg "LETTERS" = some (.str "abcdefghijklmnopqrstuvwxyz" t)
  c_LONGEST_NAME : ∃ t, mg "LONGEST_NAME" = some (.int 8 t)
  c_MOST_ITEMS : ∃ t, mg "MOST_ITEMS" = some (.int 500 t)
  c_MOST_PLAYERS : ∃ t, mg "MOST_PLAYERS" = some (.int 24 t)
  c_MOST_TICKETS : ∃ t, mg "MOST_TICKETS" = some (.int 1000000000000000000000000000000 t)
  c_MOST_TIMES : ∃ t, mg "MOST_TIMES" = some (.int 1000000000000000000000000 t)
  m_Wrong : mg "Wrong" = some (.ref (adr mg "Wrong"))
  m_BadItem : mg "BadItem" = some (.ref (adr mg "BadItem"))
  m_Known : mg "Known" = some (.ref (adr mg "Known"))
  m_TooMany : mg "TooMany" = some (.ref (adr mg "TooMany"))
  m_Purses : mg "Purses" = some (.ref (adr mg "Purses"))
  m_Lot : mg "Lot" = some (.ref (adr mg "Lot"))
  m_ClubError : mg "ClubError" = some (.ref (adr mg "ClubError"))
  k_Purses : Cls K (adr mg "Purses")
  k_Lot : Cls K (adr mg "Lot")
  iso : IsoC K mg ISO ISOT
  n_Lot_table : NoAttr K (adr mg "Lot") "table"
  n_Purses_table : NoAttr K (adr mg "Purses") "table"
  e_Wrong : ∀ (P : Program) (w : World) (base : Heap), ErC P w K mg base "Wrong" ["place"]
  e_BadItem : ∀ (P : Program) (w : World) (base : Heap), ErC P w K mg base "BadItem" ["at"]
  ec : ∀ n ∈ RAISED, PySem.W.EcD K (adr mg n)
  nf : ∀ n ∈ RAISED, ∀ f ∈ FIELDS, PySem.W.findIn K (.ref (adr mg n)) f = some none
  kit : ∀ n ∈ RAISED, ∀ t ∈ TESTED, PySem.W.kitOne K (.ref (adr mg n)) (.ref (adr mg t)) = some (subE n t)
  ex : ∀ n ∈ RAISED, PySem.W.exmOne K (.ref (adr mg n)) (.ref (adr mg "ClubError")) = some true
  r__law_hand : Raw K mg "_law_hand" s__law_hand ["_law_script"]
  r__law_step : Raw K mg "_law_step" s__law_step ["_law_hand_here"]
  r__law_take : Raw K mg "_law_take" s__law_take ["_law_hand_here"]
  r__law_draw : Raw K mg "_law_draw" s__law_draw ["_law_hand_here", "_law_tally"]
  r__law_names : Raw K mg "_law_names" s__law_names ["_law_hand_here", "_law_many"]
  r__law_word : Raw K mg "_law_word" s__law_word ["_law_thing"]
  r__law_is_item : Raw K mg "_law_is_item" s__law_is_item ["_law_thing"]
  r_Purses___len__ : RawM K mg "Purses" "__len__" "Purses.__len__" s_Purses___len__ ["self"]
  r_is_name : Raw K mg "is_name" s_is_name ["thing"]
  r_is_integer : Raw K mg "is_integer" s_is_integer ["thing"]
  r_is_amount : Raw K mg "is_amount" s_is_amount ["thing"]
  r_Purses___init__ : RawC K mg "Purses" "Purses.__init__" s_Purses___init__ ["self", "items"]
  r__law_told : Raw K mg "_law_told" s__law_told ["_law_thing"]
  r__law_odd : Raw K mg "_law_odd" s__law_odd ["_law_hand_here", "_law_item", "_law_names_here"]
  r__law_alike : Raw K mg "_law_alike" s__law_alike ["_law_found", "_law_due_here"]
  r_pair_of : Raw K mg "pair_of" s_pair_of ["one", "other"]
  r_is_count : Raw K mg "is_count" s_is_count ["thing"]
  r_is_run : Raw K mg "is_run" s_is_run ["thing"]
  r_Lot___init__ : RawC K mg "Lot" "Lot.__init__" s_Lot___init__ ["self", "items"]
  r__law_shuffled : Raw K mg "_law_shuffled" s__law_shuffled ["_law_hand_here", "_law_some"]
  r__law_great_things : Raw K mg "_law_great_things" s__law_great_things []
  r__law_due : Raw K mg "_law_due" s__law_due ["_law_thing"]
  r_law : Raw K mg "law" s_law ["_law_script"]
/-! _law_hand -/
def N__law_hand : List Str := ["_law_script"]
theorem sc__law_hand : FnScope N__law_hand ["_law_script"] (defScope s__law_hand) := ⟨rfl, rfl, rfl, by decide +kernel, rfl, by decide +kernel, by decide +kernel⟩
noncomputable def t__law_hand : TF := (kRet (eLstP (aCons (eCall bList (aCons (eSl (eVar 0) oNone (oSome (eC (.int 63)))) aNil)) (aCons (eC (.int 0)) (aCons (eC (.int 0)) (aCons (eC (.int 0)) (aCons (eC (.int 20011)) (aCons (eC (.int 40009)) aNil))))))))
noncomputable def g__law_hand : List D → Mem → Res D := runF 1 0 t__law_hand
theorem q__law_hand {P : Program} {w : World} {K : PySem.W.Frag} {mg : Str → Option Value} {base : Heap} (T : Tx K mg) : Has P w K mg base 1 "_law_hand" ["_law_script"] g__law_hand :=
  T.r__law_hand.has sc__law_hand rfl fun f cdv A outer s H E hr => (qs_one (qret (qlstP (qa_cons (qlist (by rfl) T.b_list (qa_cons (qsl (qv 0) qo_none (qo_some qint)) qa_nil)) (qa_cons qint (qa_cons qint (qa_cons qint (qa_cons qint (qa_cons qint qa_nil)))))))))
/-! _law_step -/
def N__law_step : List Str := ["_law_hand_here"]
theorem sc__law_step : FnScope N__law_step ["_law_hand_here"] (defScope s__law_step) := ⟨rfl, rfl, rfl, by decide +kernel, rfl, by decide +kernel, by decide +kernel⟩
noncomputable def t__law_step : TF := (kSeq (kAsg (e2 fMod (e2 fMul (e2 fIxA (eVar 0) (eC (.int 4))) (eC (.int 48271))) (eC (.int 2147483647))) (gSubL (eVar 0) (eC (.int 4))))
    (kSeq (kAsg (e2 fMod (e2 fMul (e2 fIxA (eVar 0) (eC (.int 5))) (eC (.int 40692))) (eC (.int 2147483399))) (gSubL (eVar 0) (eC (.int 5))))
    (kRet (e2 fAdd (e2 fIxA (eVar 0) (eC (.int 4))) (e2 fIxA (eVar 0) (eC (.int 5)))))))
noncomputable def g__law_step : List D → Mem → Res D := runF 1 0 t__law_step
theorem q__law_step {P : Program} {w : World} {K : PySem.W.Frag} {mg : Str → Option Value} {base : Heap} (T : Tx K mg) : Has P w K mg base 1 "_law_step" ["_law_hand_here"] g__law_step :=
  T.r__law_step.has sc__law_step rfl fun f cdv A outer s H E hr => (qs_cons (qasg (qmod (qmul (qixA hr.units (qv 0) qint) qint) qint) (qg_subL (qv 0) qint))
    (qs_cons (qasg (qmod (qmul (qixA hr.units (qv 0) qint) qint) qint) (qg_subL (qv 0) qint))
    (qs_one (qret (qadd (qixA hr.units (qv 0) qint) (qixA hr.units (qv 0) qint))))))
/-! _law_take -/
def N__law_take : List Str := ["_law_hand_here", "_law_cell"]
theorem sc__law_take : FnScope N__law_take ["_law_hand_here"] (defScope s__law_take) := ⟨rfl, rfl, rfl, by decide +kernel, rfl, by decide +kernel, by decide +kernel⟩
noncomputable def t__law_take_1 : TF := (kIf (bV (e2 fLt (e2 fIxA (eVar 0) (eC (.int 1))) (eCall bLenA (aCons (e2 fIxA (eVar 0) (eC (.int 0))) aNil))))
    (kAsg (eCall bAbs (aCons (e2 fIxA (e2 fIxA (eVar 0) (eC (.int 0))) (e2 fIxA (eVar 0) (eC (.int 1)))) aNil)) (gN 1))
    kNil)
noncomputable def t__law_take_2 : TF := (kIf (bV (e2 fGe (eVar 1) (e2 fPow (eC (.int 10)) (eC (.int 18)))))
    (kAsg (eVar 1) (gSubL (eVar 0) (eC (.int 2))))
    (kAsg (eC (.int 7)) (gSubL (eVar 0) (eC (.int 3)))))
noncomputable def t__law_take : TF := (kSeq (kAsg (eC (.int 0)) (gN 1))
    (kSeq t__law_take_1
    (kSeq (kLAug (eVar 0) (eC (.int 1)) (eC (.int 1)) (fun i j => i + j))
    (kSeq t__law_take_2
    (kSeq (kAsg (e2 fAdd (e2 fMod (e2 fAdd (e2 fIxA (eVar 0) (eC (.int 4))) (e2 fMod (eVar 1) (eC (.int 2147483587)))) (eC (.int 2147483646))) (eC (.int 1))) (gSubL (eVar 0) (eC (.int 4))))
    (kSeq (kAsg (e2 fAdd (e2 fMod (e2 fAdd (e2 fMul (e2 fIxA (eVar 0) (eC (.int 5))) (eC (.int 3))) (e2 fMod (eVar 1) (eC (.int 1000003)))) (eC (.int 2147483398))) (eC (.int 1))) (gSubL (eVar 0) (eC (.int 5))))
    (kSeq (kDrop (eCall g__law_step (aCons (eVar 0) aNil)))
    (kDrop (eCall g__law_step (aCons (eVar 0) aNil))))))))))
noncomputable def g__law_take : List D → Mem → Res D := runF 1 1 t__law_take
theorem q__law_take {P : Program} {w : World} {K : PySem.W.Frag} {mg : Str → Option Value} {base : Heap} (T : Tx K mg) : Has P w K mg base 2 "_law_take" ["_law_hand_here"] g__law_take :=
  T.r__law_take.has sc__law_take rfl fun f cdv A outer s H E hr => (qs_cons (qset (i := 1) sc__law_take.nd rfl qint)
    (qs_cons (qif (tLt' (qixA hr.units (qv 0) qint) (qlenA (by rfl) T.b_len (qa_cons (qixA hr.units (qv 0) qint) qa_nil))) (qs_one (qset (i := 1) sc__law_take.nd rfl (qabs (by rfl) T.b_abs (qa_cons (qixA hr.units (qixA hr.units (qv 0) qint) (qixA hr.units (qv 0) qint)) qa_nil)))) qs_nil)
    (qs_cons (qlaug (qv 0) qint qint ip_add)
    (qs_cons (qif (tGe' (qv 1) (qpow qint qint)) (qs_one (qasg (qv 1) (qg_subL (qv 0) qint))) (qs_one (qasg qint (qg_subL (qv 0) qint))))
    (qs_cons (qasg (qadd (qmod (qadd (qixA hr.units (qv 0) qint) (qmod (qv 1) qint)) qint) qint) (qg_subL (qv 0) qint))
    (qs_cons (qasg (qadd (qmod (qadd (qmul (qixA hr.units (qv 0) qint) qint) (qmod (qv 1) qint)) qint) qint) (qg_subL (qv 0) qint))
    (qs_cons (qexpr (qcall (q__law_step T) (hr.mono (by decide)) takesQ (by rfl) (qa_cons (qv 0) qa_nil)))
    (qs_one (qexpr (qcall (q__law_step T) (hr.mono (by decide)) takesQ (by rfl) (qa_cons (qv 0) qa_nil)))))))))))
/-! _law_draw -/
def N__law_draw : List Str := ["_law_hand_here", "_law_tally", "_law_got", "_law_value", "_law_size"]
theorem sc__law_draw : FnScope N__law_draw ["_law_hand_here", "_law_tally"] (defScope s__law_draw) := ⟨rfl, rfl, rfl, by decide +kernel, rfl, by decide +kernel, by decide +kernel⟩
noncomputable def t__law_draw_1 : TF := (kIf (bAnd (bV (e2 fEqA (e2 fIxA (eVar 0) (eC (.int 2))) (eC (.int 0)))) (bV (e2 fEqA (e2 fIxA (eVar 0) (eC (.int 3))) (eC (.int 0)))))
    (kDrop (eCall g__law_take (aCons (eVar 0) aNil)))
    kNil)
noncomputable def t__law_draw_2 : TF := (kIf (bV (e2 fGt (e2 fIxA (eVar 0) (eC (.int 2))) (eC (.int 0))))
    (kSeq (kAsg (e2 fMod (e2 fIxA (eVar 0) (eC (.int 2))) (eVar 1)) (gN 2))
    (kSeq (kAsg (e2 fDiv (e2 fIxA (eVar 0) (eC (.int 2))) (eVar 1)) (gSubL (eVar 0) (eC (.int 2))))
    (kRet (eVar 2))))
    kNil)
noncomputable def b__law_draw_3 : TF := (kSeq (kAsg (e2 fAdd (e2 fMul (eVar 3) (eC (.int 4294967296))) (eCall g__law_step (aCons (eVar 0) aNil))) (gN 3))
    (kAsg (e2 fMul (eVar 4) (eC (.int 4294967296))) (gN 4)))
noncomputable def t__law_draw_4 : TF := (kWhile (bV (e2 fLt (eVar 4) (eVar 1))) b__law_draw_3 [])
noncomputable def t__law_draw : TF := (kSeq t__law_draw_1
    (kSeq t__law_draw_2
    (kSeq (kLAug (eVar 0) (eC (.int 3)) (eC (.int 1)) (fun i j => i - j))
    (kSeq (kAsg (eCall g__law_step (aCons (eVar 0) aNil)) (gN 3))
    (kSeq (kAsg (eC (.int 4294967296)) (gN 4))
    (kSeq t__law_draw_4
    (kRet (e2 fMod (eVar 3) (eVar 1)))))))))
noncomputable def g__law_draw : List D → Mem → Res D := runF 2 3 t__law_draw
theorem q__law_draw {P : Program} {w : World} {K : PySem.W.Frag} {mg : Str → Option Value} {base : Heap} (T : Tx K mg) : Has P w K mg base 3 "_law_draw" ["_law_hand_here", "_law_tally"] g__law_draw :=
  T.r__law_draw.has sc__law_draw rfl fun f cdv A outer s H E hr => (qs_cons (qif (qt_w (qw_and (tEqA hr.units (qixA hr.units (qv 0) qint) qint) (qw_and1 (tEqA hr.units (qixA hr.units (qv 0) qint) qint)))) (qs_one (qexpr (qcall (q__law_take T) (hr.mono (by decide)) takesQ (by rfl) (qa_cons (qv 0) qa_nil)))) qs_nil)
    (qs_cons (qif (tGt' (qixA hr.units (qv 0) qint) qint) (qs_cons (qset (i := 2) sc__law_draw.nd rfl (qmod (qixA hr.units (qv 0) qint) (qv 1)))
    (qs_cons (qasg (qdiv (qixA hr.units (qv 0) qint) (qv 1)) (qg_subL (qv 0) qint))
    (qs_one (qret (qv 2))))) qs_nil)
    (qs_cons (qlaug (qv 0) qint qint ip_sub)
    (qs_cons (qset (i := 3) sc__law_draw.nd rfl (qcall (q__law_step T) (hr.mono (by decide)) takesQ (by rfl) (qa_cons (qv 0) qa_nil)))
    (qs_cons (qset (i := 4) sc__law_draw.nd rfl qint)
    (qs_cons (qwhile (vs := []) passesQ (tLt' (qv 4) (qv 1)) (qs_cons (qset (i := 3) sc__law_draw.nd rfl (qadd (qmul (qv 3) qint) (qcall (q__law_step T) (hr.mono (by decide)) takesQ (by rfl) (qa_cons (qv 0) qa_nil))))
    (qs_one (qset (i := 4) sc__law_draw.nd rfl (qmul (qv 4) qint)))))
    (qs_one (qret (qmod (qv 3) (qv 1))))))))))
/-! _law_names -/
def N__law_names : List Str := ["_law_hand_here", "_law_many", "_law_letters", "_law_words", "_law_way", "_law_turn", "_law_base", "_law_at", "_law_k"]
theorem sc__law_names : FnScope N__law_names ["_law_hand_here", "_law_many"] (defScope s__law_names) := ⟨rfl, rfl, rfl, by decide +kernel, rfl, by decide +kernel, by decide +kernel⟩
noncomputable def e__law_names_1 : EF := (eLc (iRange1 (aCons (e2 fAdd (eC (.int 1)) (eCall g__law_draw (aCons (eVar 0) (aCons (eC (.int 7)) aNil)))) aNil)) (gN 8) bYes (e2 fIxA (eVar 2) (eCall g__law_draw (aCons (eVar 0) (aCons (eC (.int 26)) aNil)))) [8])
noncomputable def t__law_names_2 : TF := (kIf (bV (e2 fEqA (eVar 4) (eC (.int 0))))
    (kRet (eSl (e2 fAdd (eSl (eVar 3) (oSome (eVar 5)) oNone) (eSl (eVar 3) oNone (oSome (eVar 5)))) oNone (oSome (eVar 1))))
    kNil)
noncomputable def e__law_names_3 : EF := (eLc (iRange1 (aCons (eVar 1) aNil)) (gN 8) bYes (e2 fIxA (eVar 2) (e2 fMod (e2 fAdd (eVar 5) (e2 fMul (eC (.int 3)) (eVar 8))) (eC (.int 26)))) [8])
noncomputable def t__law_names_4 : TF := (kIf (bV (e2 fEqA (eVar 4) (eC (.int 1))))
    (kRet e__law_names_3)
    kNil)
noncomputable def e__law_names_5 : EF := (eLc (iRange1 (aCons (eVar 1) aNil)) (gN 8) bYes (e2 fAdd (e2 fAdd (eSl (eVar 6) oNone (oSome (eVar 7))) (e2 fIxA (eVar 2) (e2 fMod (e2 fAdd (eVar 5) (e2 fMul (eC (.int 3)) (eVar 8))) (eC (.int 26))))) (eSl (eVar 6) (oSome (eVar 7)) oNone)) [8])
noncomputable def t__law_names : TF := (kSeq (kAsg (eC (.str "abcdefghijklmnopqrstuvwxyz")) (gN 2))
    (kSeq (kAsg (eC (.str "join give wish withdraw meet undo redo purses lot choices plan room left could yes no ok")) (gN 3))
    (kSeq (kAsg (eSplit (e2 fAdd (eVar 3) (eC (.str " a b ab ba aa z zz"))) (eC (.str " "))) (gN 3))
    (kSeq (kAsg (eTup (aCons (eCall g__law_draw (aCons (eVar 0) (aCons (eC (.int 4)) aNil))) (aCons (eCall g__law_draw (aCons (eVar 0) (aCons (eC (.int 24)) aNil))) aNil))) (gTupF 2 (gConsF (gN 4) (gConsF (gN 5) gNilF))))
    (kSeq (kAsg (eJoin (eC (.str "")) e__law_names_1) (gN 6))
    (kSeq (kAsg (eCall g__law_draw (aCons (eVar 0) (aCons (e2 fAdd (eCall bLenA (aCons (eVar 6) aNil)) (eC (.int 1))) aNil))) (gN 7))
    (kSeq t__law_names_2
    (kSeq t__law_names_4
    (kRet e__law_names_5)))))))))
noncomputable def g__law_names : List D → Mem → Res D := runF 2 7 t__law_names
theorem q__law_names {P : Program} {w : World} {K : PySem.W.Frag} {mg : Str → Option Value} {base : Heap} (T : Tx K mg) : Has P w K mg base 4 "_law_names" ["_law_hand_here", "_law_many"] g__law_names :=
  T.r__law_names.has sc__law_names rfl fun f cdv A outer s H E hr => (qs_cons (qset (i := 2) sc__law_names.nd rfl qstr)
    (qs_cons (qset (i := 3) sc__law_names.nd rfl qstr)
    (qs_cons (qset (i := 3) sc__law_names.nd rfl (qsplit (qadd (qv 3) qstr) qstr))
    (qs_cons (qasg (qtup (qa_cons (qcall (q__law_draw T) (hr.mono (by decide)) takesQ (by rfl) (qa_cons (qv 0) (qa_cons qint qa_nil))) (qa_cons (qcall (q__law_draw T) (hr.mono (by decide)) takesQ (by rfl) (qa_cons (qv 0) (qa_cons qint qa_nil))) qa_nil))) (qg_tup rfl (qgs_cons (qg_name (i := 4) sc__law_names.nd rfl) (qgs_cons (qg_name (i := 5) sc__law_names.nd rfl) qgs_nil))))
    (qs_cons (qset (i := 6) sc__law_names.nd rfl (qjoin qstr (qlc (own := [("_law_k", 8)]) rfl sc__law_names.nd (qi_range1 (by rfl) T.b_range (qa_cons (qadd qint (qcall (q__law_draw T) (hr.mono (by decide)) takesQ (by rfl) (qa_cons (qv 0) (qa_cons qint qa_nil)))) qa_nil)) (blkOk_by (own := [("_law_k", 8)]) (N := N__law_names) (sc := defScope s__law_names) (by decide +kernel)) (fun _ _ _ _ _ => (qv_name (i := 8) sc__law_names.nd rfl (by decide))) (fun _ _ _ _ _ => qts_nil) (fun _ _ _ _ _ => (qixA hr.units (qv 2) (qcall (q__law_draw T) (hr.mono (by decide)) takesB (by rfl) (qa_cons (qv 0) (qa_cons qint qa_nil))))))))
    (qs_cons (qset (i := 7) sc__law_names.nd rfl (qcall (q__law_draw T) (hr.mono (by decide)) takesQ (by rfl) (qa_cons (qv 0) (qa_cons (qadd (qlenA (by rfl) T.b_len (qa_cons (qv 6) qa_nil)) qint) qa_nil))))
    (qs_cons (qif (tEqA hr.units (qv 4) qint) (qs_one (qret (qsl (qadd (qsl (qv 3) (qo_some (qv 5)) qo_none) (qsl (qv 3) qo_none (qo_some (qv 5)))) qo_none (qo_some (qv 1))))) qs_nil)
    (qs_cons (qif (tEqA hr.units (qv 4) qint) (qs_one (qret (qlc (own := [("_law_k", 8)]) rfl sc__law_names.nd (qi_range1 (by rfl) T.b_range (qa_cons (qv 1) qa_nil)) (blkOk_by (own := [("_law_k", 8)]) (N := N__law_names) (sc := defScope s__law_names) (by decide +kernel)) (fun _ _ _ _ _ => (qv_name (i := 8) sc__law_names.nd rfl (by decide))) (fun _ _ _ _ _ => qts_nil) (fun _ _ _ _ _ => (qixA hr.units (qv 2) (qmod (qadd (qv 5) (qmul qint (qv 8))) qint)))))) qs_nil)
    (qs_one (qret (qlc (own := [("_law_k", 8)]) rfl sc__law_names.nd (qi_range1 (by rfl) T.b_range (qa_cons (qv 1) qa_nil)) (blkOk_by (own := [("_law_k", 8)]) (N := N__law_names) (sc := defScope s__law_names) (by decide +kernel)) (fun _ _ _ _ _ => (qv_name (i := 8) sc__law_names.nd rfl (by decide))) (fun _ _ _ _ _ => qts_nil) (fun _ _ _ _ _ => (qadd (qadd (qsl (qv 6) qo_none (qo_some (qv 7))) (qixA hr.units (qv 2) (qmod (qadd (qv 5) (qmul qint (qv 8))) qint))) (qsl (qv 6) (qo_some (qv 7)) qo_none))))))))))))))
/-! _law_word -/
def N__law_word : List Str := ["_law_thing", "_law_letters", "_law_sign"]
theorem sc__law_word : FnScope N__law_word ["_law_thing"] (defScope s__law_word) := ⟨rfl, rfl, rfl, by decide +kernel, rfl, by decide +kernel, by decide +kernel⟩
noncomputable def e__law_word_1 : EF := (eLc (iStrF (eVar 0)) (gN 2) bYes (e2 fInA (eVar 2) (eVar 1)) [2])
noncomputable def t__law_word : TF := (kSeq (kAsg (eC (.str "abcdefghijklmnopqrstuvwxyz")) (gN 1))
    (kRet (eAnd (eIsO ISO "str" (eVar 0)) (eAnd (e3 fLe fLe (eC (.int 1)) (eCall bLenA (aCons (eVar 0) aNil)) (eC (.int 8))) (eCall bAll (aCons e__law_word_1 aNil))))))
noncomputable def g__law_word : List D → Mem → Res D := runF 1 2 t__law_word
theorem q__law_word {P : Program} {w : World} {K : PySem.W.Frag} {mg : Str → Option Value} {base : Heap} (T : Tx K mg) : Has P w K mg base 1 "_law_word" ["_law_thing"] g__law_word :=
  T.r__law_word.has sc__law_word rfl fun f cdv A outer s H E hr => (qs_cons (qset (i := 1) sc__law_word.nd rfl qstr)
    (qs_one (qret (q_and (qisO T.iso (by decide) (by decide) (by rfl) T.b_isinstance (qv 0) (by rfl) T.b_str (by decide +kernel)) (q_and (qchain op_le op_le r2_cmp r2_cmp qint (qlenA (by rfl) T.b_len (qa_cons (qv 0) qa_nil)) qint) (q_one (qall rfl (by rfl) T.b_all (qa_cons (qlc (own := [("_law_sign", 2)]) rfl sc__law_word.nd (qi_str (qv 0)) (blkOk_by (own := [("_law_sign", 2)]) (N := N__law_word) (sc := defScope s__law_word) (by decide +kernel)) (fun _ _ _ _ _ => (qv_name (i := 2) sc__law_word.nd rfl (by decide))) (fun _ _ _ _ _ => qts_nil) (fun _ _ _ _ _ => (qinA hr.units (qv 2) (qv 1)))) qa_nil))))))))
/-! _law_is_item -/
def N__law_is_item : List Str := ["_law_thing"]
theorem sc__law_is_item : FnScope N__law_is_item ["_law_thing"] (defScope s__law_is_item) := ⟨rfl, rfl, rfl, by decide +kernel, rfl, by decide +kernel, by decide +kernel⟩
noncomputable def t__law_is_item_1 : TF := (kIf (bOr (bNot (bV (eIsO ISO "tuple" (eVar 0)))) (bOr (bV (e2 fNe (eCall bLenA (aCons (eVar 0) aNil)) (eC (.int 2)))) (bNot (bV (eCall g__law_word (aCons (e2 fIxA (eVar 0) (eC (.int 0))) aNil))))))
    (kRet (eC (.bl false)))
    kNil)
noncomputable def t__law_is_item : TF := (kSeq t__law_is_item_1
    (kRet (eAnd (eIsO ISO "int" (e2 fIxA (eVar 0) (eC (.int 1)))) (eAnd (eNot (eIsO ISO "bool" (e2 fIxA (eVar 0) (eC (.int 1))))) (e3 fLe fLe (eC (.int 0)) (e2 fIxA (eVar 0) (eC (.int 1))) (e2 fPow (eC (.int 10)) (eC (.int 30))))))))
noncomputable def g__law_is_item : List D → Mem → Res D := runF 1 0 t__law_is_item
theorem q__law_is_item {P : Program} {w : World} {K : PySem.W.Frag} {mg : Str → Option Value} {base : Heap} (T : Tx K mg) : Has P w K mg base 2 "_law_is_item" ["_law_thing"] g__law_is_item :=
  T.r__law_is_item.has sc__law_is_item rfl fun f cdv A outer s H E hr => (qs_cons (qif (qt_w (qw_or (qt_not (qt_val (qisO T.iso (by decide) (by decide) (by rfl) T.b_isinstance (qv 0) (by rfl) T.b_tuple (by decide +kernel)))) (qw_or (tNe hr.units (qlenA (by rfl) T.b_len (qa_cons (qv 0) qa_nil)) qint) (qw_or1 (qt_not (qt_val (qcall (q__law_word T) (hr.mono (by decide)) takesQ (by rfl) (qa_cons (qixA hr.units (qv 0) qint) qa_nil)))))))) (qs_one (qret qbl)) qs_nil)
    (qs_one (qret (q_and (qisO T.iso (by decide) (by decide) (by rfl) T.b_isinstance (qixA hr.units (qv 0) qint) (by rfl) T.b_int (by decide +kernel)) (q_and (q_not (qisO T.iso (by decide) (by decide) (by rfl) T.b_isinstance (qixA hr.units (qv 0) qint) (by rfl) T.b_bool (by decide +kernel))) (q_one (qchain op_le op_le r2_cmp r2_cmp qint (qixA hr.units (qv 0) qint) (qpow qint qint))))))))
/-! Purses.__len__ -/
def N_Purses___len__ : List Str := ["self"]
theorem sc_Purses___len__ : FnScope N_Purses___len__ ["self"] (defScope s_Purses___len__) := ⟨rfl, rfl, rfl, by decide +kernel, rfl, by decide +kernel, by decide +kernel⟩
noncomputable def t_Purses___len__ : TF := (kRet (eCall bLenA (aCons (eFld "Purses" "table" (eVar 0)) aNil)))
noncomputable def g_Purses___len__ : List D → Mem → Res D := runF 1 0 t_Purses___len__
theorem q_Purses___len__ {P : Program} {w : World} {K : PySem.W.Frag} {mg : Str → Option Value} {base : Heap} (T : Tx K mg) : HasM P w K mg base 1 "Purses" "__len__" ["self"] g_Purses___len__ :=
  T.r_Purses___len__.has sc_Purses___len__ rfl fun f cdv A outer s H E hr => (qs_one (qret (qlenA (by rfl) T.b_len (qa_cons (qfld T.m_Purses T.k_Purses T.n_Purses_table (qv 0)) qa_nil))))
/-! is_name -/
def N_is_name : List Str := ["thing", "letter"]
theorem sc_is_name : FnScope N_is_name ["thing"] (defScope s_is_name) := ⟨rfl, rfl, rfl, by decide +kernel, rfl, by decide +kernel, by decide +kernel⟩
noncomputable def t_is_name_1 : TF := (kIf (bOr (bNot (bV (eIsO ISO "str" (eVar 0)))) (bNot (bV (e3 fLe fLe (eC (.int 1)) (eCall bLenA (aCons (eVar 0) aNil)) (eC (.int 8))))))
    (kRet (eC (.bl false)))
    kNil)
noncomputable def e_is_name_2 : EF := (eLc (iStrF (eVar 0)) (gN 1) bYes (e2 fInA (eVar 1) (eC (.str "abcdefghijklmnopqrstuvwxyz"))) [1])
noncomputable def t_is_name : TF := (kSeq t_is_name_1
    (kRet (eCall bAll (aCons e_is_name_2 aNil))))
noncomputable def g_is_name : List D → Mem → Res D := runF 1 1 t_is_name
theorem q_is_name {P : Program} {w : World} {K : PySem.W.Frag} {mg : Str → Option Value} {base : Heap} (T : Tx K mg) : Has P w K mg base 1 "is_name" ["thing"] g_is_name :=
  T.r_is_name.has sc_is_name rfl fun f cdv A outer s H E hr => (qs_cons (qif (qt_w (qw_or (qt_not (qt_val (qisO T.iso (by decide) (by decide) (by rfl) T.b_isinstance (qv 0) (by rfl) T.b_str (by decide +kernel)))) (qw_or1 (qt_not (tchain op_le op_le r2_cmp r2_cmp qint (qlenA (by rfl) T.b_len (qa_cons (qv 0) qa_nil)) (qgI (i := 8) (by rfl) T.c_LONGEST_NAME)))))) (qs_one (qret qbl)) qs_nil)
    (qs_one (qret (qall rfl (by rfl) T.b_all (qa_cons (qlc (own := [("letter", 1)]) rfl sc_is_name.nd (qi_str (qv 0)) (blkOk_by (own := [("letter", 1)]) (N := N_is_name) (sc := defScope s_is_name) (by decide +kernel)) (fun _ _ _ _ _ => (qv_name (i := 1) sc_is_name.nd rfl (by decide))) (fun _ _ _ _ _ => qts_nil) (fun _ _ _ _ _ => (qinA hr.units (qv 1) (qgS (by rfl) T.c_LETTERS)))) qa_nil)))))
/-! is_integer -/
def N_is_integer : List Str := ["thing"]
theorem sc_is_integer : FnScope N_is_integer ["thing"] (defScope s_is_integer) := ⟨rfl, rfl, rfl, by decide +kernel, rfl, by decide +kernel, by decide +kernel⟩
noncomputable def t_is_integer : TF := (kRet (eAnd (eIsO ISO "int" (eVar 0)) (eNot (eIsO ISO "bool" (eVar 0)))))
noncomputable def g_is_integer : List D → Mem → Res D := runF 1 0 t_is_integer
theorem q_is_integer {P : Program} {w : World} {K : PySem.W.Frag} {mg : Str → Option Value} {base : Heap} (T : Tx K mg) : Has P w K mg base 1 "is_integer" ["thing"] g_is_integer :=
  T.r_is_integer.has sc_is_integer rfl fun f cdv A outer s H E hr => (qs_one (qret (q_and (qisO T.iso (by decide) (by decide) (by rfl) T.b_isinstance (qv 0) (by rfl) T.b_int (by decide +kernel)) (q_one (q_not (qisO T.iso (by decide) (by decide) (by rfl) T.b_isinstance (qv 0) (by rfl) T.b_bool (by decide +kernel)))))))
/-! is_amount -/
def N_is_amount : List Str := ["thing"]
theorem sc_is_amount : FnScope N_is_amount ["thing"] (defScope s_is_amount) := ⟨rfl, rfl, rfl, by decide +kernel, rfl, by decide +kernel, by decide +kernel⟩
noncomputable def t_is_amount : TF := (kRet (eAnd (eCall g_is_integer (aCons (eVar 0) aNil)) (e3 fLe fLe (eC (.int 0)) (eVar 0) (eC (.int 1000000000000000000000000000000)))))
noncomputable def g_is_amount : List D → Mem → Res D := runF 1 0 t_is_amount
theorem q_is_amount {P : Program} {w : World} {K : PySem.W.Frag} {mg : Str → Option Value} {base : Heap} (T : Tx K mg) : Has P w K mg base 2 "is_amount" ["thing"] g_is_amount :=
  T.r_is_amount.has sc_is_amount rfl fun f cdv A outer s H E hr => (qs_one (qret (q_and (qcall (q_is_integer T) (hr.mono (by decide)) takesQ (by rfl) (qa_cons (qv 0) qa_nil)) (q_one (qchain op_le op_le r2_cmp r2_cmp qint (qv 0) (qgI (i := 1000000000000000000000000000000) (by rfl) T.c_MOST_TICKETS))))))
/-! Purses.__init__ -/
def N_Purses___init__ : List Str := ["self", "items", "table", "at", "item"]
theorem sc_Purses___init__ : FnScope N_Purses___init__ ["self", "items"] (defScope s_Purses___init__) := ⟨rfl, rfl, rfl, by decide +kernel, rfl, by decide +kernel, by decide +kernel⟩
noncomputable def t_Purses___init___1 : TF := (kIf (bOr (bNot (bV (eIsO ISO "list" (eVar 1)))) (bV (e2 fGt (eCall bLenA (aCons (eVar 1) aNil)) (eC (.int 24)))))
    (kRz "Wrong" ["place"] (aCons (eC (.int 0)) aNil))
    kNil)
noncomputable def t_Purses___init___2 : TF := (kIf (bOr (bNot (bV (eIsO ISO "tuple" (eVar 4)))) (bOr (bV (e2 fNe (eCall bLenA (aCons (eVar 4) aNil)) (eC (.int 2)))) (bOr (bNot (bV (eCall g_is_name (aCons (e2 fIxA (eVar 4) (eC (.int 0))) aNil)))) (bNot (bV (eCall g_is_amount (aCons (e2 fIxA (eVar 4) (eC (.int 1))) aNil)))))))
    (kRz "BadItem" ["at"] (aCons (eVar 3) aNil))
    kNil)
noncomputable def t_Purses___init___3 : TF := (kIf (bV (e2 fInA (e2 fIxA (eVar 4) (eC (.int 0))) (eVar 2)))
    (kRz "BadItem" ["at"] (aCons (eVar 3) aNil))
    kNil)
noncomputable def b_Purses___init___4 : TF := (kSeq t_Purses___init___2
    (kSeq t_Purses___init___3
    (kDPut (eVar 2) (e2 fIxA (eVar 4) (eC (.int 0))) (e2 fIxA (eVar 4) (eC (.int 1))))))
noncomputable def t_Purses___init___5 : TF := (kFor (iEnumF (aCons (eVar 1) aNil)) (gTupF 2 (gConsF (gN 3) (gConsF (gN 4) gNilF))) b_Purses___init___4 [3, 4])
noncomputable def t_Purses___init__ : TF := (kSeq t_Purses___init___1
    (kSeq (kAsg eDnewKP (gN 2))
    (kSeq t_Purses___init___5
    (kFld "Purses" "table" (eVar 0) (eFrz (eVar 2))))))
noncomputable def g_Purses___init__ : List D → Mem → Res D := runF 2 3 t_Purses___init__
theorem q_Purses___init__ {P : Program} {w : World} {K : PySem.W.Frag} {mg : Str → Option Value} {base : Heap} (T : Tx K mg) : HasC P w K mg base 3 "Purses" ["self", "items"] g_Purses___init__ :=
  T.r_Purses___init__.has sc_Purses___init__ rfl fun f cdv A outer s H E hr => (qs_cons (qif (qt_w (qw_or (qt_not (qt_val (qisO T.iso (by decide) (by decide) (by rfl) T.b_isinstance (qv 1) (by rfl) T.b_list (by decide +kernel)))) (qw_or1 (tGt' (qlenA (by rfl) T.b_len (qa_cons (qv 1) qa_nil)) (qgI (i := 24) (by rfl) T.c_MOST_PLAYERS))))) (qs_one (qraise rfl (T.e_Wrong _ _ _) (hr.mono (by decide)) takesQ (by rfl) (qa_cons qint qa_nil))) qs_nil)
    (qs_cons (qset (i := 2) sc_Purses___init__.nd rfl qdnewKP)
    (qs_cons (qfor (vs := [3, 4]) passesQ rfl (qi_enum (by rfl) T.b_enumerate (qa_cons (qv 1) qa_nil)) (qg_tup rfl (qgs_cons (qg_name (i := 3) sc_Purses___init__.nd rfl) (qgs_cons (qg_name (i := 4) sc_Purses___init__.nd rfl) qgs_nil))) (qs_cons (qif (qt_w (qw_or (qt_not (qt_val (qisO T.iso (by decide) (by decide) (by rfl) T.b_isinstance (qv 4) (by rfl) T.b_tuple (by decide +kernel)))) (qw_or (tNe hr.units (qlenA (by rfl) T.b_len (qa_cons (qv 4) qa_nil)) qint) (qw_or (qt_not (qt_val (qcall (q_is_name T) (hr.mono (by decide)) takesQ (by rfl) (qa_cons (qixA hr.units (qv 4) qint) qa_nil)))) (qw_or1 (qt_not (qt_val (qcall (q_is_amount T) (hr.mono (by decide)) takesQ (by rfl) (qa_cons (qixA hr.units (qv 4) qint) qa_nil))))))))) (qs_one (qraise rfl (T.e_BadItem _ _ _) (hr.mono (by decide)) takesQ (by rfl) (qa_cons (qv 3) qa_nil))) qs_nil)
    (qs_cons (qif (tinA hr.units (qixA hr.units (qv 4) qint) (qv 2)) (qs_one (qraise rfl (T.e_BadItem _ _ _) (hr.mono (by decide)) takesQ (by rfl) (qa_cons (qv 3) qa_nil))) qs_nil)
    (qs_one (qdput (un1 hr.units) (qv 2) (qixA hr.units (qv 4) qint) (qixA hr.units (qv 4) qint))))))
    (qs_one (qsfld T.m_Purses T.k_Purses T.n_Purses_table (qv 0) (qfrz (qv 2)))))))
/-! _law_told -/
def N__law_told : List Str := ["_law_thing", "e"]
theorem sc__law_told : FnScope N__law_told ["_law_thing"] (defScope s__law_told) := ⟨rfl, rfl, rfl, by decide +kernel, rfl, by decide +kernel, by decide +kernel⟩
noncomputable def t__law_told_1 : TF := (kRet (eTup (aCons (eC (.str "made")) (aCons (eLenO "Purses" g_Purses___len__ (eFrz (eMake "Purses" g_Purses___init__ (aCons (eVar 0) aNil)))) aNil))))
noncomputable def t__law_told_2 (a dd : Addr) (x : Ex) : TF := (kIf (bOr (bV (eIsX a dd (List.any ["Known", "TooMany"] fun t => subE x.c t) (eVar 1))) (bV (e2 fEqA (eIsX a dd (subE x.c "Wrong") (eVar 1)) (eIsX a dd (subE x.c "BadItem") (eVar 1)))))
    (kRet (eTup (aCons (eC (.str "other")) (aCons (eC .non) aNil))))
    kNil)
noncomputable def u__law_told_1 (a dd : Addr) (x : Ex) : TF := (kSeq (t__law_told_2 a dd x)
    (kRet (eIf (bV (eIsX a dd (subE x.c "Wrong") (eVar 1))) (eTup (aCons (eC (.str "wrong")) (aCons (eXF a dd "place" (eVar 1)) aNil))) (eTup (aCons (eC (.str "bad")) (aCons (eXF a dd "at" (eVar 1)) aNil))))))
noncomputable def t__law_told : TF := (kTry RAISED 1 t__law_told_1 u__law_told_1)
noncomputable def g__law_told : List D → Mem → Res D := runF 1 1 t__law_told
theorem q__law_told {P : Program} {w : World} {K : PySem.W.Frag} {mg : Str → Option Value} {base : Heap} (T : Tx K mg) : Has P w K mg base 5 "_law_told" ["_law_thing"] g__law_told :=
  T.r__law_told.has sc__law_told rfl fun f cdv A outer s H E hr => (qs_one (qtryA rfl rfl sc__law_told.nd (i := 1) rfl rfl (by rfl) T.m_ClubError takesQ T.ex (fun W' pn xe tk ps => (qs_one (qret (qtup (qa_cons qstr (qa_cons (qlenO (q_Purses___len__ T) T.m_Purses (hr.mono (by decide)) (by rfl) T.b_len (qfrz (qmake (q_Purses___init__ T) (hr.mono (by decide)) tk (by rfl) (qa_cons (qv 0) qa_nil)))) qa_nil)))))) (fun a dd oe x pn hcl hz hv => (qs_cons (qif (qt_w (qw_or (qt_val (qisXT (cs := [.ref (adr mg "Known"), .ref (adr mg "TooMany")]) (us := List.map (fun t : Str => Value.ref (adr mg t)) ["Known", "TooMany"]) (T.ec x.c hcl) hz hv (by rfl) T.b_isinstance (qv 1) (pa_cons (pe_glob (v := .ref (adr mg "Known")) (by rfl) T.m_Known rfl) (pa_cons (pe_glob (v := .ref (adr mg "TooMany")) (by rfl) T.m_TooMany rfl) pa_nil)) (.cons (.own _) (.cons (.own _) .nil)) (show 2 ≤ sizeLine by decide) (kitAny_map ["Known", "TooMany"] fun t ht => T.kit x.c hcl t ((show ∀ t ∈ (["Known", "TooMany"] : List Str), t ∈ TESTED by decide +kernel) t ht)))) (qw_or1 (tEqA hr.units (qisX (T.ec x.c hcl) hz hv (by rfl) T.b_isinstance (qv 1) (by rfl) T.m_Wrong (T.kit x.c hcl "Wrong" (by decide +kernel))) (qisX (T.ec x.c hcl) hz hv (by rfl) T.b_isinstance (qv 1) (by rfl) T.m_BadItem (T.kit x.c hcl "BadItem" (by decide +kernel))))))) (qs_one (qret (qtup (qa_cons qstr (qa_cons qnon qa_nil))))) qs_nil)
    (qs_one (qret (q_if (qt_val (qisX (T.ec x.c hcl) hz hv (by rfl) T.b_isinstance (qv 1) (by rfl) T.m_Wrong (T.kit x.c hcl "Wrong" (by decide +kernel)))) (qtup (qa_cons qstr (qa_cons (qxf (T.ec x.c hcl) (T.nf x.c hcl "place" (by decide +kernel)) hz hv (qv 1)) qa_nil))) (qtup (qa_cons qstr (qa_cons (qxf (T.ec x.c hcl) (T.nf x.c hcl "at" (by decide +kernel)) hz hv (qv 1)) qa_nil))))))))))
/-! _law_odd -/
def N__law_odd : List Str := ["_law_hand_here", "_law_item", "_law_names_here", "_law_name", "_law_many", "_law_at", "_law_sign", "_law_some"]
theorem sc__law_odd : FnScope N__law_odd ["_law_hand_here", "_law_item", "_law_names_here"] (defScope s__law_odd) := ⟨rfl, rfl, rfl, by decide +kernel, rfl, by decide +kernel, by decide +kernel⟩
noncomputable def t__law_odd : TF := (kSeq (kAsg (eVar 1) (gTupF 2 (gConsF (gN 3) (gConsF (gN 4) gNilF))))
    (kSeq (kAsg (eCall g__law_draw (aCons (eVar 0) (aCons (eCall bLenA (aCons (eVar 3) aNil)) aNil))) (gN 5))
    (kSeq (kAsg (e2 fIxA (eC (.str "ABZ09 -_.{")) (eCall g__law_draw (aCons (eVar 0) (aCons (eC (.int 10)) aNil)))) (gN 6))
    (kSeq (kAsg (eLst (aCons (eTup (aCons (e2 fAdd (e2 fAdd (eSl (eVar 3) oNone (oSome (eVar 5))) (eVar 6)) (eSl (eVar 3) (oSome (e2 fAdd (eVar 5) (eC (.int 1)))) oNone)) (aCons (eVar 4) aNil))) (aCons (eTup (aCons (e2 fAdd (e2 fAdd (eSl (eVar 3) oNone (oSome (eVar 5))) (eVar 6)) (eSl (eVar 3) (oSome (eVar 5)) oNone)) (aCons (eVar 4) aNil))) aNil))) (gN 7))
    (kSeq (kAsg (e2 fAdd (eVar 7) (eLst (aCons (eTup (aCons (eC (.str "")) (aCons (eVar 4) aNil))) (aCons (eTup (aCons (e2 fMulS (eVar 3) (eC (.int 9))) (aCons (eVar 4) aNil))) aNil)))) (gN 7))
    (kSeq (kAsg (e2 fAdd (eVar 7) (eLst (aCons (eTup (aCons (e2 fIxA (eVar 2) (eCall g__law_draw (aCons (eVar 0) (aCons (eCall bLenA (aCons (eVar 2) aNil)) aNil)))) (aCons (eVar 4) aNil))) (aCons (eTup (aCons (e2 fIxA (eVar 2) (eCall g__law_draw (aCons (eVar 0) (aCons (eCall bLenA (aCons (eVar 2) aNil)) aNil)))) (aCons (e2 fAdd (eVar 4) (eC (.int 1))) aNil))) aNil)))) (gN 7))
    (kSeq (kAsg (e2 fAdd (eVar 7) (eLst (aCons (eTup (aCons (eVar 3) (aCons (eNeg (eC (.int 1))) aNil))) (aCons (eTup (aCons (eVar 3) (aCons (e2 fAdd (e2 fPow (eC (.int 10)) (eC (.int 30))) (eC (.int 1))) aNil))) (aCons (eTup (aCons (eVar 3) (aCons (eC (.bl true)) aNil))) (aCons (eTup (aCons (eVar 3) (aCons (eC .non) aNil))) aNil)))))) (gN 7))
    (kSeq (kAsg (e2 fAdd (eVar 7) (eLst (aCons (eTup (aCons (eVar 3) (aCons (eCall bStrI (aCons (eVar 4) aNil)) aNil))) (aCons (eTup (aCons (eVar 3) (aCons (eLst (aCons (eVar 4) aNil)) aNil))) aNil)))) (gN 7))
    (kSeq (kAsg (e2 fAdd (eVar 7) (eLst (aCons (eTup (aCons (eVar 3) aNil)) (aCons (eTup (aCons (eVar 3) (aCons (eVar 4) (aCons (eVar 4) aNil)))) (aCons (eLst (aCons (eVar 3) (aCons (eVar 4) aNil))) (aCons (eTup (aCons (eVar 4) (aCons (eVar 3) aNil))) (aCons (eVar 3) (aCons (eC .non) (aCons (eTup (aCons (eLst (aCons (eVar 3) aNil)) (aCons (eVar 4) aNil))) (aCons (eTup aNil) aNil)))))))))) (gN 7))
    (kRet (e2 fIxA (eVar 7) (eCall g__law_draw (aCons (eVar 0) (aCons (eC (.int 20)) aNil))))))))))))))
noncomputable def g__law_odd : List D → Mem → Res D := runF 3 5 t__law_odd
theorem q__law_odd {P : Program} {w : World} {K : PySem.W.Frag} {mg : Str → Option Value} {base : Heap} (T : Tx K mg) : Has P w K mg base 4 "_law_odd" ["_law_hand_here", "_law_item", "_law_names_here"] g__law_odd :=
  T.r__law_odd.has sc__law_odd rfl fun f cdv A outer s H E hr => (qs_cons (qasg (qv 1) (qg_tup rfl (qgs_cons (qg_name (i := 3) sc__law_odd.nd rfl) (qgs_cons (qg_name (i := 4) sc__law_odd.nd rfl) qgs_nil))))
    (qs_cons (qset (i := 5) sc__law_odd.nd rfl (qcall (q__law_draw T) (hr.mono (by decide)) takesQ (by rfl) (qa_cons (qv 0) (qa_cons (qlenA (by rfl) T.b_len (qa_cons (qv 3) qa_nil)) qa_nil))))
    (qs_cons (qset (i := 6) sc__law_odd.nd rfl (qixA hr.units qstr (qcall (q__law_draw T) (hr.mono (by decide)) takesQ (by rfl) (qa_cons (qv 0) (qa_cons qint qa_nil)))))
    (qs_cons (qset (i := 7) sc__law_odd.nd rfl (qlst (qa_cons (qtup (qa_cons (qadd (qadd (qsl (qv 3) qo_none (qo_some (qv 5))) (qv 6)) (qsl (qv 3) (qo_some (qadd (qv 5) qint)) qo_none)) (qa_cons (qv 4) qa_nil))) (qa_cons (qtup (qa_cons (qadd (qadd (qsl (qv 3) qo_none (qo_some (qv 5))) (qv 6)) (qsl (qv 3) (qo_some (qv 5)) qo_none)) (qa_cons (qv 4) qa_nil))) qa_nil))))
    (qs_cons (qset (i := 7) sc__law_odd.nd rfl (qadd (qv 7) (qlst (qa_cons (qtup (qa_cons qstr (qa_cons (qv 4) qa_nil))) (qa_cons (qtup (qa_cons (qmulS (qv 3) qint) (qa_cons (qv 4) qa_nil))) qa_nil)))))
    (qs_cons (qset (i := 7) sc__law_odd.nd rfl (qadd (qv 7) (qlst (qa_cons (qtup (qa_cons (qixA hr.units (qv 2) (qcall (q__law_draw T) (hr.mono (by decide)) takesQ (by rfl) (qa_cons (qv 0) (qa_cons (qlenA (by rfl) T.b_len (qa_cons (qv 2) qa_nil)) qa_nil)))) (qa_cons (qv 4) qa_nil))) (qa_cons (qtup (qa_cons (qixA hr.units (qv 2) (qcall (q__law_draw T) (hr.mono (by decide)) takesQ (by rfl) (qa_cons (qv 0) (qa_cons (qlenA (by rfl) T.b_len (qa_cons (qv 2) qa_nil)) qa_nil)))) (qa_cons (qadd (qv 4) qint) qa_nil))) qa_nil)))))
    (qs_cons (qset (i := 7) sc__law_odd.nd rfl (qadd (qv 7) (qlst (qa_cons (qtup (qa_cons (qv 3) (qa_cons (qneg qint) qa_nil))) (qa_cons (qtup (qa_cons (qv 3) (qa_cons (qadd (qpow qint qint) qint) qa_nil))) (qa_cons (qtup (qa_cons (qv 3) (qa_cons qbl qa_nil))) (qa_cons (qtup (qa_cons (qv 3) (qa_cons qnon qa_nil))) qa_nil)))))))
    (qs_cons (qset (i := 7) sc__law_odd.nd rfl (qadd (qv 7) (qlst (qa_cons (qtup (qa_cons (qv 3) (qa_cons (qstrI (by rfl) T.b_str (qa_cons (qv 4) qa_nil)) qa_nil))) (qa_cons (qtup (qa_cons (qv 3) (qa_cons (qlst (qa_cons (qv 4) qa_nil)) qa_nil))) qa_nil)))))
    (qs_cons (qset (i := 7) sc__law_odd.nd rfl (qadd (qv 7) (qlst (qa_cons (qtup (qa_cons (qv 3) qa_nil)) (qa_cons (qtup (qa_cons (qv 3) (qa_cons (qv 4) (qa_cons (qv 4) qa_nil)))) (qa_cons (qlst (qa_cons (qv 3) (qa_cons (qv 4) qa_nil))) (qa_cons (qtup (qa_cons (qv 4) (qa_cons (qv 3) qa_nil))) (qa_cons (qv 3) (qa_cons qnon (qa_cons (qtup (qa_cons (qlst (qa_cons (qv 3) qa_nil)) (qa_cons (qv 4) qa_nil))) (qa_cons (qtup qa_nil) qa_nil)))))))))))
    (qs_one (qret (qixA hr.units (qv 7) (qcall (q__law_draw T) (hr.mono (by decide)) takesQ (by rfl) (qa_cons (qv 0) (qa_cons qint qa_nil)))))))))))))))
/-! _law_alike -/
def N__law_alike : List Str := ["_law_found", "_law_due_here"]
theorem sc__law_alike : FnScope N__law_alike ["_law_found", "_law_due_here"] (defScope s__law_alike) := ⟨rfl, rfl, rfl, by decide +kernel, rfl, by decide +kernel, by decide +kernel⟩
noncomputable def t__law_alike : TF := (kRet (eAnd (e2 fEqA (eVar 0) (eVar 1)) (e2 fEqA (eCall bReprAK (aCons (eVar 0) aNil)) (eCall bReprAK (aCons (eVar 1) aNil)))))
noncomputable def g__law_alike : List D → Mem → Res D := runF 2 0 t__law_alike
theorem q__law_alike {P : Program} {w : World} {K : PySem.W.Frag} {mg : Str → Option Value} {base : Heap} (T : Tx K mg) : Has P w K mg base 1 "_law_alike" ["_law_found", "_law_due_here"] g__law_alike :=
  T.r__law_alike.has sc__law_alike rfl fun f cdv A outer s H E hr => (qs_one (qret (q_and (qeqA hr.units (qv 0) (qv 1)) (q_one (qeqA hr.units (qreprAK hr.gd hr.units (by rfl) T.b_repr (qa_cons (qv 0) qa_nil)) (qreprAK hr.gd hr.units (by rfl) T.b_repr (qa_cons (qv 1) qa_nil)))))))
/-! pair_of -/
def N_pair_of : List Str := ["one", "other"]
theorem sc_pair_of : FnScope N_pair_of ["one", "other"] (defScope s_pair_of) := ⟨rfl, rfl, rfl, by decide +kernel, rfl, by decide +kernel, by decide +kernel⟩
noncomputable def t_pair_of : TF := (kRet (eTup (aCons (eCall bMin2 (aCons (eVar 0) (aCons (eVar 1) aNil))) (aCons (eCall bMax2 (aCons (eVar 0) (aCons (eVar 1) aNil))) aNil))))
noncomputable def g_pair_of : List D → Mem → Res D := runF 2 0 t_pair_of
theorem q_pair_of {P : Program} {w : World} {K : PySem.W.Frag} {mg : Str → Option Value} {base : Heap} (T : Tx K mg) : Has P w K mg base 1 "pair_of" ["one", "other"] g_pair_of :=
  T.r_pair_of.has sc_pair_of rfl fun f cdv A outer s H E hr => (qs_one (qret (qtup (qa_cons (qmin2 rfl (by rfl) T.b_min (qa_cons (qv 0) (qa_cons (qv 1) qa_nil))) (qa_cons (qmax2 rfl (by rfl) T.b_max (qa_cons (qv 0) (qa_cons (qv 1) qa_nil))) qa_nil)))))
/-! is_count -/
def N_is_count : List Str := ["thing"]
theorem sc_is_count : FnScope N_is_count ["thing"] (defScope s_is_count) := ⟨rfl, rfl, rfl, by decide +kernel, rfl, by decide +kernel, by decide +kernel⟩
noncomputable def t_is_count : TF := (kRet (eAnd (eCall g_is_integer (aCons (eVar 0) aNil)) (e3 fLe fLe (eC (.int 1)) (eVar 0) (eC (.int 1000000000000000000000000)))))
noncomputable def g_is_count : List D → Mem → Res D := runF 1 0 t_is_count
theorem q_is_count {P : Program} {w : World} {K : PySem.W.Frag} {mg : Str → Option Value} {base : Heap} (T : Tx K mg) : Has P w K mg base 2 "is_count" ["thing"] g_is_count :=
  T.r_is_count.has sc_is_count rfl fun f cdv A outer s H E hr => (qs_one (qret (q_and (qcall (q_is_integer T) (hr.mono (by decide)) takesQ (by rfl) (qa_cons (qv 0) qa_nil)) (q_one (qchain op_le op_le r2_cmp r2_cmp qint (qv 0) (qgI (i := 1000000000000000000000000) (by rfl) T.c_MOST_TIMES))))))
/-! is_run -/
def N_is_run : List Str := ["thing"]
theorem sc_is_run : FnScope N_is_run ["thing"] (defScope s_is_run) := ⟨rfl, rfl, rfl, by decide +kernel, rfl, by decide +kernel, by decide +kernel⟩
noncomputable def t_is_run_1 : TF := (kIf (bOr (bNot (bV (eIsO ISO "tuple" (eVar 0)))) (bOr (bV (e2 fNe (eCall bLenA (aCons (eVar 0) aNil)) (eC (.int 3)))) (bOr (bNot (bV (eCall g_is_name (aCons (e2 fIxA (eVar 0) (eC (.int 0))) aNil)))) (bNot (bV (eCall g_is_name (aCons (e2 fIxA (eVar 0) (eC (.int 1))) aNil)))))))
    (kRet (eC (.bl false)))
    kNil)
noncomputable def t_is_run : TF := (kSeq t_is_run_1
    (kRet (eAnd (e2 fNe (e2 fIxA (eVar 0) (eC (.int 0))) (e2 fIxA (eVar 0) (eC (.int 1)))) (eCall g_is_count (aCons (e2 fIxA (eVar 0) (eC (.int 2))) aNil)))))
noncomputable def g_is_run : List D → Mem → Res D := runF 1 0 t_is_run
theorem q_is_run {P : Program} {w : World} {K : PySem.W.Frag} {mg : Str → Option Value} {base : Heap} (T : Tx K mg) : Has P w K mg base 3 "is_run" ["thing"] g_is_run :=
  T.r_is_run.has sc_is_run rfl fun f cdv A outer s H E hr => (qs_cons (qif (qt_w (qw_or (qt_not (qt_val (qisO T.iso (by decide) (by decide) (by rfl) T.b_isinstance (qv 0) (by rfl) T.b_tuple (by decide +kernel)))) (qw_or (tNe hr.units (qlenA (by rfl) T.b_len (qa_cons (qv 0) qa_nil)) qint) (qw_or (qt_not (qt_val (qcall (q_is_name T) (hr.mono (by decide)) takesQ (by rfl) (qa_cons (qixA hr.units (qv 0) qint) qa_nil)))) (qw_or1 (qt_not (qt_val (qcall (q_is_name T) (hr.mono (by decide)) takesQ (by rfl) (qa_cons (qixA hr.units (qv 0) qint) qa_nil))))))))) (qs_one (qret qbl)) qs_nil)
    (qs_one (qret (q_and (qne hr.units (qixA hr.units (qv 0) qint) (qixA hr.units (qv 0) qint)) (q_one (qcall (q_is_count T) (hr.mono (by decide)) takesQ (by rfl) (qa_cons (qixA hr.units (qv 0) qint) qa_nil)))))))
/-! Lot.__init__ -/
def N_Lot___init__ : List Str := ["self", "items", "table", "at", "item", "pair"]
theorem sc_Lot___init__ : FnScope N_Lot___init__ ["self", "items"] (defScope s_Lot___init__) := ⟨rfl, rfl, rfl, by decide +kernel, rfl, by decide +kernel, by decide +kernel⟩
noncomputable def t_Lot___init___1 : TF := (kIf (bOr (bNot (bV (eIsO ISO "list" (eVar 1)))) (bV (e2 fGt (eCall bLenA (aCons (eVar 1) aNil)) (eC (.int 500)))))
    (kRz "Wrong" ["place"] (aCons (eC (.int 0)) aNil))
    kNil)
noncomputable def t_Lot___init___2 : TF := (kIf (bNot (bV (eCall g_is_run (aCons (eVar 4) aNil))))
    (kRz "BadItem" ["at"] (aCons (eVar 3) aNil))
    kNil)
noncomputable def t_Lot___init___3 : TF := (kIf (bV (e2 fGt (e2 fIxA (eVar 2) (eVar 5)) (eC (.int 1000000000000000000000000))))
    (kRz "BadItem" ["at"] (aCons (eVar 3) aNil))
    kNil)
noncomputable def b_Lot___init___4 : TF := (kSeq t_Lot___init___2
    (kSeq (kAsg (eCall g_pair_of (aCons (e2 fIxA (eVar 4) (eC (.int 0))) (aCons (e2 fIxA (eVar 4) (eC (.int 1))) aNil))) (gN 5))
    (kSeq (kDPut (eVar 2) (eVar 5) (e2 fAdd (eGet2 (eVar 2) (eVar 5) (eC (.int 0))) (e2 fIxA (eVar 4) (eC (.int 2)))))
    t_Lot___init___3)))
noncomputable def t_Lot___init___5 : TF := (kFor (iEnumF (aCons (eVar 1) aNil)) (gTupF 2 (gConsF (gN 3) (gConsF (gN 4) gNilF))) b_Lot___init___4 [3, 4, 5])
noncomputable def t_Lot___init__ : TF := (kSeq t_Lot___init___1
    (kSeq (kAsg eDnewKP (gN 2))
    (kSeq t_Lot___init___5
    (kFld "Lot" "table" (eVar 0) (eFrz (eVar 2))))))
noncomputable def g_Lot___init__ : List D → Mem → Res D := runF 2 4 t_Lot___init__
theorem q_Lot___init__ {P : Program} {w : World} {K : PySem.W.Frag} {mg : Str → Option Value} {base : Heap} (T : Tx K mg) : HasC P w K mg base 4 "Lot" ["self", "items"] g_Lot___init__ :=
  T.r_Lot___init__.has sc_Lot___init__ rfl fun f cdv A outer s H E hr => (qs_cons (qif (qt_w (qw_or (qt_not (qt_val (qisO T.iso (by decide) (by decide) (by rfl) T.b_isinstance (qv 1) (by rfl) T.b_list (by decide +kernel)))) (qw_or1 (tGt' (qlenA (by rfl) T.b_len (qa_cons (qv 1) qa_nil)) (qgI (i := 500) (by rfl) T.c_MOST_ITEMS))))) (qs_one (qraise rfl (T.e_Wrong _ _ _) (hr.mono (by decide)) takesQ (by rfl) (qa_cons qint qa_nil))) qs_nil)
    (qs_cons (qset (i := 2) sc_Lot___init__.nd rfl qdnewKP)
    (qs_cons (qfor (vs := [3, 4, 5]) passesQ rfl (qi_enum (by rfl) T.b_enumerate (qa_cons (qv 1) qa_nil)) (qg_tup rfl (qgs_cons (qg_name (i := 3) sc_Lot___init__.nd rfl) (qgs_cons (qg_name (i := 4) sc_Lot___init__.nd rfl) qgs_nil))) (qs_cons (qif (qt_not (qt_val (qcall (q_is_run T) (hr.mono (by decide)) takesQ (by rfl) (qa_cons (qv 4) qa_nil)))) (qs_one (qraise rfl (T.e_BadItem _ _ _) (hr.mono (by decide)) takesQ (by rfl) (qa_cons (qv 3) qa_nil))) qs_nil)
    (qs_cons (qset (i := 5) sc_Lot___init__.nd rfl (qcall (q_pair_of T) (hr.mono (by decide)) takesQ (by rfl) (qa_cons (qixA hr.units (qv 4) qint) (qa_cons (qixA hr.units (qv 4) qint) qa_nil))))
    (qs_cons (qdput (un1 hr.units) (qv 2) (qv 5) (qadd (qget2 (un1 hr.units) (qv 2) (qv 5) qint) (qixA hr.units (qv 4) qint)))
    (qs_one (qif (tGt' (qixA hr.units (qv 2) (qv 5)) (qgI (i := 1000000000000000000000000) (by rfl) T.c_MOST_TIMES)) (qs_one (qraise rfl (T.e_BadItem _ _ _) (hr.mono (by decide)) takesQ (by rfl) (qa_cons (qv 3) qa_nil))) qs_nil))))))
    (qs_one (qsfld T.m_Lot T.k_Lot T.n_Lot_table (qv 0) (qfrz (qv 2)))))))
/-! _law_shuffled -/
def N__law_shuffled : List Str := ["_law_hand_here", "_law_some", "_law_left", "_law_found"]
theorem sc__law_shuffled : FnScope N__law_shuffled ["_law_hand_here", "_law_some"] (defScope s__law_shuffled) := ⟨rfl, rfl, rfl, by decide +kernel, rfl, by decide +kernel, by decide +kernel⟩
noncomputable def b__law_shuffled_1 : TF := (kDrop (eApp (eVar 3) (ePopI (eVar 2) (eCall g__law_draw (aCons (eVar 0) (aCons (eCall bLenA (aCons (eVar 2) aNil)) aNil))))))
noncomputable def t__law_shuffled_2 : TF := (kWhile (bV (e2 fNeA (eVar 2) (eLst aNil))) b__law_shuffled_1 [])
noncomputable def t__law_shuffled : TF := (kSeq (kAsg (eCall bListP (aCons (eVar 1) aNil)) (gN 2))
    (kSeq (kAsg (eLstP aNil) (gN 3))
    (kSeq t__law_shuffled_2
    (kRet (eFrz (eVar 3))))))
noncomputable def g__law_shuffled : List D → Mem → Res D := runF 2 2 t__law_shuffled
theorem q__law_shuffled {P : Program} {w : World} {K : PySem.W.Frag} {mg : Str → Option Value} {base : Heap} (T : Tx K mg) : Has P w K mg base 4 "_law_shuffled" ["_law_hand_here", "_law_some"] g__law_shuffled :=
  T.r__law_shuffled.has sc__law_shuffled rfl fun f cdv A outer s H E hr => (qs_cons (qset (i := 2) sc__law_shuffled.nd rfl (qlistP (by rfl) T.b_list (qa_cons (qv 1) qa_nil)))
    (qs_cons (qset (i := 3) sc__law_shuffled.nd rfl (qlstP qa_nil))
    (qs_cons (qwhile (vs := []) passesQ (tNeA hr.units (qv 2) (qlst qa_nil)) (qs_one (qexpr (qapp (qv 3) (qpopI (qv 2) (qcall (q__law_draw T) (hr.mono (by decide)) takesQ (by rfl) (qa_cons (qv 0) (qa_cons (qlenA (by rfl) T.b_len (qa_cons (qv 2) qa_nil)) qa_nil))))))))
    (qs_one (qret (qfrz (qv 3)))))))
/-! _law_great_things -/
def N__law_great_things : List Str := ["_law_deep", "_law_k"]
theorem sc__law_great_things : FnScope N__law_great_things [] (defScope s__law_great_things) := ⟨rfl, rfl, rfl, by decide +kernel, rfl, by decide +kernel, by decide +kernel⟩
noncomputable def b__law_great_things_1 : TF := (kAsg (eLst (aCons (eVar 0) aNil)) (gN 0))
noncomputable def t__law_great_things_2 : TF := (kFor (iRange1 (aCons (eC (.int 19)) aNil)) (gN 1) b__law_great_things_1 [1])
noncomputable def t__law_great_things : TF := (kSeq (kAsg (eC .non) (gN 0))
    (kSeq t__law_great_things_2
    (kRet (eLst (aCons (e2 fRep (eLstP (aCons (eC .non) aNil)) (eC (.int 19000))) (aCons (eVar 0) aNil))))))
noncomputable def g__law_great_things : List D → Mem → Res D := runF 0 2 t__law_great_things
theorem q__law_great_things {P : Program} {w : World} {K : PySem.W.Frag} {mg : Str → Option Value} {base : Heap} (T : Tx K mg) : Has P w K mg base 1 "_law_great_things" [] g__law_great_things :=
  T.r__law_great_things.has sc__law_great_things rfl fun f cdv A outer s H E hr => (qs_cons (qset (i := 0) sc__law_great_things.nd rfl qnon)
    (qs_cons (qfor (vs := [1]) passesQ rfl (qi_range1 (by rfl) T.b_range (qa_cons qint qa_nil)) (qg_name (i := 1) sc__law_great_things.nd rfl) (qs_one (qset (i := 0) sc__law_great_things.nd rfl (qlst (qa_cons (qv 0) qa_nil)))))
    (qs_one (qret (qlst (qa_cons (qrep (qlstP (qa_cons qnon qa_nil)) qint) (qa_cons (qv 0) qa_nil)))))))
/-! _law_due -/
def N__law_due : List Str := ["_law_thing", "_law_seen", "_law_at", "_law_item"]
theorem sc__law_due : FnScope N__law_due ["_law_thing"] (defScope s__law_due) := ⟨rfl, rfl, rfl, by decide +kernel, rfl, by decide +kernel, by decide +kernel⟩
noncomputable def t__law_due_1 : TF := (kIf (bOr (bNot (bV (eIsO ISO "list" (eVar 0)))) (bV (e2 fGt (eCall bLenA (aCons (eVar 0) aNil)) (eC (.int 24)))))
    (kRet (eTup (aCons (eC (.str "wrong")) (aCons (eC (.int 0)) aNil))))
    kNil)
noncomputable def t__law_due_2 : TF := (kIf (bOr (bNot (bV (eCall g__law_is_item (aCons (eVar 3) aNil)))) (bV (e2 fInA (e2 fIxA (eVar 3) (eC (.int 0))) (eVar 1))))
    (kRet (eTup (aCons (eC (.str "bad")) (aCons (eVar 2) aNil))))
    kNil)
noncomputable def b__law_due_3 : TF := (kSeq t__law_due_2
    (kDPut (eVar 1) (e2 fIxA (eVar 3) (eC (.int 0))) (eC (.bl true))))
noncomputable def t__law_due_4 : TF := (kFor (iEnumF (aCons (eVar 0) aNil)) (gTupF 2 (gConsF (gN 2) (gConsF (gN 3) gNilF))) b__law_due_3 [2, 3])
noncomputable def t__law_due : TF := (kSeq t__law_due_1
    (kSeq (kAsg eDnewKP (gN 1))
    (kSeq t__law_due_4
    (kRet (eTup (aCons (eC (.str "made")) (aCons (eCall bLenA (aCons (eVar 0) aNil)) aNil)))))))
noncomputable def g__law_due : List D → Mem → Res D := runF 1 3 t__law_due
theorem q__law_due {P : Program} {w : World} {K : PySem.W.Frag} {mg : Str → Option Value} {base : Heap} (T : Tx K mg) : Has P w K mg base 3 "_law_due" ["_law_thing"] g__law_due :=
  T.r__law_due.has sc__law_due rfl fun f cdv A outer s H E hr => (qs_cons (qif (qt_w (qw_or (qt_not (qt_val (qisO T.iso (by decide) (by decide) (by rfl) T.b_isinstance (qv 0) (by rfl) T.b_list (by decide +kernel)))) (qw_or1 (tGt' (qlenA (by rfl) T.b_len (qa_cons (qv 0) qa_nil)) qint)))) (qs_one (qret (qtup (qa_cons qstr (qa_cons qint qa_nil))))) qs_nil)
    (qs_cons (qset (i := 1) sc__law_due.nd rfl qdnewKP)
    (qs_cons (qfor (vs := [2, 3]) passesQ rfl (qi_enum (by rfl) T.b_enumerate (qa_cons (qv 0) qa_nil)) (qg_tup rfl (qgs_cons (qg_name (i := 2) sc__law_due.nd rfl) (qgs_cons (qg_name (i := 3) sc__law_due.nd rfl) qgs_nil))) (qs_cons (qif (qt_w (qw_or (qt_not (qt_val (qcall (q__law_is_item T) (hr.mono (by decide)) takesQ (by rfl) (qa_cons (qv 3) qa_nil)))) (qw_or1 (tinA hr.units (qixA hr.units (qv 3) qint) (qv 1))))) (qs_one (qret (qtup (qa_cons qstr (qa_cons (qv 2) qa_nil))))) qs_nil)
    (qs_one (qdput (un1 hr.units) (qv 1) (qixA hr.units (qv 3) qint) qbl))))
    (qs_one (qret (qtup (qa_cons qstr (qa_cons (qlenA (by rfl) T.b_len (qa_cons (qv 0) qa_nil)) qa_nil))))))))
/-! law -/
def N_law : List Str := ["_law_script", "_law_hand_here", "_law_names_here", "_law_turn", "_law_many", "_law_thing", "_law_k", "_law_at", "_law_way", "_law_some", "_law_kept", "_law_name"]
theorem sc_law : FnScope N_law ["_law_script"] (defScope s_law) := ⟨rfl, rfl, rfl, by decide +kernel, rfl, by decide +kernel, by decide +kernel⟩
noncomputable def e_law_1 : EF := (eLcP (iSeq (eSl (eCall g__law_shuffled (aCons (eVar 1) (aCons (eVar 2) aNil))) oNone (oSome (eVar 4)))) (gN 11) bYes (eTup (aCons (eVar 11) (aCons (eCall g__law_draw (aCons (eVar 1) (aCons (e2 fAdd (e2 fPow (eC (.int 10)) (eC (.int 30))) (eC (.int 1))) aNil))) aNil))) [11])
noncomputable def t_law_2 : TF := (kIf (bV (eCall g__law_is_item (aCons (e2 fIxA (eVar 5) (eVar 7)) aNil)))
    (kAsg (eCall g__law_odd (aCons (eVar 1) (aCons (e2 fIxA (eVar 5) (eVar 7)) (aCons (eVar 2) aNil)))) (gSubL (eVar 5) (eVar 7)))
    kNil)
noncomputable def b_law_3 : TF := (kSeq (kAsg (eCall g__law_draw (aCons (eVar 1) (aCons (eCall bLenA (aCons (eVar 5) aNil)) aNil))) (gN 7))
    t_law_2)
noncomputable def t_law_4 : TF := (kFor (iRange1 (aCons (eCall g__law_draw (aCons (eVar 1) (aCons (eC (.int 3)) aNil))) aNil)) (gN 6) b_law_3 [6, 7])
noncomputable def t_law_5 : TF := (kIf (bV (e2 fEqA (eVar 8) (eC (.int 0))))
    (kAsg (e2 fAdd (eVar 5) (e2 fRep (eLstP (aCons (eTup (aCons (eC (.str "zzz")) (aCons (eC (.int 1)) aNil))) aNil)) (e2 fIxA (eLst (aCons (eC (.int 1)) (aCons (e2 fSub (eC (.int 25)) (eCall bLenA (aCons (eVar 5) aNil))) aNil))) (eCall g__law_draw (aCons (eVar 1) (aCons (eC (.int 2)) aNil)))))) (gN 5))
    kNil)
noncomputable def e_law_6 : EF := (eLc (iSeq (eVar 2)) (gN 11) bYes (eTup (aCons (eVar 11) (aCons (eC (.int 1)) aNil))) [11])
noncomputable def t_law_7 : TF := (kIf (bV (e2 fEqA (eVar 8) (eC (.int 1))))
    (kSeq (kAsg (eLst (aCons (eCall bTuple (aCons (eVar 5) aNil)) (aCons (eFrz (eCall bDictP (aCons e_law_6 aNil))) (aCons (eC .non) (aCons (eC (.str "")) (aCons (eC (.int 5)) (aCons (eLst (aCons (eLst aNil) aNil)) (aCons (eLst aNil) aNil)))))))) (gN 9))
    (kAsg (e2 fIxA (e2 fAdd (e2 fAdd (eVar 9) (eLst (aCons (e2 fRep (eSlP (eVar 5) oNone (oSome (eC (.int 1)))) (eC (.int 4900))) aNil))) (eCall g__law_great_things aNil)) (eCall g__law_draw (aCons (eVar 1) (aCons (eC (.int 10)) aNil)))) (gN 5)))
    kNil)
noncomputable def t_law_8 : TF := (kIf (bOr (bNot (bV (eCall g__law_alike (aCons (eCall g__law_told (aCons (eVar 5) aNil)) (aCons (eCall g__law_due (aCons (eVar 5) aNil)) aNil))))) (bV (e2 fNe (eCall bReprAK (aCons (eVar 5) aNil)) (eVar 10))))
    (kRet (eC (.bl false)))
    kNil)
noncomputable def b_law_9 : TF := (kSeq (kAsg (e2 fIxA (eLst (aCons (e2 fAdd (eC (.int 1)) (eCall g__law_draw (aCons (eVar 1) (aCons (eC (.int 5)) aNil)))) (aCons (e2 fAdd (eC (.int 1)) (eCall g__law_draw (aCons (eVar 1) (aCons (eC (.int 24)) aNil)))) (aCons (eC (.int 24)) aNil)))) (eCall g__law_draw (aCons (eVar 1) (aCons (eC (.int 3)) aNil)))) (gN 4))
    (kSeq (kAsg e_law_1 (gN 5))
    (kSeq t_law_4
    (kSeq (kAsg (eCall g__law_draw (aCons (eVar 1) (aCons (eC (.int 10)) aNil))) (gN 8))
    (kSeq t_law_5
    (kSeq t_law_7
    (kSeq (kFz 5 (kAsg (eCall bReprAK (aCons (eVar 5) aNil)) (gN 10)))
    t_law_8)))))))
noncomputable def t_law_10 : TF := (kFor (iRange1 (aCons (eC (.int 12)) aNil)) (gN 3) b_law_9 [3, 4, 6, 7, 8, 9, 10])
noncomputable def e_law_11 : EF := (eLc (iSeq (eLst (aCons (eFrz (eMake "Purses" g_Purses___init__ (aCons (eLst aNil) aNil))) (aCons (eFrz (eMake "Purses" g_Purses___init__ (aCons (eLst (aCons (eTup (aCons (e2 fIxA (eVar 2) (eC (.int 0))) (aCons (eC (.int 1)) aNil))) aNil)) aNil))) (aCons (eFrz (eMake "Lot" g_Lot___init__ (aCons (eLst aNil) aNil))) aNil))))) (gN 5) bYes (eCall g__law_told (aCons (eVar 5) aNil)) [5])
noncomputable def t_law : TF := (kSeq (kAsg (eCall g__law_hand (aCons (eVar 0) aNil)) (gN 1))
    (kSeq (kAsg (eCall g__law_names (aCons (eVar 1) (aCons (eC (.int 24)) aNil))) (gN 2))
    (kSeq t_law_10
    (kRet (e2 fEqA e_law_11 (e2 fRep (eLstP (aCons (eTup (aCons (eC (.str "wrong")) (aCons (eC (.int 0)) aNil))) aNil)) (eC (.int 3))))))))
noncomputable def g_law : List D → Mem → Res D := runF 1 11 t_law
theorem q_law {P : Program} {w : World} {K : PySem.W.Frag} {mg : Str → Option Value} {base : Heap} (T : Tx K mg) : Has P w K mg base 6 "law" ["_law_script"] g_law :=
  T.r_law.has sc_law rfl fun f cdv A outer s H E hr => (qs_cons (qset (i := 1) sc_law.nd rfl (qcall (q__law_hand T) (hr.mono (by decide)) takesQ (by rfl) (qa_cons (qv 0) qa_nil)))
    (qs_cons (qset (i := 2) sc_law.nd rfl (qcall (q__law_names T) (hr.mono (by decide)) takesQ (by rfl) (qa_cons (qv 1) (qa_cons qint qa_nil))))
    (qs_cons (qfor (vs := [3, 4, 6, 7, 8, 9, 10]) passesQ rfl (qi_range1 (by rfl) T.b_range (qa_cons qint qa_nil)) (qg_name (i := 3) sc_law.nd rfl) (qs_cons (qset (i := 4) sc_law.nd rfl (qixA hr.units (qlst (qa_cons (qadd qint (qcall (q__law_draw T) (hr.mono (by decide)) takesQ (by rfl) (qa_cons (qv 1) (qa_cons qint qa_nil)))) (qa_cons (qadd qint (qcall (q__law_draw T) (hr.mono (by decide)) takesQ (by rfl) (qa_cons (qv 1) (qa_cons qint qa_nil)))) (qa_cons qint qa_nil)))) (qcall (q__law_draw T) (hr.mono (by decide)) takesQ (by rfl) (qa_cons (qv 1) (qa_cons qint qa_nil)))))
    (qs_cons (qsetLc (i := 5) (own := [("_law_name", 11)]) (.inr rfl) rfl sc_law.nd rfl rfl (by rfl) (qi_list (qsl (qcall (q__law_shuffled T) (hr.mono (by decide)) takesQ (by rfl) (qa_cons (qv 1) (qa_cons (qv 2) qa_nil))) qo_none (qo_some (qv 4)))) (blkOk_by (own := [("_law_name", 11)]) (N := N_law) (sc := defScope s_law) (by decide +kernel)) (fun _ _ _ _ _ => (qv_name (i := 11) sc_law.nd rfl (by decide))) (fun _ _ _ _ _ => qts_nil) (fun _ _ _ _ _ => (qtup (qa_cons (qv 11) (qa_cons (qcall (q__law_draw T) (hr.mono (by decide)) takesB (by rfl) (qa_cons (qv 1) (qa_cons (qadd (qpow qint qint) qint) qa_nil))) qa_nil)))))
    (qs_cons (qfor (vs := [6, 7]) passesQ rfl (qi_range1 (by rfl) T.b_range (qa_cons (qcall (q__law_draw T) (hr.mono (by decide)) takesQ (by rfl) (qa_cons (qv 1) (qa_cons qint qa_nil))) qa_nil)) (qg_name (i := 6) sc_law.nd rfl) (qs_cons (qset (i := 7) sc_law.nd rfl (qcall (q__law_draw T) (hr.mono (by decide)) takesQ (by rfl) (qa_cons (qv 1) (qa_cons (qlenA (by rfl) T.b_len (qa_cons (qv 5) qa_nil)) qa_nil))))
    (qs_one (qif (qt_val (qcall (q__law_is_item T) (hr.mono (by decide)) takesQ (by rfl) (qa_cons (qixA hr.units (qv 5) (qv 7)) qa_nil))) (qs_one (qasg (qcall (q__law_odd T) (hr.mono (by decide)) takesQ (by rfl) (qa_cons (qv 1) (qa_cons (qixA hr.units (qv 5) (qv 7)) (qa_cons (qv 2) qa_nil)))) (qg_subL (qv 5) (qv 7)))) qs_nil))))
    (qs_cons (qset (i := 8) sc_law.nd rfl (qcall (q__law_draw T) (hr.mono (by decide)) takesQ (by rfl) (qa_cons (qv 1) (qa_cons qint qa_nil))))
    (qs_cons (qif (tEqA hr.units (qv 8) qint) (qs_one (qset (i := 5) sc_law.nd rfl (qadd (qv 5) (qrep (qlstP (qa_cons (qtup (qa_cons qstr (qa_cons qint qa_nil))) qa_nil)) (qixA hr.units (qlst (qa_cons qint (qa_cons (qsub qint (qlenA (by rfl) T.b_len (qa_cons (qv 5) qa_nil))) qa_nil))) (qcall (q__law_draw T) (hr.mono (by decide)) takesQ (by rfl) (qa_cons (qv 1) (qa_cons qint qa_nil)))))))) qs_nil)
    (qs_cons (qif (tEqA hr.units (qv 8) qint) (qs_cons (qset (i := 9) sc_law.nd rfl (qlst (qa_cons (qtuple (by rfl) T.b_tuple (qa_cons (qv 5) qa_nil)) (qa_cons (qfrz (qdictP rfl (by rfl) T.b_dict (qa_cons (qlc (own := [("_law_name", 11)]) rfl sc_law.nd (qi_list (qv 2)) (blkOk_by (own := [("_law_name", 11)]) (N := N_law) (sc := defScope s_law) (by decide +kernel)) (fun _ _ _ _ _ => (qv_name (i := 11) sc_law.nd rfl (by decide))) (fun _ _ _ _ _ => qts_nil) (fun _ _ _ _ _ => (qtup (qa_cons (qv 11) (qa_cons qint qa_nil))))) qa_nil))) (qa_cons qnon (qa_cons qstr (qa_cons qint (qa_cons (qlst (qa_cons (qlst qa_nil) qa_nil)) (qa_cons (qlst qa_nil) qa_nil)))))))))
    (qs_one (qset (i := 5) sc_law.nd rfl (qixA hr.units (qadd (qadd (qv 9) (qlst (qa_cons (qrep (qslP (qv 5) qo_none (qo_some qint)) qint) qa_nil))) (qcall0 (q__law_great_things T) (hr.mono (by decide)) takesQ (by rfl))) (qcall (q__law_draw T) (hr.mono (by decide)) takesQ (by rfl) (qa_cons (qv 1) (qa_cons qint qa_nil))))))) qs_nil)
    (qs_cons (qfz (qset (i := 10) sc_law.nd rfl (qreprAK hr.gd hr.units (by rfl) T.b_repr (qa_cons (qv 5) qa_nil))))
    (qs_one (qif (qt_w (qw_or (qt_not (qt_val (qcall (q__law_alike T) (hr.mono (by decide)) takesQ (by rfl) (qa_cons (qcall (q__law_told T) (hr.mono (by decide)) takesQ (by rfl) (qa_cons (qv 5) qa_nil)) (qa_cons (qcall (q__law_due T) (hr.mono (by decide)) takesQ (by rfl) (qa_cons (qv 5) qa_nil)) qa_nil))))) (qw_or1 (tNe hr.units (qreprAK hr.gd hr.units (by rfl) T.b_repr (qa_cons (qv 5) qa_nil)) (qv 10))))) (qs_one (qret qbl)) qs_nil))))))))))
    (qs_one (qret (qeqA hr.units (qlc (own := [("_law_thing", 5)]) rfl sc_law.nd (qi_list (qlst (qa_cons (qfrz (qmake (q_Purses___init__ T) (hr.mono (by decide)) takesQ (by rfl) (qa_cons (qlst qa_nil) qa_nil))) (qa_cons (qfrz (qmake (q_Purses___init__ T) (hr.mono (by decide)) takesQ (by rfl) (qa_cons (qlst (qa_cons (qtup (qa_cons (qixA hr.units (qv 2) qint) (qa_cons qint qa_nil))) qa_nil)) qa_nil))) (qa_cons (qfrz (qmake (q_Lot___init__ T) (hr.mono (by decide)) takesQ (by rfl) (qa_cons (qlst qa_nil) qa_nil))) qa_nil))))) (blkOk_by (own := [("_law_thing", 5)]) (N := N_law) (sc := defScope s_law) (by decide +kernel)) (fun _ _ _ _ _ => (qv_name (i := 5) sc_law.nd rfl (by decide))) (fun _ _ _ _ _ => qts_nil) (fun _ _ _ _ _ => (qcall (q__law_told T) (hr.mono (by decide)) takesB (by rfl) (qa_cons (qv 5) qa_nil)))) (qrep (qlstP (qa_cons (qtup (qa_cons qstr (qa_cons qint qa_nil))) qa_nil)) qint)))))))
end QL
end
section
set_option Elab.async false
set_option linter.all false
set_option maxRecDepth 100000
set_option maxHeartbeats 4000000
set_option autoImplicit false
/-! HHand: what the law's hand of numbers does. -/
namespace QL
open PySem PySem.Spec L2
open Classical
/-- the hand: its cells, five numbers -/
def HD (c : List Int) (a1 a2 a3 a4 a5 : Int) : MO := .lst [.lst (c.map D.int), .int a1, .int a2, .int a3, .int a4, .int a5]
section
variable {M : Mem} {h : Nat} {c : List Int} {a1 a2 a3 a4 a5 x : Int}
theorem set_self {X : MO} (hM : M[h]? = some X) : M.set h X = M := by
  apply List.ext_getElem?
  intro i
  rw [List.getElem?_set]
  split
  · rename_i e
    subst e
    rw [if_pos (List.getElem?_eq_some_iff.mp hM).1, hM]
  · rfl
theorem getset {X : MO} (hh : h < M.length) : (M.set h X)[h]? = some X := List.getElem?_set_self hh
theorem ixh {i : Int} {d : D} (hh : h < M.length) (hd : L2.atI [.lst (c.map D.int), .int a1, .int a2, .int a3, .int a4, .int a5] i = some d) : fIxA (.ptr h) (.int i) (M.set h (HD c a1 a2 a3 a4 a5)) = .ok d (M.set h (HD c a1 a2 a3 a4 a5)) := by
  have hM := getset (X := HD c a1 a2 a3 a4 a5) hh
  unfold HD at hM ⊢
  simp [fIxA, or2, orR, fDIx, look, asK, asTt, fIx, asL, hM, hd]
theorem ixh0 (hh : h < M.length) : fIxA (.ptr h) (.int 0) (M.set h (HD c a1 a2 a3 a4 a5)) = .ok (.lst (c.map D.int)) (M.set h (HD c a1 a2 a3 a4 a5)) := ixh hh rfl
theorem ixh1 (hh : h < M.length) : fIxA (.ptr h) (.int 1) (M.set h (HD c a1 a2 a3 a4 a5)) = .ok (.int a1) (M.set h (HD c a1 a2 a3 a4 a5)) := ixh hh rfl
theorem ixh2 (hh : h < M.length) : fIxA (.ptr h) (.int 2) (M.set h (HD c a1 a2 a3 a4 a5)) = .ok (.int a2) (M.set h (HD c a1 a2 a3 a4 a5)) := ixh hh rfl
theorem ixh3 (hh : h < M.length) : fIxA (.ptr h) (.int 3) (M.set h (HD c a1 a2 a3 a4 a5)) = .ok (.int a3) (M.set h (HD c a1 a2 a3 a4 a5)) := ixh hh rfl
theorem ixh4 (hh : h < M.length) : fIxA (.ptr h) (.int 4) (M.set h (HD c a1 a2 a3 a4 a5)) = .ok (.int a4) (M.set h (HD c a1 a2 a3 a4 a5)) := ixh hh rfl
theorem ixh5 (hh : h < M.length) : fIxA (.ptr h) (.int 5) (M.set h (HD c a1 a2 a3 a4 a5)) = .ok (.int a5) (M.set h (HD c a1 a2 a3 a4 a5)) := ixh hh rfl
theorem seth {i : Int} {n : Nat} {d : D} {ds : List D} (hh : h < M.length) (hn : ixN ds.length i = some n) : lset (.ptr h) (.int i) d (M.set h (.lst ds)) = some (M.set h (.lst (ds.set n d))) := by
  simp [lset, getset hh, hn]
theorem seth1 (hh : h < M.length) : lset (.ptr h) (.int 1) (.int x) (M.set h (HD c a1 a2 a3 a4 a5)) = some (M.set h (HD c x a2 a3 a4 a5)) := by unfold HD; exact seth (n := 1) hh rfl
theorem seth2 (hh : h < M.length) : lset (.ptr h) (.int 2) (.int x) (M.set h (HD c a1 a2 a3 a4 a5)) = some (M.set h (HD c a1 x a3 a4 a5)) := by unfold HD; exact seth (n := 2) hh rfl
theorem seth3 (hh : h < M.length) : lset (.ptr h) (.int 3) (.int x) (M.set h (HD c a1 a2 a3 a4 a5)) = some (M.set h (HD c a1 a2 x a4 a5)) := by unfold HD; exact seth (n := 3) hh rfl
theorem seth4 (hh : h < M.length) : lset (.ptr h) (.int 4) (.int x) (M.set h (HD c a1 a2 a3 a4 a5)) = some (M.set h (HD c a1 a2 a3 x a5)) := by unfold HD; exact seth (n := 4) hh rfl
theorem seth5 (hh : h < M.length) : lset (.ptr h) (.int 5) (.int x) (M.set h (HD c a1 a2 a3 a4 a5)) = some (M.set h (HD c a1 a2 a3 a4 x)) := by unfold HD; exact seth (n := 5) hh rfl
theorem asLh (hh : h < M.length) : asL (M.set h (HD c a1 a2 a3 a4 a5)) (.ptr h) = some [.lst (c.map D.int), .int a1, .int a2, .int a3, .int a4, .int a5] := by
  simp [asL, getset hh, HD]
theorem log_le {z : Int} {k : Nat} (h0 : 0 ≤ z) (h1 : z < 2 ^ k) (hk : 0 < k) : z.natAbs.log2 < k := by
  by_cases z0 : z.natAbs = 0
  · rw [z0]; simpa using hk
  · refine (Nat.log2_lt z0).mpr ?_
    have e : ((z.natAbs : Nat) : Int) = z := Int.natAbs_of_nonneg h0
    have : ((z.natAbs : Nat) : Int) < ((2 ^ k : Nat) : Int) := by rw [e]; push_cast; exact h1
    exact Int.ofNat_lt.mp this
theorem mulW {u v : Int} {k l : Nat} (hu : 0 ≤ u ∧ u < 2 ^ k) (hv : 0 ≤ v ∧ v < 2 ^ l) (hk : 0 < k) (hl : 0 < l) (hkl : k + l ≤ 1000000) : CMulW u v := by
  have := log_le hu.1 hu.2 hk
  have := log_le hv.1 hv.2 hl
  unfold CMulW
  omega
theorem step_eq (hh : h < M.length) (h4 : 0 ≤ a4 ∧ a4 < 2 ^ 32) (h5 : 0 ≤ a5 ∧ a5 < 2 ^ 32) :
    g__law_step [.ptr h] (M.set h (HD c a1 a2 a3 a4 a5)) = .ok (.int (a4 * 48271 % 2147483647 + a5 * 40692 % 2147483399)) (M.set h (HD c a1 a2 a3 (a4 * 48271 % 2147483647) (a5 * 40692 % 2147483399))) := by
  have m4 : CMulW a4 48271 := mulW (k := 32) (l := 32) h4 (by decide) (by decide) (by decide) (by decide)
  have m5 : CMulW a5 40692 := mulW (k := 32) (l := 32) h5 (by decide) (by decide) (by decide) (by decide)
  simp [g__law_step, runF_ap, t__law_step, ixh4 hh, ixh5 hh, seth4 hh, seth5 hh, fMul_i m4, fMul_i m5, fMod_i, settle_ok]
/-- what holds of the five numbers -/
def Hok (a1 a2 a3 a4 a5 : Int) : Prop := 0 ≤ a1 ∧ 0 ≤ a2 ∧ 0 ≤ a3 ∧ (0 ≤ a4 ∧ a4 < 2 ^ 32) ∧ (0 ≤ a5 ∧ a5 < 2 ^ 32)
theorem take1 (hh : h < M.length) (h1 : 0 ≤ a1) : ∃ cell : Int, 0 ≤ cell ∧ t__law_take_1 [some (.ptr h), some (.int 0)] (M.set h (HD c a1 a2 a3 a4 a5)) = .nx [some (.ptr h), some (.int cell)] (M.set h (HD c a1 a2 a3 a4 a5)) := by
  unfold t__law_take_1
  by_cases hl : a1 < c.length
  · obtain ⟨n, rfl⟩ := Int.eq_ofNat_of_zero_le h1
    have hn : n < c.length := by exact_mod_cast hl
    have e : (c.map D.int)[n]? = some (.int c[n]) := by simp [hn]
    refine ⟨if c[n] < 0 then -c[n] else c[n], by split <;> omega, ?_⟩
    simp [ixh0 hh, ixh1 hh, hn, fIxA_l e, bAbs]
  · refine ⟨0, by omega, ?_⟩
    simp [ixh0 hh, ixh1 hh, hl]
theorem take2 (hh : h < M.length) {cell : Int} (h2 : 0 ≤ a2) (h3 : 0 ≤ a3) : ∃ b2 b3 : Int, 0 ≤ b2 ∧ 0 ≤ b3 ∧ (0 < b2 ∨ 0 < b3) ∧ t__law_take_2 [some (.ptr h), some (.int cell)] (M.set h (HD c a1 a2 a3 a4 a5)) = .nx [some (.ptr h), some (.int cell)] (M.set h (HD c a1 b2 b3 a4 a5)) := by
  unfold t__law_take_2
  by_cases hl : (10 : Int) ^ 18 ≤ cell
  · refine ⟨cell, a3, by omega, h3, .inl (by omega), ?_⟩
    have hl' : (1000000000000000000 : Int) ≤ cell := by omega
    simp [fPow, hl', seth2 hh]
  · refine ⟨a2, 7, h2, by omega, .inr (by omega), ?_⟩
    have hl' : ¬ (1000000000000000000 : Int) ≤ cell := by omega
    simp [fPow, hl', seth3 hh]
theorem atI1 {d : D} : L2.atI [d, .int a1, .int a2, .int a3, .int a4, .int a5] 1 = some (.int a1) := rfl
theorem atI3 {d : D} : L2.atI [d, .int a1, .int a2, .int a3, .int a4, .int a5] 3 = some (.int a3) := rfl
theorem aug1 {S : Sl} (hh : h < M.length) (hS : S[0]? = some (some (.ptr h))) : kLAug (eVar 0) (eC (.int 1)) (eC (.int x)) (fun i j => i + j) S (M.set h (HD c a1 a2 a3 a4 a5)) = .nx S (M.set h (HD c (a1 + x) a2 a3 a4 a5)) := by
  rw [kLAug_at (d := .ptr h) (j := 1) (by simp [hS]) rfl (asLh hh) atI1]
  simp [seth1 hh]
theorem aug3 {S : Sl} (hh : h < M.length) (hS : S[0]? = some (some (.ptr h))) : kLAug (eVar 0) (eC (.int 3)) (eC (.int x)) (fun i j => i - j) S (M.set h (HD c a1 a2 a3 a4 a5)) = .nx S (M.set h (HD c a1 a2 (a3 - x) a4 a5)) := by
  rw [kLAug_at (d := .ptr h) (j := 3) (by simp [hS]) rfl (asLh hh) atI3]
  simp [seth3 hh]
theorem take_eq (hh : h < M.length) (ok : Hok a1 a2 a3 a4 a5) :
    ∃ b1 b2 b3 b4 b5, g__law_take [.ptr h] (M.set h (HD c a1 a2 a3 a4 a5)) = .ok .non (M.set h (HD c b1 b2 b3 b4 b5)) ∧ Hok b1 b2 b3 b4 b5 ∧ (0 < b2 ∨ 0 < b3) := by
  obtain ⟨h1, h2, h3, h4, h5⟩ := ok
  obtain ⟨cell, hc0, e1⟩ := take1 (a2 := a2) (a3 := a3) (a4 := a4) (a5 := a5) (c := c) hh h1
  obtain ⟨b2, b3, k2, k3, k23, e2'⟩ := take2 (a1 := a1 + 1) (a4 := a4) (a5 := a5) (c := c) (cell := cell) hh h2 h3
  have u4 : 0 ≤ (a4 + cell % 2147483587) % 2147483646 + 1 ∧ (a4 + cell % 2147483587) % 2147483646 + 1 < 2 ^ 32 := by omega
  have u5 : 0 ≤ (a5 * 3 + cell % 1000003) % 2147483398 + 1 ∧ (a5 * 3 + cell % 1000003) % 2147483398 + 1 < 2 ^ 32 := by omega
  have m5 : CMulW a5 3 := mulW (k := 32) (l := 32) h5 (by decide) (by decide) (by decide) (by decide)
  have s1 := step_eq (a1 := a1 + 1) (a2 := b2) (a3 := b3) (c := c) hh u4 u5
  have v4 : 0 ≤ ((a4 + cell % 2147483587) % 2147483646 + 1) * 48271 % 2147483647 ∧ ((a4 + cell % 2147483587) % 2147483646 + 1) * 48271 % 2147483647 < 2 ^ 32 := by omega
  have v5 : 0 ≤ ((a5 * 3 + cell % 1000003) % 2147483398 + 1) * 40692 % 2147483399 ∧ ((a5 * 3 + cell % 1000003) % 2147483398 + 1) * 40692 % 2147483399 < 2 ^ 32 := by omega
  have s2 := step_eq (a1 := a1 + 1) (a2 := b2) (a3 := b3) (c := c) hh v4 v5
  refine ⟨a1 + 1, b2, b3, ((a4 + cell % 2147483587) % 2147483646 + 1) * 48271 % 2147483647 * 48271 % 2147483647, ((a5 * 3 + cell % 1000003) % 2147483398 + 1) * 40692 % 2147483399 * 40692 % 2147483399, ?_, ⟨by omega, k2, k3, by omega, by omega⟩, k23⟩
  simp [g__law_take, runF_ap, t__law_take, e1, aug1 hh, e2', ixh4 hh, ixh5 hh, seth4 hh, seth5 hh, fMul_i m5, fMod_i, s1, s2, settle_ok]
theorem draw4 {n0 : Nat} {t v z : Int} {d : Option D} {N : Mem} (h : t ≤ z) : t__law_draw_4 [some (.ptr n0), some (.int t), d, some (.int v), some (.int z)] N = .nx [some (.ptr n0), some (.int t), d, some (.int v), some (.int z)] N := by
  unfold t__law_draw_4
  rw [kWhile_eq]
  have e : decide (z < t) = false := decide_eq_false (by omega)
  simp [e, Res.thn]
theorem draw1 (hh : h < M.length) (ok : Hok a1 a2 a3 a4 a5) {S : Sl} (hS : S[0]? = some (some (.ptr h))) :
    ∃ b1 b2 b3 b4 b5, t__law_draw_1 S (M.set h (HD c a1 a2 a3 a4 a5)) = .nx S (M.set h (HD c b1 b2 b3 b4 b5)) ∧ Hok b1 b2 b3 b4 b5 ∧ (0 < b2 ∨ 0 < b3) := by
  unfold t__law_draw_1
  by_cases e2' : a2 = 0
  · by_cases e3 : a3 = 0
    · subst e2'
      subst e3
      obtain ⟨b1, b2, b3, b4, b5, q, ok', k⟩ := take_eq (c := c) hh ok
      exact ⟨b1, b2, b3, b4, b5, by simp [hS, ixh2 hh, ixh3 hh, q], ok', k⟩
    · exact ⟨a1, a2, a3, a4, a5, by simp [hS, ixh2 hh, ixh3 hh, e2', e3], ok, .inr (by have := ok.2.2.1; omega)⟩
  · exact ⟨a1, a2, a3, a4, a5, by simp [hS, ixh2 hh, ixh3 hh, e2'], ok, .inl (by have := ok.2.1; omega)⟩
/-- a draw of one of t, t at most 2 ** 32 -/
theorem draw_HD (hh : h < M.length) (ok : Hok a1 a2 a3 a4 a5) {t : Int} (t0 : 0 < t) (t1 : t ≤ 4294967296) :
    ∃ r b1 b2 b3 b4 b5, g__law_draw [.ptr h, .int t] (M.set h (HD c a1 a2 a3 a4 a5)) = .ok (.int r) (M.set h (HD c b1 b2 b3 b4 b5)) ∧ Hok b1 b2 b3 b4 b5 ∧ 0 ≤ r ∧ r < t := by
  obtain ⟨b1, b2, b3, b4, b5, e1, ⟨k1, k2, k3, k4, k5⟩, k⟩ := draw1 (c := c) hh ok (S := [some (.ptr h), some (.int t), none, none, none]) rfl
  have dv : CDivW b2 t := ⟨t0, by have := log_le (z := t) (k := 64) (by omega) (by omega) (by decide); omega⟩
  by_cases p2 : 0 < b2
  · refine ⟨b2 % t, b1, b2 / t, b3, b4, b5, ?_, ⟨k1, Int.ediv_nonneg k2 (by omega), k3, k4, k5⟩, Int.emod_nonneg _ (by omega), Int.emod_lt_of_pos _ t0⟩
    simp [g__law_draw, runF_ap, t__law_draw, e1, t__law_draw_2, ixh2 hh, p2, fMod_i t0, fDiv_i dv, seth2 hh, settle_ok]
  · have z2 : b2 = 0 := by omega
    have s1 := step_eq (a1 := b1) (a2 := 0) (a3 := b3 - 1) (c := c) hh k4 k5
    refine ⟨(b4 * 48271 % 2147483647 + b5 * 40692 % 2147483399) % t, b1, 0, b3 - 1, b4 * 48271 % 2147483647, b5 * 40692 % 2147483399, ?_, ⟨k1, Int.le_refl _, by omega, by omega, by omega⟩, Int.emod_nonneg _ (by omega), Int.emod_lt_of_pos _ t0⟩
    subst z2
    simp [g__law_draw, runF_ap, t__law_draw, e1, t__law_draw_2, ixh2 hh, aug3 hh, s1, draw4 t1, fMod_i t0, settle_ok]
/-- a hand that stands well -/
def Hand (mo : MO) : Prop := ∃ c a1 a2 a3 a4 a5, mo = HD c a1 a2 a3 a4 a5 ∧ Hok a1 a2 a3 a4 a5
theorem draw_eq {mo : MO} (hh : h < M.length) (hm : Hand mo) {t : Int} (t0 : 0 < t) (t1 : t ≤ 4294967296) :
    ∃ r mo', Hand mo' ∧ 0 ≤ r ∧ r < t ∧ g__law_draw [.ptr h, .int t] (M.set h mo) = .ok (.int r) (M.set h mo') := by
  obtain ⟨c, a1, a2, a3, a4, a5, rfl, ok⟩ := hm
  obtain ⟨r, b1, b2, b3, b4, b5, e, ok', r0, r1⟩ := draw_HD (c := c) hh ok t0 t1
  exact ⟨r, _, ⟨c, b1, b2, b3, b4, b5, rfl, ok'⟩, r0, r1, e⟩
end
end QL
end
section
set_option Elab.async false
set_option linter.all false
set_option maxRecDepth 100000
set_option maxHeartbeats 1000000
set_option autoImplicit false
/-! HBig: draws of one of very many. -/
namespace QL
open PySem PySem.Spec L2
open Classical
section
variable {M : Mem} {h : Nat} {c : List Int} {a1 a2 a3 a4 a5 : Int}
theorem draw4b (hh : h < M.length) {t : Int} {d : Option D} : ∀ (n : Nat) (z v a4 a5 : Int), 0 < z → z * 4294967296 ^ n ≤ 2 ^ 160 → t ≤ z * 4294967296 ^ n → 0 ≤ v → v < 2 ^ 33 * z → (0 ≤ a4 ∧ a4 < 2 ^ 32) → (0 ≤ a5 ∧ a5 < 2 ^ 32) →
    ∃ v' z' b4 b5 : Int, 0 ≤ v' ∧ (0 ≤ b4 ∧ b4 < 2 ^ 32) ∧ (0 ≤ b5 ∧ b5 < 2 ^ 32) ∧ t__law_draw_4 [some (.ptr h), some (.int t), d, some (.int v), some (.int z)] (M.set h (HD c a1 a2 a3 a4 a5)) = .nx [some (.ptr h), some (.int t), d, some (.int v'), some (.int z')] (M.set h (HD c a1 a2 a3 b4 b5))
  | n, z, v, a4, a5, z0, zn, tz, v0, vz, h4, h5 => by
    by_cases le : t ≤ z
    · exact ⟨v, z, a4, a5, v0, h4, h5, draw4 le⟩
    · match n with
      | 0 => rw [Int.pow_zero, Int.mul_one] at tz; exact absurd tz le
      | n + 1 =>
        have pz : z * 4294967296 ^ (n + 1) = z * 4294967296 * 4294967296 ^ n := by rw [Int.pow_succ, Int.mul_comm (4294967296 ^ n) 4294967296, Int.mul_assoc]
        rw [pz] at zn tz
        have p1 : (1 : Int) ≤ 4294967296 ^ n := Int.add_one_le_of_lt (Int.pow_pos (by decide))
        have zb : z * 4294967296 ≤ 2 ^ 160 := Int.le_trans (by
          have := Int.mul_le_mul_of_nonneg_left p1 (show 0 ≤ z * 4294967296 by omega)
          rw [Int.mul_one] at this
          exact this) zn
        have vb : v < 2 ^ 200 := by omega
        have m1 : CMulW v 4294967296 := mulW (k := 200) (l := 64) ⟨v0, vb⟩ (by decide) (by decide) (by decide) (by decide)
        have m2 : CMulW z 4294967296 := mulW (k := 200) (l := 64) ⟨by omega, by omega⟩ (by decide) (by decide) (by decide) (by decide)
        have s1 := step_eq (a1 := a1) (a2 := a2) (a3 := a3) (c := c) hh h4 h5
        obtain ⟨v', z', b4, b5, w0, w4, w5, e⟩ := draw4b hh n (z * 4294967296) (v * 4294967296 + (a4 * 48271 % 2147483647 + a5 * 40692 % 2147483399)) (a4 * 48271 % 2147483647) (a5 * 40692 % 2147483399) (by omega) zn tz (by omega) (by omega) (by omega) (by omega)
        refine ⟨v', z', b4, b5, w0, w4, w5, ?_⟩
        unfold t__law_draw_4 at e ⊢
        rw [kWhile_eq]
        have lt : decide (z < t) = true := decide_eq_true (by omega)
        simp only [bV_ap, e2_ap, eVar_ap, List.getElem?_cons_succ, List.getElem?_cons_zero, vR_some, s2_ok, s3_ok, fLt_i, lt, bR_ok]
        show (match b__law_draw_3 [some (.ptr h), some (.int t), d, some (.int v), some (.int z)] (M.set h (HD c a1 a2 a3 a4 a5)) with | .nx S2 M2 => _ | .ct S2 M2 => _ | .bk S2 M2 => _ | r => r) = _
        have b : b__law_draw_3 [some (.ptr h), some (.int t), d, some (.int v), some (.int z)] (M.set h (HD c a1 a2 a3 a4 a5)) = .nx [some (.ptr h), some (.int t), d, some (.int (v * 4294967296 + (a4 * 48271 % 2147483647 + a5 * 40692 % 2147483399))), some (.int (z * 4294967296))] (M.set h (HD c a1 a2 a3 (a4 * 48271 % 2147483647) (a5 * 40692 % 2147483399))) := by
          unfold b__law_draw_3
          simp only [kSeq_ap, kAsg_ap, e2_ap, eVar_ap, List.getElem?_cons_succ, List.getElem?_cons_zero, vR_some, s2_ok, eC_ap, s3_ok, fMul_i m1, eCall_ap, aCons_ap, c1_ok, aNil_ap, c2_ok, cR_ok, s1, fAdd_i, asR_ok, gN_ap, stR_ok, thn_nx, List.set_cons_succ, List.set_cons_zero, fMul_i m2]
        rw [b]
        exact e
theorem draw_HDb (hh : h < M.length) (ok : Hok a1 a2 a3 a4 a5) {t : Int} (t0 : 0 < t) (t1 : t ≤ 2 ^ 160) :
    ∃ r b1 b2 b3 b4 b5, g__law_draw [.ptr h, .int t] (M.set h (HD c a1 a2 a3 a4 a5)) = .ok (.int r) (M.set h (HD c b1 b2 b3 b4 b5)) ∧ Hok b1 b2 b3 b4 b5 ∧ 0 ≤ r ∧ r < t := by
  obtain ⟨b1, b2, b3, b4, b5, e1, ⟨k1, k2, k3, k4, k5⟩, k⟩ := draw1 (c := c) hh ok (S := [some (.ptr h), some (.int t), none, none, none]) rfl
  have dv : CDivW b2 t := ⟨t0, by have := log_le (z := t) (k := 161) (by omega) (by omega) (by decide); omega⟩
  by_cases p2 : 0 < b2
  · refine ⟨b2 % t, b1, b2 / t, b3, b4, b5, ?_, ⟨k1, Int.ediv_nonneg k2 (by omega), k3, k4, k5⟩, Int.emod_nonneg _ (by omega), Int.emod_lt_of_pos _ t0⟩
    simp [g__law_draw, runF_ap, t__law_draw, e1, t__law_draw_2, ixh2 hh, p2, fMod_i t0, fDiv_i dv, seth2 hh, settle_ok]
  · have z2 : b2 = 0 := by omega
    have s1 := step_eq (a1 := b1) (a2 := 0) (a3 := b3 - 1) (c := c) hh k4 k5
    obtain ⟨v', z', c4, c5, w0, w4, w5, e4⟩ := draw4b (a1 := b1) (a2 := 0) (a3 := b3 - 1) (c := c) hh (t := t) (d := none) 4 4294967296 (b4 * 48271 % 2147483647 + b5 * 40692 % 2147483399) (b4 * 48271 % 2147483647) (b5 * 40692 % 2147483399) (by decide) (by decide) (Int.le_trans t1 (by decide)) (by omega) (by omega) (by omega) (by omega)
    refine ⟨v' % t, b1, 0, b3 - 1, c4, c5, ?_, ⟨k1, Int.le_refl _, by omega, by omega, by omega⟩, Int.emod_nonneg _ (by omega), Int.emod_lt_of_pos _ t0⟩
    subst z2
    simp [g__law_draw, runF_ap, t__law_draw, e1, t__law_draw_2, ixh2 hh, aug3 hh, s1, e4, fMod_i t0, settle_ok]
/-- a draw of one of t, t at most 2 ** 160 -/
theorem draw_big {mo : MO} (hh : h < M.length) (hm : Hand mo) {t : Int} (t0 : 0 < t) (t1 : t ≤ 2 ^ 160) :
    ∃ r mo', Hand mo' ∧ 0 ≤ r ∧ r < t ∧ g__law_draw [.ptr h, .int t] (M.set h mo) = .ok (.int r) (M.set h mo') := by
  obtain ⟨c, a1, a2, a3, a4, a5, rfl, ok⟩ := hm
  obtain ⟨r, b1, b2, b3, b4, b5, e, ok', r0, r1⟩ := draw_HDb (c := c) hh ok t0 t1
  exact ⟨r, _, ⟨c, b1, b2, b3, b4, b5, rfl, ok'⟩, r0, r1, e⟩
theorem draw1b {mo : MO} {J : Mem} (hm : Hand mo) {t : Int} (t0 : 0 < t) (t1 : t ≤ 2 ^ 160) : ∃ r mo', Hand mo' ∧ 0 ≤ r ∧ r < t ∧ g__law_draw [.ptr 0, .int t] (mo :: J) = .ok (.int r) (mo' :: J) := by
  obtain ⟨r, mo', hm', r0, r1, e⟩ := draw_big (M := mo :: J) (h := 0) (by simp) hm t0 t1
  exact ⟨r, mo', hm', r0, r1, e⟩
end
end QL
end
section
set_option Elab.async false
set_option linter.all false
set_option maxRecDepth 100000
set_option maxHeartbeats 4000000
set_option autoImplicit false
/-! HNames: the law's names. -/
namespace QL
open PySem PySem.Spec L2
open Classical
def ltr (n : Nat) : Str := ⟨#[97 + n]⟩
theorem ltrs_eq : ("abcdefghijklmnopqrstuvwxyz" : Str).cps.toList = (List.range 26).map (97 + ·) := by decide +kernel
theorem ix_ltr {M : Mem} {n : Nat} (h : n < 26) : fIxA (.str "abcdefghijklmnopqrstuvwxyz") (.int (n : Nat)) M = .ok (.str (ltr n)) M := by
  have e : L2.atI ("abcdefghijklmnopqrstuvwxyz" : Str).cps.toList ((n : Nat) : Int) = some (97 + n) := by
    rw [ltrs_eq]
    unfold L2.atI ixN
    rw [if_pos (Int.natCast_nonneg n), if_pos (by simp; omega)]
    simp [h]
  have z : ("abcdefghijklmnopqrstuvwxyz" : Str).length ≤ sizeLine := small (by decide)
  simp [fIxA, or2, orR, fDIx, look, asK, asTt, fIx, z, e, ltr]
def WORDS : List Str := ["join", "give", "wish", "withdraw", "meet", "undo", "redo", "purses", "lot", "choices", "plan", "room", "left", "could", "yes", "no", "ok", "a", "b", "ab", "ba", "aa", "z", "zz"]
theorem words_eq : Txt.split (("join give wish withdraw meet undo redo purses lot choices plan room left could yes no ok" : Str) ++ (" a b ab ba aa z zz" : Str)) " " = WORDS := by decide +kernel
/-- a name: one to eight small letters -/
def NmOk (x : Str) : Prop := 1 ≤ x.length ∧ x.length ≤ 8 ∧ ∀ c ∈ x.cps.toList, 97 ≤ c ∧ c < 123
theorem words_ok : ∀ x ∈ WORDS, NmOk x := by
  have h : ∀ x ∈ WORDS, (1 ≤ x.length ∧ x.length ≤ 8) ∧ (x.cps.toList.all fun c => decide (97 ≤ c) && decide (c < 123)) = true := by decide +kernel
  intro x hx
  obtain ⟨⟨h1, h2⟩, h3⟩ := h x hx
  refine ⟨h1, h2, fun c hc => ?_⟩
  have := List.all_eq_true.mp h3 c hc
  simpa using this
theorem words_nd : WORDS.Nodup := by decide +kernel
theorem cps_app (a b : Str) : (a ++ b).cps.toList = a.cps.toList ++ b.cps.toList := by
  show (a.cps ++ b.cps).toList = _
  rw [Array.toList_append]
theorem len_cps (a : Str) : a.length = a.cps.toList.length := by simp [Str.length]
theorem join_len {bs : List Str} (h : ∀ b ∈ bs, b.length = 1) : (Txt.join "" bs).length = bs.length := by
  have e : (bs.map (·.length)).sum = bs.length := by
    induction bs with
    | nil => rfl
    | cons b r ih =>
      rw [List.map_cons, List.sum_cons, h b List.mem_cons_self, ih fun x hx => h x (List.mem_cons_of_mem _ hx), List.length_cons]
      omega
  show (Builtin.Str.glued "" bs).length = _
  rw [size_glued, e]
  show bs.length + (bs.length - 1) * 0 = bs.length
  omega
theorem join_mem {c : Nat} : ∀ {bs : List Str}, c ∈ (Txt.join "" bs).cps.toList → ∃ b ∈ bs, c ∈ b.cps.toList := by
  intro bs
  rw [show Txt.join "" bs = Str.join "" bs from StrLaws.glued_eq_join "" bs]
  induction bs with
  | nil => intro h; exact absurd h (by simp [Str.join, Str.empty])
  | cons x r ih =>
    intro h
    cases r with
    | nil => exact ⟨x, List.mem_cons_self, h⟩
    | cons y r =>
      have h' : c ∈ (x ++ "" ++ Str.join "" (y :: r)).cps.toList := h
      rw [cps_app, cps_app, List.mem_append, List.mem_append] at h'
      rcases h' with (h' | h') | h'
      · exact ⟨x, List.mem_cons_self, h'⟩
      · exact absurd h' (by simp [show ("" : Str).cps.toList = [] from rfl])
      · obtain ⟨b, hb, hc⟩ := ih h'
        exact ⟨b, List.mem_cons_of_mem _ hb, hc⟩
section
variable {M : Mem} {h : Nat}
/-- the first comprehension: one to seven letters -/
theorem base_eq {mo : MO} (hh : h < M.length) (hm : Hand mo) {many way turn : D} {ws : D} : ∃ (bs : List Str) (mo' : MO), Hand mo' ∧ 1 ≤ bs.length ∧ bs.length ≤ 7 ∧ (∀ b ∈ bs, ∃ n, n < 26 ∧ b = ltr n) ∧
    e__law_names_1 [some (.ptr h), some many, some (.str "abcdefghijklmnopqrstuvwxyz"), some ws, some way, some turn, none, none, none] (M.set h mo) = .ok (.lst (bs.map D.str)) (M.set h mo') := by
  obtain ⟨r, mo1, hm1, r0, r1, e1⟩ := draw_eq hh hm (t := 7) (by decide) (by decide)
  obtain ⟨n, rfl⟩ := Int.eq_ofNat_of_zero_le r0
  have n7 : n < 7 := by exact_mod_cast r1
  obtain ⟨ys, mo2, hm2, l2, y2, e2⟩ := lcL_at (gd := fun _ => True) (fun _ => trivial) (g := gN 8) (b := bYes) (e := e2 fIxA (eVar 2) (eCall g__law_draw (aCons (eVar 0) (aCons (eC (.int 26)) aNil))))
    (S0 := [some (.ptr h), some many, some (.str "abcdefghijklmnopqrstuvwxyz"), some ws, some way, some turn, none, none, none]) (P := Hand) (Y := fun d => ∃ n, n < 26 ∧ d = .str (ltr n)) (M := M) (h := h)
    (rangeD 0 (1 + n)) [] mo1 (by rw [rangeD_len]; exact small (by simp; omega)) hm1 (fun d _ mo hm => by
      obtain ⟨r, mo', hm', r0, r1, e⟩ := draw_eq hh hm (t := 26) (by decide) (by decide)
      obtain ⟨k, rfl⟩ := Int.eq_ofNat_of_zero_le r0
      have k26 : k < 26 := by exact_mod_cast r1
      exact ⟨_, .str (ltr k), mo', hm', ⟨k, k26, rfl⟩, rfl, rfl, by simp [e, ix_ltr k26]⟩)
  have fs : ∀ ys : List D, (∀ y ∈ ys, ∃ n, n < 26 ∧ y = D.str (ltr n)) → ∃ bs : List Str, ys = bs.map D.str ∧ ∀ b ∈ bs, ∃ n, n < 26 ∧ b = ltr n := by
    intro ys
    induction ys with
    | nil => exact fun _ => ⟨[], rfl, by simp⟩
    | cons y r ih =>
      intro hy
      obtain ⟨n, hn, e⟩ := hy y List.mem_cons_self
      obtain ⟨bs, e', hb⟩ := ih fun z hz => hy z (List.mem_cons_of_mem _ hz)
      refine ⟨ltr n :: bs, by rw [e, e']; rfl, fun b hb' => ?_⟩
      rcases List.mem_cons.mp hb' with q | q
      · exact ⟨n, hn, q⟩
      · exact hb b q
  obtain ⟨bs, rfl, hb⟩ := fs ys y2
  rw [List.length_map, rangeD_len] at l2
  refine ⟨bs, mo2, hm2, by omega, by omega, hb, ?_⟩
  unfold e__law_names_1
  have tn : ((1 : Int) + (n : Int)).toNat = 1 + n := by omega
  rw [eLc_ap]
  simp only [iRange1_ap, aCons_ap, e2_ap, eC_ap, s2_ok, eCall_ap, eVar_ap, List.getElem?_cons_zero, vR_some, c1_ok, c2_ok, aNil_ap, cR_ok, e1, s3_ok, fAdd_i]
  rw [i1R_ok (by omega) (by omega), lcR_ok, tn]
  have e2' := e2
  simp only [List.nil_append] at e2'
  show lcE (lcL (fun _ => True) (gN 8) bYes _ (kl [8] _) _ [] _) = _
  simp only [kl_cons, kl_nil, List.set_cons_succ, List.set_cons_zero]
  rw [e2']
  rfl
def jnR (v : EF) (S : Sl) (r : Res D) : Res D := r.bind fun d M1 => match d with
  | .str x => (v S M1).bind fun y M2 => match seqOf M2 y with
    | some ds => match strsOf ds with
      | some ys => if (ys.map (·.length)).sum + ys.length * x.length ≤ 16777216 then .ok (.str (Txt.join x ys)) M2 else .bad
      | none => .bad
    | none => .bad
  | _ => .bad
theorem eJoin_ap {o v : EF} {S : Sl} {M : Mem} : eJoin o v S M = jnR v S (o S M) := rfl
theorem eJoin_at {o v : EF} {S : Sl} {M M1 M2 : Mem} {x : Str} {ys : List Str} (h1 : o S M = .ok (.str x) M1) (h2 : v S M1 = .ok (.lst (ys.map D.str)) M2) (h3 : (ys.map (·.length)).sum + ys.length * x.length ≤ 16777216) : eJoin o v S M = .ok (.str (Txt.join x ys)) M2 := by
  rw [eJoin_ap, h1]
  show (v S M1).bind _ = _
  rw [h2]
  simp [Res.bind, seqOf, asL, strsOf_map, h3]
theorem eSplit_at {o v : EF} {S : Sl} {M M1 M2 : Mem} {x b : Str} (h1 : o S M = .ok (.str x) M1) (h2 : v S M1 = .ok (.str b) M2) (h3 : (b.length == 0) = false) (h4 : x.length + 2 ≤ sizeLine) : eSplit o v S M = .ok (.lst ((Txt.split x b).map D.str)) M2 := by
  unfold eSplit
  rw [h1]
  show (v S M1).bind _ = _
  rw [h2]
  show (if (b.length == 0) = false ∧ x.length + 2 ≤ sizeLine then _ else _) = _
  rw [if_pos ⟨h3, h4⟩]
theorem words_at {S : Sl} {M : Mem} (hS : S[3]? = some (some (.str "join give wish withdraw meet undo redo purses lot choices plan room left could yes no ok"))) :
    eSplit (e2 fAdd (eVar 3) (eC (.str " a b ab ba aa z zz"))) (eC (.str " ")) S M = .ok (.lst (WORDS.map D.str)) M := by
  have z : ("join give wish withdraw meet undo redo purses lot choices plan room left could yes no ok" : Str).length + (" a b ab ba aa z zz" : Str).length ≤ sizeLine := by rw [sizeLine_eq]; decide +kernel
  rw [eSplit_at (x := ("join give wish withdraw meet undo redo purses lot choices plan room left could yes no ok" : Str) ++ (" a b ab ba aa z zz" : Str)) (b := " ") (M1 := M) (M2 := M) (by simp [hS, z]) rfl (by decide +kernel) (by rw [sizeLine_eq]; decide +kernel), words_eq]
theorem map_ranges {m : Nat} (F : Nat → Str) : (rangeD 0 m).filterMap (fun d => match d with | .int i => some (D.str (F i.toNat)) | _ => none) = ((List.range m).map F).map D.str := by
  unfold rangeD
  rw [List.filterMap_map, List.map_map, ← List.filterMap_eq_map]
  congr 1
  funext x
  simp
theorem nodup_map {m : Nat} {F : Nat → Str} (h : ∀ i j, i < m → j < m → F i = F j → i = j) : ((List.range m).map F).Nodup := by
  refine List.pairwise_map.mpr ((List.nodup_range (n := m)).imp_of_mem fun {a b} ha hb ne e => ne (h a b (List.mem_range.mp ha) (List.mem_range.mp hb) e))
theorem mem_rangeD {m : Nat} {d : D} (h : d ∈ rangeD 0 m) : ∃ k, k < m ∧ d = .int (k : Nat) := by
  unfold rangeD at h
  obtain ⟨k, hk, e⟩ := List.mem_map.mp h
  exact ⟨k, List.mem_range.mp hk, by rw [← e]; simp⟩
section
variable {M : Mem} {S : Sl}
/-- way 1: single letters -/
theorem way1_eq {m tn : Nat} (hm : m ≤ 26) (ht : tn < 24) (h1 : S[1]? = some (some (.int (m : Nat)))) (h2 : S[2]? = some (some (.str "abcdefghijklmnopqrstuvwxyz"))) (h5 : S[5]? = some (some (.int (tn : Nat)))) (h8 : S.length = 9) :
    e__law_names_3 S M = .ok (.lst (((List.range m).map fun k => ltr ((tn + 3 * k) % 26)).map D.str)) M := by
  unfold e__law_names_3
  rw [eLc_ap]
  simp only [iRange1_ap, aCons_ap, eVar_ap, h1, vR_some, c1_ok, c2_ok, aNil_ap]
  rw [i1R_ok (by omega) (by omega), lcR_ok, Int.toNat_natCast]
  have g1 : ∀ (o : Option D) (i : Nat), i ≠ 8 → (S.set 8 o)[i]? = S[i]? := fun o i hi => by rw [List.getElem?_set_ne (Ne.symm hi)]
  rw [lcL_map (gd := Its.gd ⟨rangeD 0 m, none⟩) trivial (fun d => match d with | .int i => some (D.str (ltr ((tn + 3 * i.toNat) % 26))) | _ => none) (rangeD 0 m) [] (by rw [rangeD_len]; exact small (by simp; omega)) fun d hd => by
    obtain ⟨k, hk, rfl⟩ := mem_rangeD hd
    refine ⟨(kl [8] S).set 8 (some (.int (k : Nat))), rfl, rfl, ?_⟩
    have mm : CMulW 3 (k : Int) := mulW (k := 8) (l := 8) (by decide) (by constructor <;> omega) (by decide) (by decide) (by decide)
    have e8 : ((kl [8] S).set 8 (some (D.int (k : Nat))))[8]? = some (some (D.int (k : Nat))) := List.getElem?_set_self (by simp [h8])
    have e2 : ((kl [8] S).set 8 (some (D.int (k : Nat))))[2]? = some (some (.str "abcdefghijklmnopqrstuvwxyz")) := by simp [h2]
    have e5 : ((kl [8] S).set 8 (some (D.int (k : Nat))))[5]? = some (some (.int (tn : Nat))) := by simp [h5]
    have en : ((tn : Int) + 3 * (k : Int)) % 26 = (((tn + 3 * k) % 26 : Nat) : Int) := by omega
    have lt : (tn + 3 * k) % 26 < 26 := by omega
    simp only [e2_ap, eVar_ap, e2, e5, e8, vR_some, s2_ok, s3_ok, eC_ap, fMul_i mm, fAdd_i, fMod_i (show (0 : Int) < 26 by decide), en, ix_ltr lt]
    simp]
  rw [List.nil_append, map_ranges fun k => ltr ((tn + 3 * k) % 26)]
  rfl
theorem ltr_inj {a b : Nat} (h : ltr a = ltr b) : a = b := by
  unfold ltr at h
  injection h with h
  have := congrArg Array.toList h
  simp at this
  omega
theorem way1_nd {m tn : Nat} (hm : m ≤ 26) : ((List.range m).map fun k => ltr ((tn + 3 * k) % 26)).Nodup := nodup_map fun i j hi hj e => by
  have := ltr_inj e
  omega
def nm (b : Str) (at_ n : Nat) : Str := cutS b none (some (at_ : Int)) ++ ltr n ++ cutS b (some (at_ : Int)) none
theorem nm_cps (b : Str) (a n : Nat) : (nm b a n).cps.toList = b.cps.toList.take a ++ [97 + n] ++ b.cps.toList.drop a := by
  unfold nm
  rw [cps_app, cps_app, cutS_take (Int.natCast_nonneg a), cutS_drop (Int.natCast_nonneg a), Int.toNat_natCast]
  rfl
theorem nm_inj {b : Str} {a n k : Nat} (h : nm b a n = nm b a k) : n = k := by
  have e := congrArg (fun z => z.cps.toList) h
  simp only [nm_cps, List.append_assoc] at e
  have e2 := List.append_cancel_left e
  simp at e2
  exact e2
theorem nm_len (b : Str) (a n : Nat) : (nm b a n).length = b.length + 1 := by
  rw [len_cps, nm_cps, len_cps b]
  simp only [List.length_append, List.length_take, List.length_drop, List.length_singleton]
  omega
/-- way 2, 3: a letter within the base -/
theorem way2_eq {m tn a : Nat} {b : Str} (hm : m ≤ 26) (ht : tn < 24) (hb : b.length ≤ 7) (h1 : S[1]? = some (some (.int (m : Nat)))) (h2 : S[2]? = some (some (.str "abcdefghijklmnopqrstuvwxyz"))) (h5 : S[5]? = some (some (.int (tn : Nat)))) (h6 : S[6]? = some (some (.str b))) (h7 : S[7]? = some (some (.int (a : Nat)))) (h8 : S.length = 9) :
    e__law_names_5 S M = .ok (.lst (((List.range m).map fun k => nm b a ((tn + 3 * k) % 26)).map D.str)) M := by
  unfold e__law_names_5
  rw [eLc_ap]
  simp only [iRange1_ap, aCons_ap, eVar_ap, h1, vR_some, c1_ok, c2_ok, aNil_ap]
  rw [i1R_ok (by omega) (by omega), lcR_ok, Int.toNat_natCast]
  have zb : b.length ≤ sizeLine := small (by omega)
  rw [lcL_map (gd := Its.gd ⟨rangeD 0 m, none⟩) trivial (fun d => match d with | .int i => some (D.str (nm b a ((tn + 3 * i.toNat) % 26))) | _ => none) (rangeD 0 m) [] (by rw [rangeD_len]; exact small (by simp; omega)) fun d hd => by
    obtain ⟨k, hk, rfl⟩ := mem_rangeD hd
    refine ⟨(kl [8] S).set 8 (some (.int (k : Nat))), rfl, rfl, ?_⟩
    have mm : CMulW 3 (k : Int) := mulW (k := 8) (l := 8) (by decide) (by constructor <;> omega) (by decide) (by decide) (by decide)
    have e8 : ((kl [8] S).set 8 (some (D.int (k : Nat))))[8]? = some (some (D.int (k : Nat))) := List.getElem?_set_self (by simp [h8])
    have e2 : ((kl [8] S).set 8 (some (D.int (k : Nat))))[2]? = some (some (.str "abcdefghijklmnopqrstuvwxyz")) := by simp [h2]
    have e5 : ((kl [8] S).set 8 (some (D.int (k : Nat))))[5]? = some (some (.int (tn : Nat))) := by simp [h5]
    have e6 : ((kl [8] S).set 8 (some (D.int (k : Nat))))[6]? = some (some (.str b)) := by simp [h6]
    have e7 : ((kl [8] S).set 8 (some (D.int (k : Nat))))[7]? = some (some (.int (a : Nat))) := by simp [h7]
    have en : ((tn : Int) + 3 * (k : Int)) % 26 = (((tn + 3 * k) % 26 : Nat) : Int) := by omega
    have lt : (tn + 3 * k) % 26 < 26 := by omega
    have l1 : (cutS b none (some (a : Int))).length ≤ 7 := by
      rw [len_cps, cutS_take (Int.natCast_nonneg a), List.length_take, ← len_cps]
      omega
    have l2 : (cutS b (some (a : Int)) none).length ≤ 7 := by
      rw [len_cps, cutS_drop (Int.natCast_nonneg a), List.length_drop, ← len_cps]
      omega
    have l3 : (cutS b none (some (a : Int)) ++ ltr ((tn + 3 * k) % 26)).length ≤ 8 := by
      rw [len_cps, cps_app, List.length_append, ← len_cps, ← len_cps]
      have : (ltr ((tn + 3 * k) % 26)).length = 1 := rfl
      omega
    have z1 : (cutS b none (some (a : Int))).length + (ltr ((tn + 3 * k) % 26)).length ≤ sizeLine := small (by have : (ltr ((tn + 3 * k) % 26)).length = 1 := rfl; omega)
    have z2 : (cutS b none (some (a : Int)) ++ ltr ((tn + 3 * k) % 26)).length + (cutS b (some (a : Int)) none).length ≤ sizeLine := small (by omega)
    have f1 : ∀ lo hi, fSl (.str b) lo hi M = .ok (.str (cutS b lo hi)) M := fun lo hi => if_pos zb
    simp only [e2_ap, eVar_ap, e2, e5, e6, e7, e8, vR_some, s2_ok, s3_ok, eC_ap, fMul_i mm, fAdd_i, fMod_i (show (0 : Int) < 26 by decide), en, ix_ltr lt, eSl_ap, sl1_ok, sl2_ok, sl3_ok, oNone_ap, oSome_ap, soR_ok, f1, fAdd_s, if_pos z1, if_pos z2]
    simp [nm]]
  rw [List.nil_append, map_ranges fun k => nm b a ((tn + 3 * k) % 26)]
  rfl
theorem way2_nd {m tn a : Nat} {b : Str} (hm : m ≤ 26) : ((List.range m).map fun k => nm b a ((tn + 3 * k) % 26)).Nodup := nodup_map fun i j hi hj e => by
  have := nm_inj e
  omega
end
section
variable {M : Mem} {h : Nat}
/-- the slots behind the draws -/
def nS (h m : Nat) (way : Int) (tn : Nat) (b : Str) (an : Nat) : Sl := [some (.ptr h), some (.int (m : Nat)), some (.str "abcdefghijklmnopqrstuvwxyz"), some (.lst (WORDS.map D.str)), some (.int way), some (.int (tn : Nat)), some (.str b), some (.int (an : Nat)), none]
theorem names_pre {mo : MO} (hh : h < M.length) (hm : Hand mo) {m : Nat} : ∃ (way : Int) (tn an : Nat) (b : Str) (mo' : MO), Hand mo' ∧ tn < 24 ∧ 1 ≤ b.length ∧ b.length ≤ 7 ∧ (∀ c ∈ b.cps.toList, 97 ≤ c ∧ c < 123) ∧
    g__law_names [.ptr h, .int (m : Nat)] (M.set h mo) = fnR (M.set h mo).length ((kSeq t__law_names_2 (kSeq t__law_names_4 (kRet e__law_names_5))) (nS h m way tn b an) (M.set h mo')) := by
  obtain ⟨way, mo1, hm1, w0, w1, e1⟩ := draw_eq hh hm (t := 4) (by decide) (by decide)
  obtain ⟨turn, mo2, hm2, t0, t1, e2'⟩ := draw_eq hh hm1 (t := 24) (by decide) (by decide)
  obtain ⟨bs, mo3, hm3, b1, b7, hb, e3⟩ := base_eq hh hm2 (many := .int (m : Nat)) (way := .int way) (turn := .int turn) (ws := .lst (WORDS.map D.str))
  have one : ∀ b ∈ bs, b.length = 1 := fun b hb' => by obtain ⟨n, _, e⟩ := hb b hb'; rw [e]; rfl
  have jl := join_len one
  obtain ⟨at_, mo4, hm4, a0, a1, e4⟩ := draw_eq hh hm3 (t := ((Txt.join "" bs).length : Int) + 1) (by omega) (by rw [jl]; omega)
  obtain ⟨tn, rfl⟩ := Int.eq_ofNat_of_zero_le t0
  obtain ⟨an, rfl⟩ := Int.eq_ofNat_of_zero_le a0
  have tn24 : tn < 24 := by exact_mod_cast t1
  have sums : (bs.map (·.length)).sum = bs.length := by
    have := size_glued "" bs
    have e : (Builtin.Str.glued "" bs).length = bs.length := jl
    rw [e] at this
    have z : (bs.length - 1) * ("" : Str).length = 0 := by show (bs.length - 1) * 0 = 0; omega
    omega
  have ej := eJoin_at (o := eC (.str "")) (v := e__law_names_1) (x := "") (ys := bs) (M := M.set h mo2) (M1 := M.set h mo2) rfl e3 (by rw [sums]; show bs.length + bs.length * 0 ≤ 16777216; omega)
  have zb : (Txt.join "" bs).length ≤ sizeLine := small (by omega)
  have el : ∀ N : Mem, bLenA [.str (Txt.join "" bs)] N = .ok (.int ((Txt.join "" bs).length : Nat)) N := fun N => by
    show orR (if (Txt.join "" bs).length ≤ sizeLine then _ else _) _ = _
    rw [if_pos zb]
    rfl
  have ew := words_at (M := M.set h mo) (S := [some (.ptr h), some (.int (m : Nat)), some (.str "abcdefghijklmnopqrstuvwxyz"), some (.str "join give wish withdraw meet undo redo purses lot choices plan room left could yes no ok"), none, none, none, none, none]) rfl
  have bc : ∀ c ∈ (Txt.join "" bs).cps.toList, 97 ≤ c ∧ c < 123 := fun c hc => by
    obtain ⟨b, hb', hc'⟩ := join_mem hc
    obtain ⟨n, hn, e⟩ := hb b hb'
    rw [e] at hc'
    have hc2 : c ∈ [97 + n] := hc'
    have := List.mem_singleton.mp hc2
    omega
  refine ⟨way, tn, an, Txt.join "" bs, mo4, hm4, tn24, by omega, by omega, bc, ?_⟩
  unfold g__law_names
  rw [runF_ap (show [D.ptr h, D.int (m : Nat)].length = 2 from rfl)]
  congr 1
  unfold t__law_names nS
  simp only [kSeq_ap, kAsg_ap, eC_ap, asR_ok, gN_ap, stR_ok, thn_nx, List.map_cons, List.map_nil, List.replicate, List.cons_append, List.nil_append, List.set_cons_succ, List.set_cons_zero, ew]
  simp only [kSeq_ap, kAsg_ap, eTup_ap, aCons_ap, eCall_ap, eVar_ap, List.getElem?_cons_zero, vR_some, c1_ok, eC_ap, c2_ok, aNil_ap, cR_ok, e1, e2', tpR_2, asR_ok, gTupF_2, gConsF_ap, gN_ap, gcR_ok, gNilF_ap, stR_ok, thn_nx, List.set_cons_succ, List.set_cons_zero, ej, List.getElem?_cons_succ, el, e2_ap, s2_ok, s3_ok, fAdd_i, e4]
theorem names_w0 {m tn an : Nat} {b : Str} {N : Mem} (ht : tn < 24) : (kSeq t__law_names_2 (kSeq t__law_names_4 (kRet e__law_names_5))) (nS h m 0 tn b an) N = .rt (.lst (((WORDS.drop tn ++ WORDS.take tn).take m).map D.str)) N := by
  have zz : WORDS.length - tn + min tn WORDS.length ≤ sizeLine := small (by
    have : WORDS.length = 24 := rfl
    omega)
  unfold t__law_names_2 nS
  simp [cutD_take, cutD_drop, zz]
theorem names_w1 {m tn an : Nat} {b : Str} {N : Mem} (hm : m ≤ 24) (ht : tn < 24) : (kSeq t__law_names_2 (kSeq t__law_names_4 (kRet e__law_names_5))) (nS h m 1 tn b an) N = .rt (.lst (((List.range m).map fun k => ltr ((tn + 3 * k) % 26)).map D.str)) N := by
  have q := way1_eq (M := N) (S := nS h m 1 tn b an) (m := m) (tn := tn) (by omega) ht rfl rfl rfl rfl
  generalize e__law_names_5 = e5
  unfold t__law_names_2 t__law_names_4
  unfold nS at q ⊢
  simp only [kSeq_ap, kIf_ap, bV_ap, e2_ap, eVar_ap, List.getElem?_cons_succ, List.getElem?_cons_zero, vR_some, s2_ok, eC_ap, s3_ok, fEqA_i, show decide ((1 : Int) = 0) = false from rfl, decide_true, bR_ok, ifR_f, kNil_ap, thn_nx, ifR_t, kRet_ap, q, rtR_ok, thn_rt]
theorem names_w2 {m tn an : Nat} {b : Str} {N : Mem} {way : Int} (hm : m ≤ 24) (ht : tn < 24) (hb : b.length ≤ 7) (w0 : way ≠ 0) (w1 : way ≠ 1) : (kSeq t__law_names_2 (kSeq t__law_names_4 (kRet e__law_names_5))) (nS h m way tn b an) N = .rt (.lst (((List.range m).map fun k => nm b an ((tn + 3 * k) % 26)).map D.str)) N := by
  have q := way2_eq (M := N) (S := nS h m way tn b an) (m := m) (tn := tn) (a := an) (b := b) (by omega) ht hb rfl rfl rfl rfl rfl rfl
  unfold t__law_names_2 t__law_names_4
  unfold nS at q ⊢
  simp only [kSeq_ap, kIf_ap, bV_ap, e2_ap, eVar_ap, List.getElem?_cons_succ, List.getElem?_cons_zero, vR_some, s2_ok, eC_ap, s3_ok, fEqA_i, decide_eq_false w0, decide_eq_false w1, bR_ok, ifR_f, kNil_ap, thn_nx, kRet_ap, q, rtR_ok]
/-- THE NAMES: m different ones -/
theorem names_eqS {mo : MO} (hh : h < M.length) (hm : Hand mo) {m : Nat} (m24 : m ≤ 24) : ∃ (ns : List Str) (mo' : MO), Hand mo' ∧ ns.length = m ∧ ns.Nodup ∧ (∀ x ∈ ns, NmOk x) ∧ ((∀ x ∈ ns, x ∈ WORDS) ∨ ∃ L, ∀ x ∈ ns, x.length = L) ∧
    g__law_names [.ptr h, .int (m : Nat)] (M.set h mo) = .ok (.lst (ns.map D.str)) (M.set h mo') := by
  obtain ⟨way, tn, an, b, mo', hm', ht, b1, b7, bc, e⟩ := names_pre (m := m) hh hm
  have fin : ∀ d : D, fnR (M.set h mo).length (.rt d (M.set h mo')) = .ok d (M.set h mo') := fun d => by
    rw [fnR_rt]
    exact settle_ok (by rw [List.length_set, List.length_set]; exact Nat.le_refl _)
  by_cases w : way = 0
  · refine ⟨((WORDS.drop tn ++ WORDS.take tn).take m), mo', hm', ?_, ?_, ?_, .inl ?_, ?_⟩
    · simp only [List.length_take, List.length_append, List.length_drop]
      have : WORDS.length = 24 := rfl
      omega
    · have p : (WORDS.drop tn ++ WORDS.take tn).Perm WORDS := List.perm_append_comm.trans (by rw [List.take_append_drop])
      exact (p.nodup_iff.mpr words_nd).sublist (List.take_sublist _ _)
    · intro x hx
      have := List.mem_of_mem_take hx
      rcases List.mem_append.mp this with q | q
      · exact words_ok x (List.mem_of_mem_drop q)
      · exact words_ok x (List.mem_of_mem_take q)
    · intro x hx
      have := List.mem_of_mem_take hx
      rcases List.mem_append.mp this with q | q
      · exact List.mem_of_mem_drop q
      · exact List.mem_of_mem_take q
    · rw [e, w, names_w0 ht]
      exact fin _
  · by_cases w2 : way = 1
    · refine ⟨(List.range m).map fun k => ltr ((tn + 3 * k) % 26), mo', hm', by simp, way1_nd (by omega), fun x hx => ?_, .inr ⟨1, fun x hx => ?_⟩, ?_⟩
      · obtain ⟨k, _, rfl⟩ := List.mem_map.mp hx
        refine ⟨Nat.le_refl 1, by show 1 ≤ 8; omega, fun c hc => ?_⟩
        have hc2 : c ∈ [97 + (tn + 3 * k) % 26] := hc
        have := List.mem_singleton.mp hc2
        omega
      · obtain ⟨k, _, rfl⟩ := List.mem_map.mp hx
        rfl
      · rw [e, w2, names_w1 m24 ht]
        exact fin _
    · refine ⟨(List.range m).map fun k => nm b an ((tn + 3 * k) % 26), mo', hm', by simp, way2_nd (by omega), fun x hx => ?_, .inr ⟨b.length + 1, fun x hx => ?_⟩, ?_⟩
      · obtain ⟨k, _, rfl⟩ := List.mem_map.mp hx
        refine ⟨by rw [nm_len]; omega, by rw [nm_len]; omega, fun c hc => ?_⟩
        rw [nm_cps] at hc
        rcases List.mem_append.mp hc with q | q
        · rcases List.mem_append.mp q with q | q
          · exact bc c (List.mem_of_mem_take q)
          · have := List.mem_singleton.mp q
            omega
        · exact bc c (List.mem_of_mem_drop q)
      · obtain ⟨k, _, rfl⟩ := List.mem_map.mp hx
        exact nm_len _ _ _
      · rw [e, names_w2 m24 ht b7 w w2]
        exact fin _
theorem names_eq {mo : MO} (hh : h < M.length) (hm : Hand mo) {m : Nat} (m24 : m ≤ 24) : ∃ (ns : List Str) (mo' : MO), Hand mo' ∧ ns.length = m ∧ ns.Nodup ∧ (∀ x ∈ ns, NmOk x) ∧
    g__law_names [.ptr h, .int (m : Nat)] (M.set h mo) = .ok (.lst (ns.map D.str)) (M.set h mo') := by
  obtain ⟨ns, mo', a, b, c, d, _, e⟩ := names_eqS hh hm m24
  exact ⟨ns, mo', a, b, c, d, e⟩
end
end
end QL
end
section
set_option Elab.async false
set_option linter.all false
set_option maxRecDepth 100000
set_option maxHeartbeats 4000000
set_option autoImplicit false
/-! KLib2: what all these laws' proofs lean on. -/
namespace QL
open PySem PySem.Spec L2
open Classical
theorem ixs {ns : List Str} {M : Mem} {n : Nat} (hn : n < ns.length) : fIxA (.lst (ns.map D.str)) (.int (n : Nat)) M = .ok (.str ns[n]) M := fIxA_l (by simp [hn])
theorem filt_strs {P : Str → Bool} : ∀ ns : List Str, (ns.map D.str).filterMap (fun d => match d with | .str x => if P x = true then some (D.str x) else none | _ => none) = (ns.filter P).map D.str
  | [] => rfl
  | x :: r => by
    rw [List.map_cons]
    by_cases h : P x = true
    · rw [List.filterMap_cons_some (b := D.str x) (by simp [h]), filt_strs r, List.filter_cons, if_pos h]
      rfl
    · rw [List.filterMap_cons_none (by simp [h]), filt_strs r, List.filter_cons, if_neg h]
theorem eApp_at {o v : EF} {S : Sl} {M M1 M2 : Mem} {k : Nat} {ds0 ds : List D} {y : D} (h1 : o S M = .ok (.ptr k) M1) (h2 : asL M1 (.ptr k) = some ds0) (h3 : v S M1 = .ok y M2) (h4 : M2[k]? = some (.lst ds)) (hz : ds.length < sizeLine) : eApp o v S M = .ok .non (M2.set k (.lst (ds ++ [y]))) := by
  unfold eApp
  rw [h1]
  show (match asL M1 (.ptr k) with | some _ => _ | none => _) = _
  rw [h2]
  show (v S M1).bind _ = _
  rw [h3]
  show (match M2[k]? with | some (.lst ds) => _ | _ => _) = _
  rw [h4]
  exact if_pos hz
theorem eFrz_l {e : EF} {S : Sl} {M M1 : Mem} {k : Nat} {ds : List D} (h1 : e S M = .ok (.ptr k) M1) (h2 : M1[k]? = some (.lst ds)) : eFrz e S M = .ok (.lst ds) (M1.set k .gone) := by
  have e1 : frz (.ptr k) M1 = some (.lst ds, M1.set k .gone) := by simp [frz, h2]
  unfold eFrz
  rw [h1]
  show (match frz (.ptr k) M1 with | some (d', M2) => _ | none => _) = _
  rw [e1]
/-- no place of the store is named -/
def NoP (M : Mem) : Prop := ∀ n, lowM n M = true
theorem settle_cut {n : Nat} {d : D} {M : Mem} (h : n < M.length) (h1 : lowD n d = true) (h2 : lowM n (M.take n) = true) : settle n (.ok d M) = .ok d (M.take n) := by
  have h3 : ¬ M.length ≤ n := by omega
  simp [settle, h1, h2, h3]
theorem NoP.set {M : Mem} {h : Nat} {mo : MO} (hM : NoP M) (hm : ∀ n, lowO n mo = true) : NoP (M.set h mo) := fun n => by
  unfold lowM
  rw [List.all_eq_true]
  intro x hx
  rcases List.mem_or_eq_of_mem_set hx with q | q
  · exact List.all_eq_true.mp (hM n) x q
  · rw [q]; exact hm n
theorem lowDs_map {α : Type} {n : Nat} {f : α → D} (h : ∀ x, lowD n (f x) = true) : ∀ l : List α, lowDs n (l.map f) = true
  | [] => rfl
  | x :: r => by
    show (lowD n (f x) && lowDs n (r.map f)) = true
    rw [h x, lowDs_map h r]
    rfl
theorem Hand.low {mo : MO} (hm : Hand mo) (n : Nat) : lowO n mo = true := by
  obtain ⟨c, a1, a2, a3, a4, a5, rfl, _⟩ := hm
  show (lowDs n (c.map D.int) && lowDs n [.int a1, .int a2, .int a3, .int a4, .int a5]) = true
  rw [lowDs_map (fun _ => rfl)]
  rfl
/-- a loop with an invariant, by what of the list is done -/
theorem forL_pre {gd : Mem → Prop} {g : GF} {t : TF} {vs : List Nat} {J : List D → Sl → Mem → Prop} {full : List D} (hg : ∀ l S M, J l S M → gd M)
    (hs : ∀ l d r S M, full = l ++ d :: r → J l S M → ∃ S1 M1 S2 M2, g d S M = .ok S1 M1 ∧ t S1 M1 = .nx S2 M2 ∧ J (l ++ [d]) (kl vs S2) M2) :
    ∀ (ds l : List D) (S : Sl) (M : Mem), full = l ++ ds → J l S M → ∃ S' M', forL gd g t vs ds S M = .nx S' M' ∧ J full S' M'
  | [], l, S, M, e, h => ⟨S, M, by unfold forL; rw [if_pos (hg _ _ _ h)], by rw [e, List.append_nil]; exact h⟩
  | d :: r, l, S, M, e, h => by
    obtain ⟨S1, M1, S2, M2, e1, e2, h2⟩ := hs l d r S M e h
    obtain ⟨S', M', e3, h3⟩ := forL_pre hg hs r (l ++ [d]) _ _ (by rw [List.append_assoc]; exact e) h2
    refine ⟨S', M', ?_, h3⟩
    unfold forL
    rw [if_pos (hg _ _ _ h), e1]
    show (match t S1 M1 with
      | .nx S2 M2 => forL gd g t vs r (kl vs S2) M2
      | .ct S2 M2 => forL gd g t vs r (kl vs S2) M2
      | .bk S2 M2 => .nx S2 M2
      | r => r) = _
    rw [e2]
    exact e3
section
variable {M : Mem} {h : Nat}
theorem app_set {x : MO} {mo : MO} (hh : h < M.length) : (M ++ [x]).set h mo = M.set h mo ++ [x] := by rw [List.set_append_left _ _ hh]
theorem last_get {x : MO} {mo : MO} (hh : h < M.length) : ((M ++ [x]).set h mo)[M.length]? = some x := by
  rw [app_set hh, List.getElem?_append_right (by simp), List.length_set, Nat.sub_self]
  rfl
theorem last_set {x y : MO} {mo : MO} (hh : h < M.length) : ((M ++ [x]).set h mo).set M.length y = (M ++ [y]).set h mo := by
  rw [app_set hh, app_set hh, List.set_append_right _ _ (by simp), List.length_set, Nat.sub_self]
  rfl
end
abbrev Fn := Str → Int
noncomputable def fu (f : Fn) (a : Str) (v : Int) : Fn := fun x => if x = a then v else f x
theorem fu_same {f : Fn} {a : Str} {v : Int} : fu f a v a = v := if_pos rfl
theorem fu_ne {f : Fn} {a x : Str} {v : Int} (h : x ≠ a) : fu f a v x = f x := if_neg h
/-- a dict with the keys ks -/
def TE (ks : List Str) (v : Str → D) : List (Key × D) := ks.map fun x => (Sum.inr x, v x)
theorem te_len (ks : List Str) (v : Str → D) : (TE ks v).length = ks.length := List.length_map _
theorem te_cong {ks : List Str} {v w : Str → D} (h : ∀ x ∈ ks, v x = w x) : TE ks v = TE ks w := List.map_congr_left fun x hx => by rw [h x hx]
theorem te_val {v : Str → D} {x : Str} : ∀ {ks : List Str}, x ∈ ks → valD (TE ks v) (.inr x) = some (v x)
  | y :: r, h => by
    by_cases e : y = x
    · subst e
      simp [valD, TE, List.find?_cons]
    · rcases List.mem_cons.mp h with q | q
      · exact absurd q.symm e
      · have ih := te_val (v := v) q
        unfold valD TE at ih ⊢
        rw [List.map_cons, List.find?_cons]
        simp only [Sum.inr.injEq, e, decide_false]
        exact ih
theorem te_any {v : Str → D} {x : Str} {ks : List Str} : ((TE ks v).any fun kv => decide (kv.1 = (Sum.inr x : Key))) = decide (x ∈ ks) := by
  induction ks with
  | nil => simp [TE]
  | cons y r ih =>
    have ih' : (r.map fun x => ((Sum.inr x : Key), v x)).any (fun kv => decide (kv.1 = (Sum.inr x : Key))) = decide (x ∈ r) := ih
    unfold TE
    rw [List.map_cons, List.any_cons, ih']
    by_cases e : y = x
    · simp [e]
    · have e' : ¬ x = y := fun z => e z.symm
      simp [e, e']
theorem te_put {v : Str → D} {x : Str} {d : D} {ks : List Str} (h : x ∈ ks) : putKD (TE ks v) (.inr x) d = TE ks (fun y => if y = x then d else v y) := by
  unfold putKD
  rw [te_any, decide_eq_true h, if_pos rfl]
  unfold TE
  rw [List.map_map]
  apply List.map_congr_left
  intro y _
  by_cases e : y = x
  · simp [e]
  · simp [e]
theorem te_new {v : Str → D} {x : Str} {d : D} {ks : List Str} (h : x ∉ ks) : putKD (TE ks v) (.inr x) d = TE (ks ++ [x]) (fun y => if y = x then d else v y) := by
  unfold putKD
  rw [te_any, decide_eq_false h, if_neg Bool.false_ne_true]
  unfold TE
  rw [List.map_append]
  have : (ks.map fun y => ((Sum.inr y : Key), v y)) = ks.map fun y => ((Sum.inr y : Key), if y = x then d else v y) := List.map_congr_left fun y hy => by
    have : y ≠ x := fun e => h (e ▸ hy)
    simp [this]
  rw [this]
  simp
/-! ### places of the store -/
section
variable {M : Mem} {x y z : MO} {l : Mem}
theorem g0 : (M ++ x :: l)[M.length]? = some x := by simp
theorem s0 : (M ++ x :: l).set M.length y = M ++ y :: l := by simp
theorem g1 : (M ++ x :: y :: l)[M.length + 1]? = some y := by
  rw [List.getElem?_append_right (by omega)]
  simp
theorem s1 : (M ++ x :: y :: l).set (M.length + 1) z = M ++ x :: z :: l := by
  rw [List.set_append_right _ _ (by omega)]
  simp
end
section
variable {N N1 N2 N3 : Mem} {k : Nat} {ks : List Str} {v : Str → D} {x : Str} {d : D} {S : Sl} {o i e : EF} {kvs : List (Key × D)}
theorem look_at' (h : N[k]? = some (.dK kvs)) : look N (.ptr k) (.str x) = some (valD kvs (.inr x)) := by
  simp [look, asK, h, keyOf]
theorem ixT (h : N[k]? = some (.dK (TE ks v))) (hx : x ∈ ks) : fIxA (.ptr k) (.str x) N = .ok (v x) N := by
  have e : fDIx (.ptr k) (.str x) N = .ok (v x) N := by
    unfold fDIx
    rw [look_at' h, te_val hx]
  simp [fIxA, or2, e, orR]
theorem dput_at' (h : N[k]? = some (.dK kvs)) (hl : kvs.length < sizeLine) : dput k (.str x) d N = some (N.set k (.dK (putKD kvs (.inr x) d))) := by
  simp [dput, h, keyOf, hl]
theorem kDPut_at (h1 : e S N = .ok d N1) (h2 : o S N1 = .ok (.ptr k) N2) (h3 : i S N2 = .ok (.str x) N3) (h4 : N3[k]? = some (.dK kvs)) (hl : kvs.length < sizeLine) : kDPut o i e S N = .nx S (N3.set k (.dK (putKD kvs (.inr x) d))) := by
  unfold kDPut
  rw [h1]
  show (o S N1).thn S _ = _
  rw [h2]
  show (i S N2).thn S _ = _
  rw [h3]
  show (match dput k (.str x) d N3 with | some M4 => SR.nx S M4 | none => SR.bad) = _
  rw [dput_at' h4 hl]
theorem kDAug_at {op : Int → Int → Int} {a b : Int} (h1 : o S N = .ok (.ptr k) N1) (h2 : i S N1 = .ok (.str x) N2) (h3 : N2[k]? = some (.dK kvs)) (h4 : valD kvs (.inr x) = some (.int a)) (h5 : e S N2 = .ok (.int b) N3) (h6 : N3[k]? = some (.dK kvs)) (hl : kvs.length < sizeLine) :
    kDAug o i e op S N = .nx S (N3.set k (.dK (putKD kvs (.inr x) (.int (op a b))))) := by
  unfold kDAug
  rw [h1]
  show (i S N1).thn S _ = _
  rw [h2]
  show (match look N2 (.ptr k) (.str x) with | some (some (.int a)) => _ | _ => SR.bad) = _
  rw [look_at' h3, h4]
  show (e S N2).thn S _ = _
  rw [h5]
  show (match dput k (.str x) (.int (op a b)) N3 with | some M4 => SR.nx S M4 | none => SR.bad) = _
  rw [dput_at' h6 hl]
theorem bDictK_k {kvs : List (Key × D)} : bDictK [.dK kvs] N = .ok (.ptr N.length) (N ++ [.dK kvs]) := (rfl)
theorem bDictK_p (h : N[k]? = some (.dK kvs)) : bDictK [.ptr k] N = .ok (.ptr N.length) (N ++ [.dK kvs]) := by simp [bDictK, asK, h]
theorem eFrz_k (h1 : e S N = .ok (.ptr k) N1) (h2 : N1[k]? = some (.dK kvs)) : eFrz e S N = .ok (.dK kvs) (N1.set k .gone) := by
  have e1 : frz (.ptr k) N1 = some (.dK kvs, N1.set k .gone) := by simp [frz, h2]
  unfold eFrz
  rw [h1]
  show (match frz (.ptr k) N1 with | some (d', M2) => _ | none => _) = _
  rw [e1]
end
/-- a dict of ints -/
def TI (ks : List Str) (f : Fn) : List (Key × D) := TE ks fun x => .int (f x)
theorem ti_put {ks : List Str} {f : Fn} {x : Str} {v : Int} (h : x ∈ ks) : putKD (TI ks f) (.inr x) (.int v) = TI ks (fu f x v) := by
  unfold TI
  rw [te_put h]
  exact te_cong fun y _ => by unfold fu; split <;> rfl
theorem ti_new {ks : List Str} {f : Fn} {x : Str} {v : Int} (h : x ∉ ks) : putKD (TI ks f) (.inr x) (.int v) = TI (ks ++ [x]) (fu f x v) := by
  unfold TI
  rw [te_new h]
  exact te_cong fun y _ => by unfold fu; split <;> rfl
theorem ti_cong {ks : List Str} {f g : Fn} (h : ∀ x ∈ ks, f x = g x) : TI ks f = TI ks g := te_cong fun x hx => by rw [h x hx]
theorem lowK_ti {n : Nat} : ∀ {ks : List Str} {f : Fn}, lowK n (TI ks f) = true
  | [], _ => rfl
  | x :: r, f => by
    show (true && lowK n (TI r f)) = true
    rw [lowK_ti]
    rfl
theorem set_fail {d : D} {M : Mem} {l : Mem} (hM : NoP M) (h1 : lowD M.length d = true) (hl : l ≠ []) : settle M.length (.ok d (M ++ l)) = .ok d M := by
  have : 0 < l.length := List.length_pos_iff.mpr hl
  rw [settle_cut (by rw [List.length_append]; omega) h1 (by rw [List.take_left]; exact hM _), List.take_left]
theorem set_any {d : D} {M : Mem} (l : Mem) (hM : NoP M) (h1 : lowD M.length d = true) : settle M.length (.ok d (M ++ l)) = .ok d M := by
  cases l with
  | nil => rw [List.append_nil]; exact settle_ok (Nat.le_refl _)
  | cons x r => exact set_fail hM h1 (by simp)
theorem orR_ok {α : Type} {a : α} {M : Mem} {r : Res α} : orR (.ok a M) r = .ok a M := (rfl)
theorem NoP.app {a b : Mem} (h1 : NoP a) (h2 : NoP b) : NoP (a ++ b) := fun n => by
  have e1 := h1 n
  have e2 := h2 n
  unfold lowM at e1 e2 ⊢
  rw [List.all_append, e1, e2]
  rfl
theorem NoP.gone : NoP [MO.gone] := fun _ => rfl
theorem NoP.nil : NoP [] := fun _ => rfl
theorem rangeD_nat (n : Nat) : rangeD 0 n = (List.range n).map fun (j : Nat) => D.int (j : Int) := by
  unfold rangeD
  apply List.map_congr_left
  intro j _
  simp
theorem nm_ok {x : Str} (h : NmOk x) : PyData.strOk x = true := by
  unfold PyData.strOk
  rw [Array.all_eq_true']
  intro c hc
  have := h.2.2 c (Array.mem_toList_iff.mpr hc)
  exact decide_eq_true (by have := this.2; omega)
theorem okDs_all {n : Nat} : ∀ {l : List D}, (∀ d ∈ l, okD n d = true) → okDs n l = true
  | [], _ => by simp [okDs]
  | x :: r, h => by
    simp only [okDs, h x List.mem_cons_self, okDs_all fun d hd => h d (List.mem_cons_of_mem _ hd), Bool.and_self]
theorem hand_eq (ns : List Int) (h : ns.length ≤ 63) : ∃ mo, Hand mo ∧ g__law_hand [.lst (ns.map D.int)] [] = .ok (.ptr 0) [mo] := by
  refine ⟨HD ns 0 0 0 20011 40009, ⟨ns, 0, 0, 0, 20011, 40009, rfl, by decide, by decide, by decide, ⟨by decide, by decide⟩, ⟨by decide, by decide⟩⟩, ?_⟩
  unfold g__law_hand
  rw [runF_ap (show [D.lst (ns.map D.int)].length = 1 from rfl)]
  unfold t__law_hand
  have cut : cutD (ns.map D.int) none (some 63) = ns.map D.int := by
    rw [cutD_take (by decide)]
    exact List.take_of_length_le (by rw [List.length_map]; exact h)
  have bl : bList [.lst (ns.map D.int)] [] = .ok (.lst (ns.map D.int)) [] := rfl
  simp only [List.map_cons, List.map_nil, List.replicate, List.cons_append, List.nil_append, kRet_ap, eLstP_ap, aCons_ap, eCall_ap, eSl_ap, eVar_ap, List.getElem?_cons_succ, List.getElem?_cons_zero, vR_some, sl1_ok, oNone_ap, sl2_ok, oSome_ap, eC_ap, soR_ok, sl3_ok, fSl_l, cut, c1_ok, aNil_ap, c2_ok, cR_ok, bl, lpR_6, rtR_ok, fnR_rt]
  rfl
theorem nop1 {mo : MO} (h : Hand mo) : NoP [mo] := fun n => by
  show (lowO n mo && true) = true
  rw [Hand.low h n]
  rfl

theorem okDs_strs {n : Nat} : ∀ {L : List Str}, (∀ x ∈ L, NmOk x) → okDs n (L.map D.str) = true
  | [], _ => by simp [okDs]
  | x :: r, h => by
    have h1 := nm_ok (h x List.mem_cons_self)
    simp only [List.map_cons, okDs, okD, h1, okDs_strs (n := n) fun y hy => h y (List.mem_cons_of_mem _ hy), Bool.and_self]
theorem shDs_strs : ∀ L : List Str, shDs (L.map D.str) = true
  | [] => rfl
  | x :: r => by simp [shDs, shD, shDs_strs r]
theorem wtDs_strs : ∀ {L : List Str}, (∀ x ∈ L, NmOk x) → wtDs (L.map D.str) ≤ 84 * L.length
  | [], _ => Nat.zero_le _
  | x :: r, h => by
    have h1 := (h x List.mem_cons_self).2.1
    have ih := wtDs_strs fun y hy => h y (List.mem_cons_of_mem x hy)
    rw [List.map_cons, List.length_cons]
    simp only [wtDs, wtD]
    omega
theorem forL_step {gd : Mem → Prop} {g : GF} {t : TF} {vs : List Nat} {d : D} {r : List D} {S S1 : Sl} {M M1 : Mem} (hg : gd M) (e1 : g d S M = .ok S1 M1) : forL gd g t vs (d :: r) S M = match t S1 M1 with
    | .nx S2 M2 => forL gd g t vs r (kl vs S2) M2
    | .ct S2 M2 => forL gd g t vs r (kl vs S2) M2
    | .bk S2 M2 => .nx S2 M2
    | r => r := by
  conv => lhs; unfold forL
  rw [if_pos hg, e1]
  rfl
theorem forL_end {gd : Mem → Prop} {g : GF} {t : TF} {vs : List Nat} {S : Sl} {M : Mem} (hg : gd M) : forL gd g t vs [] S M = .nx S M := by
  unfold forL
  rw [if_pos hg]
/-- a comprehension over things that are written out -/
theorem lcM {α : Type} {gd : Mem → Prop} {g : GF} {b : BF} {e : EF} {S0 : Sl} {M : Mem} (hg : gd M) (enc out : α → D) : ∀ (xs : List α) (acc : List D), acc.length + xs.length ≤ sizeLine →
    (∀ x ∈ xs, ∃ S1, g (enc x) S0 M = .ok S1 M ∧ b S1 M = .ok true M ∧ e S1 M = .ok (out x) M) → lcL gd g b e S0 (xs.map enc) acc M = .ok (acc ++ xs.map out) M
  | [], acc, _, _ => by rw [List.map_nil, List.map_nil, List.append_nil]; unfold lcL; rw [if_pos hg]
  | x :: r, acc, hl, hs => by
    obtain ⟨S1, e1, e2, e3⟩ := hs x List.mem_cons_self
    rw [List.length_cons] at hl
    rw [List.map_cons]
    unfold lcL
    rw [if_pos hg, e1]
    simp only [e2, e3]
    rw [if_pos (by omega), lcM hg enc out r (acc ++ [out x]) (by rw [List.length_append, List.length_singleton]; omega) fun y hy => hs y (List.mem_cons_of_mem _ hy), List.append_assoc]
    rfl
section
variable {S : Sl} {M M1 M2 M3 M4 : Mem} {x y u d : D} {a b c e : EF} {f g : D → D → Mem → Res D}
theorem e3_at (h1 : a S M = .ok x M1) (h2 : b S M1 = .ok y M2) (h3 : f x y M2 = .ok (.bl true) M3) (h4 : c S M3 = .ok u M4) : e3 f g a b c S M = g y u M4 := by
  unfold e3
  rw [h1]
  show (b S M1).bind _ = _
  rw [h2]
  show (f x y M2).bind _ = _
  rw [h3]
  show (c S M3).bind _ = _
  rw [h4]
  rfl
theorem eIsT_at {t n : String} (h : e S M = .ok d M1) (hn : tyName M1 d = some n) : eIsT t e S M = .ok (.bl (isTy n t)) M1 := by
  unfold eIsT
  rw [h]
  show (match tyName M1 d with | some n => Res.ok (D.bl (isTy n t)) M1 | none => .bad) = _
  rw [hn]
theorem eFld_at {cl fd : Str} {fs : List (Str × D)} (h : e S M = .ok d M1) (ho : isObj cl d M1 = some fs) (hf : fs.lookup fd = some y) : eFld cl fd e S M = .ok y M1 := by
  unfold eFld
  rw [h]
  show (match isObj cl d M1 with | some fs => _ | none => Res.bad) = _
  rw [ho]
  show (match fs.lookup fd with | some y => Res.ok y M1 | none => .bad) = _
  rw [hf]
theorem eMeth_at {cl m : Str} {fs : List (Str × D)} {G : List D → Mem → Res D} {ar : AF} {ds : List D} (h : e S M = .ok d M1) (ho : isObj cl d M1 = some fs) (hf : fs.lookup m = none) (ha : ar S M1 = .ok ds M2) : eMeth cl m G e ar S M = G (d :: ds) M2 := by
  unfold eMeth
  rw [h]
  show (match isObj cl d M1 with | some fs => _ | none => Res.bad) = _
  rw [ho]
  show (if fs.lookup m = none then _ else Res.bad) = _
  rw [if_pos hf, ha]
  rfl
end
end QL
end
section
set_option Elab.async false
set_option linter.all false
set_option maxRecDepth 100000
set_option maxHeartbeats 1000000
set_option autoImplicit false
/-! TKind13: TKind without the law's own counts. -/
namespace QL
open PySem PySem.Spec L2
open Classical
/-- a value without places of the store, or an own object -/
inductive Th : D → Prop
  | non : Th .non
  | bl (b : Bool) : Th (.bl b)
  | int (i : Int) : Th (.int i)
  | str (x : Str) (h : x.length ≤ 1000) : Th (.str x)
  | tup (ds : List D) (hl : ds.length ≤ 1000) (h : ∀ d ∈ ds, Th d) : Th (.tup ds)
  | lst (ds : List D) : Th (.lst ds)
  | dK (kvs : List (Key × D)) : Th (.dK kvs)
  | obj (n : Str) (fs : List (Str × D)) (h : n ∈ ISO) : Th (.obj n fs)
/-- whether the type is this one -/
def isV (t : String) : D → Bool
  | .non => isTy "NoneType" t
  | .bl _ => isTy "bool" t
  | .int _ => isTy "int" t
  | .str _ => isTy "str" t
  | .tup _ => isTy "tuple" t
  | .lst _ => isTy "list" t
  | .dK _ => isTy "dict" t
  | _ => false
section
variable {M : Mem} {S : Sl} {e : EF} {d : D} {lo hi : Int}
theorem isO_at {t : String} (h : Th d) (he : e S M = .ok d M) : eIsO ISO t e S M = .ok (.bl (isV t d)) M := by
  unfold eIsO
  rw [he]
  cases h with
  | obj n fs h =>
    show (if n ∈ ISO then Res.ok (D.bl false) M else .bad) = _
    rw [if_pos h]
    rfl
  | _ => rfl
def inB (d : D) : Bool := isV "int" d && !isV "bool" d
theorem in_bl (b : Bool) : inB (.bl b) = false := (by decide : (isTy "bool" "int" && !isTy "bool" "bool") = false)
theorem in_int (i : Int) : inB (.int i) = true := (by decide : (isTy "int" "int" && !isTy "int" "bool") = true)
theorem in_str (x : Str) : inB (.str x) = false := (by decide : (isTy "str" "int" && !isTy "str" "bool") = false)
theorem in_tup (x : List D) : inB (.tup x) = false := (by decide : (isTy "tuple" "int" && !isTy "tuple" "bool") = false)
theorem in_lst (x : List D) : inB (.lst x) = false := (by decide : (isTy "list" "int" && !isTy "list" "bool") = false)
theorem in_dK (x : List (Key × D)) : inB (.dK x) = false := (by decide : (isTy "dict" "int" && !isTy "dict" "bool") = false)
theorem iv_int (i : Int) : isV "int" (.int i) = true := (by decide : isTy "int" "int" = true)
theorem ib_int (i : Int) : isV "bool" (.int i) = false := (by decide : isTy "int" "bool" = false)
theorem iv_bl (b : Bool) : isV "bool" (.bl b) = true := (by decide : isTy "bool" "bool" = true)
theorem st_bl (b : Bool) : isV "str" (.bl b) = false := (by decide : isTy "bool" "str" = false)
theorem st_int (i : Int) : isV "str" (.int i) = false := (by decide : isTy "int" "str" = false)
theorem st_str (x : Str) : isV "str" (.str x) = true := (by decide : isTy "str" "str" = true)
theorem st_tup (x : List D) : isV "str" (.tup x) = false := (by decide : isTy "tuple" "str" = false)
theorem st_lst (x : List D) : isV "str" (.lst x) = false := (by decide : isTy "list" "str" = false)
theorem st_dK (x : List (Key × D)) : isV "str" (.dK x) = false := (by decide : isTy "dict" "str" = false)
theorem tp_bl (b : Bool) : isV "tuple" (.bl b) = false := (by decide : isTy "bool" "tuple" = false)
theorem tp_int (i : Int) : isV "tuple" (.int i) = false := (by decide : isTy "int" "tuple" = false)
theorem tp_str (x : Str) : isV "tuple" (.str x) = false := (by decide : isTy "str" "tuple" = false)
theorem tp_tup (x : List D) : isV "tuple" (.tup x) = true := (by decide : isTy "tuple" "tuple" = true)
theorem tp_lst (x : List D) : isV "tuple" (.lst x) = false := (by decide : isTy "list" "tuple" = false)
theorem tp_dK (x : List (Key × D)) : isV "tuple" (.dK x) = false := (by decide : isTy "dict" "tuple" = false)
theorem ls_lst (x : List D) : isV "list" (.lst x) = true := (by decide : isTy "list" "list" = true)
theorem int_eq (h : Th d) : g_is_integer [d] M = .ok (.bl (inB d)) M := by
  have i1 : eIsO ISO "int" (eVar 0) [some d] M = .ok (.bl (isV "int" d)) M := isO_at h rfl
  have i2 : eIsO ISO "bool" (eVar 0) [some d] M = .ok (.bl (isV "bool" d)) M := isO_at h rfl
  unfold g_is_integer inB
  rw [runF_ap (show [d].length = 1 from rfl)]
  unfold t_is_integer
  simp only [List.map_cons, List.map_nil, List.replicate, List.append_nil, kRet_ap, eAnd_ap, i1]
  cases isV "int" d with
  | true =>
    simp only [eaR_t, eNot_ap, i2, enR_ok, rtR_ok, fnR_rt, Bool.true_and]
    exact settle_ok (Nat.le_refl _)
  | false =>
    simp only [eaR_f, rtR_ok, fnR_rt, Bool.false_and]
    exact settle_ok (Nat.le_refl _)
def rgB (lo hi : Int) : D → Bool
  | .int i => decide (lo ≤ i) && decide (i ≤ hi)
  | _ => false
theorem le3 {i : Int} {a b c : EF} (h1 : a S M = .ok (.int lo) M) (h2 : b S M = .ok (.int i) M) (h3 : c S M = .ok (.int hi) M) : e3 fLe fLe a b c S M = .ok (.bl (decide (lo ≤ i) && decide (i ≤ hi))) M := by
  by_cases q : lo ≤ i
  · rw [e3_at (x := .int lo) (y := .int i) (u := .int hi) (M1 := M) (M2 := M) (M3 := M) (M4 := M) h1 h2 (by rw [fLe_i, decide_eq_true q]) h3, fLe_i, decide_eq_true q, Bool.true_and]
  · unfold e3
    rw [h1]
    simp [Res.bind, h2, q]
theorem inB_int (h : Th d) : inB d = true → ∃ i, d = .int i := fun z => by
  cases h with
  | non => exact absurd z (by decide)
  | bl b => rw [in_bl] at z; cases z
  | int i => exact ⟨i, rfl⟩
  | str x _ => rw [in_str] at z; cases z
  | tup x _ _ => rw [in_tup] at z; cases z
  | lst x => rw [in_lst] at z; cases z
  | dK x => rw [in_dK] at z; cases z
  | obj n fs h => cases z
theorem rgB_not (h : ¬ ∃ i, d = .int i) : rgB lo hi d = false := by
  cases d <;> first | rfl | exact absurd ⟨_, rfl⟩ h
theorem amount_eq (h : Th d) : g_is_amount [d] M = .ok (.bl (rgB 0 1000000000000000000000000000000 d)) M := by
  have a1 := int_eq (M := M) h
  unfold g_is_amount
  rw [runF_ap (show [d].length = 1 from rfl)]
  unfold t_is_amount
  simp only [List.map_cons, List.map_nil, List.replicate, List.append_nil, kRet_ap, eAnd_ap, eCall_ap, aCons_ap, eVar_ap, List.getElem?_cons_succ, List.getElem?_cons_zero, vR_some, c1_ok, aNil_ap, c2_ok, cR_ok, a1]
  cases z : inB d with
  | true =>
    obtain ⟨i, rfl⟩ := inB_int h z
    have l := le3 (M := M) (S := [some (.int i)]) (lo := 0) (hi := 1000000000000000000000000000000) (i := i) (a := eC (.int 0)) (b := eVar 0) (c := eC (.int 1000000000000000000000000000000)) rfl rfl rfl
    simp only [eaR_t, l, rtR_ok, fnR_rt]
    exact settle_ok (Nat.le_refl _)
  | false =>
    have n : ¬ ∃ i, d = .int i := fun ⟨i, e⟩ => by rw [e, in_int] at z; cases z
    rw [rgB_not n]
    simp only [eaR_f, rtR_ok, fnR_rt]
    exact settle_ok (Nat.le_refl _)
theorem iscount_eq (h : Th d) : g_is_count [d] M = .ok (.bl (rgB 1 1000000000000000000000000 d)) M := by
  have a1 := int_eq (M := M) h
  unfold g_is_count
  rw [runF_ap (show [d].length = 1 from rfl)]
  unfold t_is_count
  simp only [List.map_cons, List.map_nil, List.replicate, List.append_nil, kRet_ap, eAnd_ap, eCall_ap, aCons_ap, eVar_ap, List.getElem?_cons_succ, List.getElem?_cons_zero, vR_some, c1_ok, aNil_ap, c2_ok, cR_ok, a1]
  cases z : inB d with
  | true =>
    obtain ⟨i, rfl⟩ := inB_int h z
    have l := le3 (M := M) (S := [some (.int i)]) (lo := 1) (hi := 1000000000000000000000000) (i := i) (a := eC (.int 1)) (b := eVar 0) (c := eC (.int 1000000000000000000000000)) rfl rfl rfl
    simp only [eaR_t, l, rtR_ok, fnR_rt]
    exact settle_ok (Nat.le_refl _)
  | false =>
    have n : ¬ ∃ i, d = .int i := fun ⟨i, e⟩ => by rw [e, in_int] at z; cases z
    rw [rgB_not n]
    simp only [eaR_f, rtR_ok, fnR_rt]
    exact settle_ok (Nat.le_refl _)
def sgB (c : Nat) : Bool := !(Builtin.Str.occurrences ("abcdefghijklmnopqrstuvwxyz" : Str) ⟨#[c]⟩ 0 ("abcdefghijklmnopqrstuvwxyz" : Str).length 1).isEmpty
theorem in_sg {c : Nat} : fInA (.str ⟨#[c]⟩) (.str "abcdefghijklmnopqrstuvwxyz") M = .ok (.bl (sgB c)) M := by
  have e : fInG false (.str ⟨#[c]⟩) (.str "abcdefghijklmnopqrstuvwxyz") M = .ok (.bl (sgB c)) M := by
    show Res.ok (D.bl (false ^^ sgB c)) M = _
    rw [Bool.false_xor]
  have e0 : fIn (.str ⟨#[c]⟩) (.str "abcdefghijklmnopqrstuvwxyz") M = .bad := rfl
  unfold fInA or2
  rw [e0, e]
  rfl
theorem bls_map : ∀ l : List Nat, blsOf (l.map fun c => D.bl (sgB c)) = some (l.map sgB)
  | [] => rfl
  | x :: r => by
    rw [List.map_cons, List.map_cons]
    unfold blsOf
    rw [bls_map r]
    rfl
theorem all_sg (x : Str) : bAll [.lst (x.cps.toList.map fun c => D.bl (sgB c))] M = .ok (.bl (x.cps.toList.all sgB)) M := by
  show (match blsOf (x.cps.toList.map fun c => D.bl (sgB c)) with | some ns => Res.ok (D.bl (ns.all id)) M | none => .bad) = _
  rw [bls_map]
  show Res.ok (D.bl ((x.cps.toList.map sgB).all id)) M = _
  rw [List.all_map]
  rfl
def wdB (x : Str) : Bool := (decide (1 ≤ (x.length : Int)) && decide ((x.length : Int) ≤ 8)) && x.cps.toList.all sgB
def nmB : D → Bool
  | .str x => wdB x
  | _ => false
theorem isV_str (h : Th d) : isV "str" d = true → ∃ x, d = .str x ∧ x.length ≤ 1000 := fun z => by
  cases h with
  | non => exact absurd z (by decide)
  | bl b => rw [st_bl] at z; cases z
  | int i => rw [st_int] at z; cases z
  | str x hx => exact ⟨x, rfl, hx⟩
  | tup x _ _ => rw [st_tup] at z; cases z
  | lst x => rw [st_lst] at z; cases z
  | dK x => rw [st_dK] at z; cases z
  | obj n fs h => cases z
theorem nmB_not (h : ¬ ∃ x, d = .str x) : nmB d = false := by
  cases d <;> first | rfl | exact absurd ⟨_, rfl⟩ h
theorem len_at {x : Str} (hx : x.length ≤ 1000) {i : Nat} (h : S[i]? = some (some (.str x))) : eCall bLenA (aCons (eVar i) aNil) S M = .ok (.int x.length) M := by
  simp only [eCall_ap, aCons_ap, eVar_ap, h, vR_some, c1_ok, aNil_ap, c2_ok, cR_ok]
  show orR (if x.length ≤ sizeLine then Res.ok (D.int x.length) M else .bad) _ = _
  rw [if_pos (by rw [sizeLine_eq]; omega)]
  rfl
theorem name_eq (h : Th d) : g_is_name [d] M = .ok (.bl (nmB d)) M := by
  have i1 : eIsO ISO "str" (eVar 0) [some d, none] M = .ok (.bl (isV "str" d)) M := isO_at h rfl
  unfold g_is_name
  rw [runF_ap (show [d].length = 1 from rfl)]
  unfold t_is_name t_is_name_1
  simp only [List.map_cons, List.map_nil, List.replicate, List.cons_append, List.nil_append, kSeq_ap, kIf_ap, bOr_ap, bNot_ap, bV_ap, i1, bR_ok, nR_ok]
  cases z : isV "str" d with
  | false =>
    have n : ¬ ∃ x, d = .str x := fun ⟨x, e⟩ => by rw [e, st_str] at z; cases z
    rw [nmB_not n]
    simp only [Bool.not_false, orRr_t, ifR_t, kRet_ap, eC_ap, rtR_ok, thn_rt, fnR_rt]
    exact settle_ok (Nat.le_refl _)
  | true =>
    obtain ⟨x, rfl, hx⟩ := isV_str h z
    have i2 := le3 (M := M) (S := [some (.str x), none]) (lo := 1) (hi := 8) (i := x.length) (a := eC (.int 1)) (b := eCall bLenA (aCons (eVar 0) aNil)) (c := eC (.int 8)) rfl (len_at hx rfl) rfl
    simp only [Bool.not_true, orRr_f, bOr_ap, bNot_ap, bV_ap, i2, bR_ok, nR_ok]
    have nb : nmB (.str x) = ((decide (1 ≤ (x.length : Int)) && decide ((x.length : Int) ≤ 8)) && x.cps.toList.all sgB) := rfl
    rw [nb]
    cases q : (decide (1 ≤ (x.length : Int)) && decide ((x.length : Int) ≤ 8)) with
    | false =>
      simp only [Bool.not_false, ifR_t, kRet_ap, eC_ap, rtR_ok, thn_rt, fnR_rt, Bool.false_and]
      exact settle_ok (Nat.le_refl _)
    | true =>
      have a2 : e_is_name_2 [some (.str x), none] M = .ok (.lst (x.cps.toList.map fun c => D.bl (sgB c))) M := by
        unfold e_is_name_2
        rw [eLc_ap]
        show lcR _ _ _ _ _ (Res.ok ⟨signsD x, none⟩ M) = _
        rw [lcR_ok]
        unfold signsD
        rw [lcM (gd := Its.gd ⟨x.cps.toList.map fun c => D.str ⟨#[c]⟩, none⟩) trivial (fun c => D.str ⟨#[c]⟩) (fun c => D.bl (sgB c)) x.cps.toList [] (by rw [sizeLine_eq, List.length_nil, ← len_cps]; omega) fun c hx => ⟨[some (.str x), some (.str ⟨#[c]⟩)], rfl, rfl, by
          simp only [e2_ap, eVar_ap, List.getElem?_cons_succ, List.getElem?_cons_zero, vR_some, s2_ok, eC_ap, s3_ok]
          exact in_sg⟩]
        rfl
      simp only [Bool.not_true, ifR_f, kNil_ap, thn_nx, kRet_ap, eCall_ap, aCons_ap, a2, c1_ok, aNil_ap, c2_ok, cR_ok, all_sg, rtR_ok, fnR_rt, Bool.true_and]
      exact settle_ok (Nat.le_refl _)
theorem word_eq (h : Th d) : g__law_word [d] M = .ok (.bl (nmB d)) M := by
  have i1 : eIsO ISO "str" (eVar 0) [some d, some (.str "abcdefghijklmnopqrstuvwxyz"), none] M = .ok (.bl (isV "str" d)) M := isO_at h rfl
  unfold g__law_word
  rw [runF_ap (show [d].length = 1 from rfl)]
  unfold t__law_word
  simp only [List.map_cons, List.map_nil, List.replicate, List.cons_append, List.nil_append, kSeq_ap, kAsg_ap, eC_ap, asR_ok, gN_ap, stR_ok, thn_nx, List.set_cons_succ, List.set_cons_zero, kRet_ap, eAnd_ap, i1]
  cases z : isV "str" d with
  | false =>
    have n : ¬ ∃ x, d = .str x := fun ⟨x, e⟩ => by rw [e, st_str] at z; cases z
    rw [nmB_not n]
    simp only [eaR_f, rtR_ok, fnR_rt]
    exact settle_ok (Nat.le_refl _)
  | true =>
    obtain ⟨x, rfl, hx⟩ := isV_str h z
    have i2 := le3 (M := M) (S := [some (.str x), some (.str "abcdefghijklmnopqrstuvwxyz"), none]) (lo := 1) (hi := 8) (i := x.length) (a := eC (.int 1)) (b := eCall bLenA (aCons (eVar 0) aNil)) (c := eC (.int 8)) rfl (len_at hx rfl) rfl
    simp only [eaR_t, eAnd_ap, i2]
    have nb : nmB (.str x) = ((decide (1 ≤ (x.length : Int)) && decide ((x.length : Int) ≤ 8)) && x.cps.toList.all sgB) := rfl
    rw [nb]
    cases q : (decide (1 ≤ (x.length : Int)) && decide ((x.length : Int) ≤ 8)) with
    | false =>
      simp only [eaR_f, rtR_ok, fnR_rt, Bool.false_and]
      exact settle_ok (Nat.le_refl _)
    | true =>
      have a2 : e__law_word_1 [some (.str x), some (.str "abcdefghijklmnopqrstuvwxyz"), none] M = .ok (.lst (x.cps.toList.map fun c => D.bl (sgB c))) M := by
        unfold e__law_word_1
        rw [eLc_ap]
        show lcR _ _ _ _ _ (Res.ok ⟨signsD x, none⟩ M) = _
        rw [lcR_ok]
        unfold signsD
        rw [lcM (gd := Its.gd ⟨x.cps.toList.map fun c => D.str ⟨#[c]⟩, none⟩) trivial (fun c => D.str ⟨#[c]⟩) (fun c => D.bl (sgB c)) x.cps.toList [] (by rw [sizeLine_eq, List.length_nil, ← len_cps]; omega) fun c hx => ⟨[some (.str x), some (.str "abcdefghijklmnopqrstuvwxyz"), some (.str ⟨#[c]⟩)], rfl, rfl, by
          simp only [e2_ap, eVar_ap, List.getElem?_cons_succ, List.getElem?_cons_zero, vR_some, s2_ok, s3_ok]
          exact in_sg⟩]
        rfl
      simp only [eaR_t, eCall_ap, aCons_ap, a2, c1_ok, aNil_ap, c2_ok, cR_ok, all_sg, rtR_ok, fnR_rt, Bool.true_and]
      exact settle_ok (Nat.le_refl _)
end
end QL
end
section
set_option Elab.async false
set_option linter.all false
set_option maxRecDepth 100000
set_option maxHeartbeats 4000000
set_option autoImplicit false
/-! RExc: errors raised and caught; tables and their keys. -/
namespace QL
open PySem PySem.Spec L2
open Classical
section
variable {S : Sl} {M M1 M2 : Mem} {X : Ex} {ar : AF} {d : D} {g : GF} {b : EF}
theorem c1_rz : c1 ar S (.rz X M) = .rz X M := (rfl)
theorem c2_rz : c2 d (.rz X M) = .rz X M := (rfl)
theorem cR_rz {F : List D → Mem → Res D} : cR F (.rz X M) = .rz X M := (rfl)
theorem tpR_rz : tpR (.rz X M) = .rz X M := (rfl)
theorem rtR_rz : rtR S (.rz X M) = .rz X S M := (rfl)
theorem asR_rz : asR g S (.rz X M) = .rz X S M := (rfl)
theorem drR_rz : drR S (.rz X M) = .rz X S M := (rfl)
theorem fnR_rz {n : Nat} : fnR n (.rz X S M) = settle n (.rz X M) := (rfl)
theorem settle_rz {n : Nat} (h : M.length ≤ n) : settle n (.rz X M) = .rz X M := if_pos h
theorem settle_rza {l : Mem} (hM : NoP M) (hf : lowF M.length X.fs = true) : settle M.length (.rz X (M ++ l)) = .rz X M := by
  cases l with
  | nil => rw [List.append_nil]; exact settle_rz (Nat.le_refl _)
  | cons x r =>
    show (if (M ++ x :: r).length ≤ M.length then _ else if lowF M.length X.fs = true ∧ lowM M.length ((M ++ x :: r).take M.length) = true then _ else _) = _
    rw [if_neg (by rw [List.length_append, List.length_cons]; omega), List.take_left, if_pos ⟨hf, hM _⟩]
theorem kTry_rt {cl : List Str} {i : Nat} {tb : TF} {su : Addr → Addr → Ex → TF} (h : tb S M = .rt d M1) : kTry cl i tb su S M = .rt d M1 := by
  unfold kTry
  rw [h]
theorem kTry_rz {cl : List Str} {i : Nat} {tb : TF} {su : Addr → Addr → Ex → TF} {S2 : Sl} (h : tb S M = .rz X S2 M1) (hc : X.c ∈ cl) (hf : X.fs ≠ []) (hs : ∀ a dd, su a dd X (S2.set i (some (.exc a dd X.c X.fs))) M1 = .rt d M2) : kTry cl i tb su S M = .rt d M2 := by
  have e : ∀ a dd, (su a dd X (S2.set i (some (.exc a dd X.c X.fs))) M1).off i = .rt d M2 := fun a dd => by rw [hs]; rfl
  unfold kTry
  rw [h]
  show (if X.c ∈ cl ∧ X.fs ≠ [] then pick fun a dd => (su a dd X (S2.set i (some (.exc a dd X.c X.fs))) M1).off i else .bad) = _
  rw [if_pos ⟨hc, hf⟩]
  unfold pick
  rw [if_pos fun a b => (e a b).trans (e 0 0).symm]
  exact e 0 0
end
section
variable {M : Mem} {S : Sl} {x : Str}
theorem exc_is {B : Bool} {a' dd : Addr} {e : EF} {S : Sl} {c : Str} {fs : List (Str × D)} (h : e S M = .ok (.exc a' dd c fs) M) : eIsX a' dd B e S M = .ok (.bl B) M := by
  unfold eIsX
  rw [h]
  show (if a' = a' ∧ dd = dd then Res.ok (D.bl B) M else .bad) = _
  rw [if_pos ⟨rfl, rfl⟩]
theorem exc_f {a' dd : Addr} {e : EF} {S : Sl} {c : Str} {fs : List (Str × D)} {fd : Str} {y : D} (h : e S M = .ok (.exc a' dd c fs) M) (hf : fs.lookup fd = some y) : eXF a' dd fd e S M = .ok y M := by
  unfold eXF
  rw [h]
  show (if a' = a' ∧ dd = dd then (match fs.lookup fd with | some y => Res.ok y M | none => .bad) else .bad) = _
  rw [if_pos ⟨rfl, rfl⟩, hf]
theorem kRzI {c f : Str} {a : EF} {i : Int} (h : a S M = .ok (.int i) M) : kRz c [f] (aCons a aNil) S M = .rz ⟨c, [(f, .int i)]⟩ S M := by
  unfold kRz
  rw [aCons_ap, h, c1_ok, aNil_ap, c2_ok]
  show (if [D.int i].length = [f].length ∧ [D.int i].length ≤ 1000 then _ else SR.bad) = _
  rw [if_pos ⟨rfl, by show 1 ≤ 1000; omega⟩]
  rfl
theorem val_te {ks : List Str} {v : Str → D} : valD (TE ks v) (.inr x) = if x ∈ ks then some (v x) else none := by
  by_cases q : x ∈ ks
  · rw [if_pos q, te_val q]
  · rw [if_neg q]
    cases hv : valD (TE ks v) (.inr x) with
    | none => rfl
    | some y =>
      exfalso
      unfold valD at hv
      cases hfd : (TE ks v).find? (fun kv => decide (kv.1 = (Sum.inr x : Key))) with
      | none => rw [hfd] at hv; cases hv
      | some z =>
        have h1 := List.find?_some hfd
        have h2 := List.mem_of_find?_eq_some hfd
        obtain ⟨w, hw, rfl⟩ := List.mem_map.mp h2
        have h3 : (Sum.inr w : Key) = Sum.inr x := of_decide_eq_true h1
        exact q (Sum.inr.inj h3 ▸ hw)
theorem in_te {k : Nat} {ks : List Str} {v : Str → D} (h : M[k]? = some (.dK (TE ks v))) : fInA (.str x) (.ptr k) M = .ok (.bl (decide (x ∈ ks))) M := by
  have e : fIn (.str x) (.ptr k) M = .ok (.bl (decide (x ∈ ks))) M := by
    unfold fIn
    rw [look_at' h]
    show Res.ok (D.bl (valD (TE ks v) (.inr x)).isSome) M = _
    rw [val_te]
    by_cases q : x ∈ ks
    · simp [q]
    · simp [q]
  show orR (fIn _ _ M) _ = _
  rw [e]
  rfl
end
end QL
end
section
set_option Elab.async false
set_option linter.all false
set_option maxRecDepth 100000
set_option maxHeartbeats 4000000
set_option autoImplicit false
/-! KShuf: a list shuffled; purses drawn up. -/
namespace QL
open PySem PySem.Spec L2
open Classical
section
variable {M M1 M2 : Mem} {S : Sl} {o v : EF} {k : Nat} {ds ds0 : List D} {j : Nat} {w : D}
theorem ePopI_at (h1 : o S M = .ok (.ptr k) M1) (h2 : asL M1 (.ptr k) = some ds0) (h3 : v S M1 = .ok (.int (j : Nat)) M2) (h4 : M2[k]? = some (.lst ds)) (h5 : ds[j]? = some w) (hz : ds.length ≤ sizeLine) : ePopI o v S M = .ok w (M2.set k (.lst (ds.eraseIdx j))) := by
  have hx : L2.ixN ds.length ((j : Nat) : Int) = some j := by
    have := (List.getElem?_eq_some_iff.mp h5).1
    unfold ixN
    rw [if_pos (Int.natCast_nonneg j), if_pos (by omega)]
    simp
  unfold ePopI
  rw [h1]
  show (match asL M1 (.ptr k) with | some _ => _ | none => Res.bad) = _
  rw [h2]
  show (v S M1).bind _ = _
  rw [h3]
  show (match M2[k]? with | some (.lst ds) => _ | _ => Res.bad) = _
  rw [h4]
  show (match L2.ixN ds.length ((j : Nat) : Int) with | some j => _ | none => Res.bad) = _
  rw [hx]
  show (match ds[j]? with | some w => _ | none => Res.bad) = _
  rw [h5]
  exact if_pos hz
theorem ne_nil {k : Nat} {d : D} {r : List D} (h : M[k]? = some (.lst (d :: r))) : fNeA (.ptr k) (.lst []) M = .ok (.bl true) M := by
  have e1 : fNeLen (.ptr k) (.lst []) M = .ok (.bl true) M := by
    have a : asL M (.ptr k) = some (d :: r) := by simp [asL, h]
    unfold fNeLen
    rw [a]
    show (if (d :: r).length ≠ ([] : List D).length then Res.ok (D.bl true) M else .bad) = _
    rw [if_pos (by simp)]
  have dp : der M (.ptr k) = .lst (d :: r) := by simp [der, asL, h]
  have e2 : fNe (.ptr k) (.lst []) M = .bad ∨ fNe (.ptr k) (.lst []) M = .ok (.bl true) M := by
    show (if okD 64 (der M (.ptr k)) = true ∧ okD 64 (der M (.lst [])) = true then Res.ok (D.bl (!PyData.eqv (toPy (der M (.ptr k))) (toPy (der M (.lst []))))) M else .bad) = .bad ∨ (if okD 64 (der M (.ptr k)) = true ∧ okD 64 (der M (.lst [])) = true then Res.ok (D.bl (!PyData.eqv (toPy (der M (.ptr k))) (toPy (der M (.lst []))))) M else .bad) = _
    split
    · right
      rw [dp]
      have dl : der M (.lst []) = .lst [] := rfl
      rw [dl]
      simp [toPy, toPys, PyData.eqv, PyData.eqvAll]
    · exact .inl rfl
  unfold fNeA or2
  rcases e2 with e | e
  · rw [e, e1]; rfl
  · rw [e]; rfl
theorem ne_nil0 {k : Nat} (h : M[k]? = some (.lst [])) : fNeA (.ptr k) (.lst []) M = .ok (.bl false) M := by
  have dp : der M (.ptr k) = .lst [] := by simp [der, asL, h]
  have dl : der M (.lst []) = .lst [] := rfl
  have e : fNe (.ptr k) (.lst []) M = .ok (.bl false) M := by
    show (if okD 64 (der M (.ptr k)) = true ∧ okD 64 (der M (.lst [])) = true then Res.ok (D.bl (!PyData.eqv (toPy (der M (.ptr k))) (toPy (der M (.lst []))))) M else .bad) = _
    rw [dp, dl, if_pos ⟨by simp [okD, okDs], by simp [okD, okDs]⟩]
    simp [toPy, toPys, PyData.eqv, PyData.eqvAll]
  unfold fNeA or2
  rw [e]
  rfl
end
section
variable {M : Mem} {h : Nat} {α : Type} {enc : α → D}
/-- the two lists behind the store -/
def SM (M : Mem) (h : Nat) (mo : MO) (a b : List D) : Mem := M.set h mo ++ [MO.lst a, .lst b]
theorem sm_eq {mo : MO} {a b : List D} (hh : h < M.length) : (M ++ [MO.lst a, MO.lst b]).set h mo = SM M h mo a b := by
  unfold SM
  rw [List.set_append_left _ _ hh]
theorem sm_len {mo : MO} : (M.set h mo).length = M.length := List.length_set
theorem sm0 {mo : MO} {a b : List D} : (SM M h mo a b)[M.length]? = some (.lst a) := by
  have := g0 (M := M.set h mo) (x := MO.lst a) (l := [MO.lst b])
  rwa [sm_len] at this
theorem sm1 {mo : MO} {a b : List D} : (SM M h mo a b)[M.length + 1]? = some (.lst b) := by
  have := g1 (M := M.set h mo) (x := MO.lst a) (y := MO.lst b) (l := [])
  rwa [sm_len] at this
theorem sms0 {mo : MO} {a b c : List D} : (SM M h mo a b).set M.length (.lst c) = SM M h mo c b := by
  have := s0 (M := M.set h mo) (x := MO.lst a) (y := MO.lst c) (l := [MO.lst b])
  rwa [sm_len] at this
theorem sms1 {mo : MO} {a b c : List D} : (SM M h mo a b).set (M.length + 1) (.lst c) = SM M h mo a c := by
  have := s1 (M := M.set h mo) (x := MO.lst a) (y := MO.lst b) (z := MO.lst c) (l := [])
  rwa [sm_len] at this
theorem draw_sm {mo : MO} {a b : List D} (hh : h < M.length) (hm : Hand mo) {t : Int} (t0 : 0 < t) (t1 : t ≤ 4294967296) :
    ∃ r mo', Hand mo' ∧ 0 ≤ r ∧ r < t ∧ g__law_draw [.ptr h, .int t] (SM M h mo a b) = .ok (.int r) (SM M h mo' a b) := by
  obtain ⟨r, mo', hm', r0, r1, e⟩ := draw_eq (M := M ++ [MO.lst a, MO.lst b]) (Nat.lt_of_lt_of_le hh (by rw [List.length_append]; exact Nat.le_add_right _ _)) hm t0 t1
  rw [sm_eq hh, sm_eq hh] at e
  exact ⟨r, mo', hm', r0, r1, e⟩
theorem erase_perm : ∀ (l : List α) (j : Nat) (hj : j < l.length), (l[j] :: l.eraseIdx j).Perm l
  | x :: r, 0, _ => List.Perm.refl _
  | x :: r, j + 1, hj => by
    have hj' : j < r.length := by rw [List.length_cons] at hj; omega
    have ih := erase_perm r j hj'
    show (r[j] :: x :: r.eraseIdx j).Perm (x :: r)
    exact (List.Perm.swap _ _ _).trans (List.Perm.cons x ih)
theorem erase_map : ∀ (l : List α) (j : Nat), (l.map enc).eraseIdx j = (l.eraseIdx j).map enc
  | [], j => rfl
  | x :: r, 0 => rfl
  | x :: r, j + 1 => by
    show enc x :: (r.map enc).eraseIdx j = _
    rw [erase_map r j]
    rfl
theorem shuf_step {mo : MO} {left found : List α} {sm : D} (hh : h < M.length) (hm : Hand mo) (h0 : left ≠ []) (hl : left.length + found.length ≤ 1000) : ∃ (y : α) (left' : List α) (mo' : MO), Hand mo' ∧ left'.length + 1 = left.length ∧ (y :: left').Perm left ∧
    b__law_shuffled_1 [some (.ptr h), some sm, some (.ptr M.length), some (.ptr (M.length + 1))] (SM M h mo (left.map enc) (found.map enc)) = .nx [some (.ptr h), some sm, some (.ptr M.length), some (.ptr (M.length + 1))] (SM M h mo' (left'.map enc) ((found ++ [y]).map enc)) := by
  have lp : 0 < left.length := List.length_pos_iff.mpr h0
  obtain ⟨r, mo1, hm1, r0, r1, e1⟩ := draw_sm (M := M) (a := left.map enc) (b := found.map enc) hh hm (t := (left.length : Int)) (by omega) (by omega)
  obtain ⟨j, rfl⟩ := Int.eq_ofNat_of_zero_le r0
  have hj : j < left.length := by exact_mod_cast r1
  refine ⟨left[j], left.eraseIdx j, mo1, hm1, by rw [List.length_eraseIdx, if_pos hj]; omega, erase_perm left j hj, ?_⟩
  have bl : bLenA [.ptr M.length] (SM M h mo (left.map enc) (found.map enc)) = .ok (.int (left.length : Nat)) (SM M h mo (left.map enc) (found.map enc)) := by
    have a : bLen [.ptr M.length] (SM M h mo (left.map enc) (found.map enc)) = .ok (.int (left.length : Nat)) (SM M h mo (left.map enc) (found.map enc)) := by
      have sq : seqOf (SM M h mo (left.map enc) (found.map enc)) (.ptr M.length) = some (left.map enc) := by simp [seqOf, asL, sm0]
      show (match seqOf (SM M h mo (left.map enc) (found.map enc)) (.ptr M.length) with | some xs => Res.ok (D.int xs.length) _ | none => .bad) = _
      rw [sq]
      show Res.ok (D.int ((left.map enc).length : Nat)) _ = _
      rw [List.length_map]
    unfold bLenA orC
    rw [a]
    rfl
  have dr : eCall g__law_draw (aCons (eVar 0) (aCons (eCall bLenA (aCons (eVar 2) aNil)) aNil)) [some (.ptr h), some sm, some (.ptr M.length), some (.ptr (M.length + 1))] (SM M h mo (left.map enc) (found.map enc)) = .ok (.int (j : Nat)) (SM M h mo1 (left.map enc) (found.map enc)) := by
    simp only [eCall_ap, aCons_ap, eVar_ap, List.getElem?_cons_succ, List.getElem?_cons_zero, vR_some, c1_ok, aNil_ap, c2_ok, cR_ok, bl]
    exact e1
  have pp : ePopI (eVar 2) (eCall g__law_draw (aCons (eVar 0) (aCons (eCall bLenA (aCons (eVar 2) aNil)) aNil))) [some (.ptr h), some sm, some (.ptr M.length), some (.ptr (M.length + 1))] (SM M h mo (left.map enc) (found.map enc)) = .ok (enc left[j]) (SM M h mo1 ((left.eraseIdx j).map enc) (found.map enc)) := by
    rw [ePopI_at (k := M.length) (ds0 := left.map enc) (ds := left.map enc) (j := j) (w := enc left[j]) (M1 := SM M h mo (left.map enc) (found.map enc)) rfl (by simp only [asL, sm0]) dr sm0 (by rw [List.getElem?_map, List.getElem?_eq_getElem hj]; rfl) (by rw [List.length_map, sizeLine_eq]; omega), sms0, erase_map]
  have ap : eApp (eVar 3) (ePopI (eVar 2) (eCall g__law_draw (aCons (eVar 0) (aCons (eCall bLenA (aCons (eVar 2) aNil)) aNil)))) [some (.ptr h), some sm, some (.ptr M.length), some (.ptr (M.length + 1))] (SM M h mo (left.map enc) (found.map enc)) = .ok .non (SM M h mo1 ((left.eraseIdx j).map enc) ((found ++ [left[j]]).map enc)) := by
    rw [eApp_at (k := M.length + 1) (ds0 := found.map enc) (ds := found.map enc) (M1 := SM M h mo (left.map enc) (found.map enc)) rfl (by simp only [asL, sm1]) pp sm1 (by rw [List.length_map, sizeLine_eq]; omega), sms1, List.map_append]
    rfl
  unfold b__law_shuffled_1
  rw [kDrop_ap, ap, drR_ok]
theorem shuf_loop {sm : D} (hh : h < M.length) : ∀ (n : Nat) (left found : List α) (mo : MO), left.length = n → Hand mo → left.length + found.length ≤ 1000 → ∃ (l' : List α) (mo' : MO), Hand mo' ∧ l'.Perm (found ++ left) ∧
    t__law_shuffled_2 [some (.ptr h), some sm, some (.ptr M.length), some (.ptr (M.length + 1))] (SM M h mo (left.map enc) (found.map enc)) = .nx [some (.ptr h), some sm, some (.ptr M.length), some (.ptr (M.length + 1))] (SM M h mo' [] (l'.map enc))
  | 0, left, found, mo, hn, hm, hl => by
    have e := List.length_eq_zero_iff.mp hn
    subst e
    refine ⟨found, mo, hm, by rw [List.append_nil], ?_⟩
    unfold t__law_shuffled_2
    rw [kWhile_eq]
    simp only [bV_ap, e2_ap, eVar_ap, List.getElem?_cons_succ, List.getElem?_cons_zero, vR_some, s2_ok, eLst_ap, aNil_ap, lsR_0, s3_ok, List.map_nil, ne_nil0 sm0, bR_ok]
    rfl
  | n + 1, left, found, mo, hn, hm, hl => by
    have h0 : left ≠ [] := fun e => by rw [e] at hn; cases hn
    obtain ⟨y, left', mo1, hm1, hl1, pm, e1⟩ := shuf_step (enc := enc) (found := found) (sm := sm) hh hm h0 hl
    obtain ⟨l', mo2, hm2, p2, e2'⟩ := shuf_loop (sm := sm) hh n left' (found ++ [y]) mo1 (by omega) hm1 (by rw [List.length_append, List.length_singleton]; omega)
    refine ⟨l', mo2, hm2, p2.trans ?_, ?_⟩
    · rw [List.append_assoc]
      exact (List.Perm.append_left found pm)
    · unfold t__law_shuffled_2 at e2' ⊢
      rw [kWhile_eq]
      obtain ⟨x, r, rfl⟩ := List.exists_cons_of_ne_nil h0
      simp only [bV_ap, e2_ap, eVar_ap, List.getElem?_cons_succ, List.getElem?_cons_zero, vR_some, s2_ok, eLst_ap, aNil_ap, lsR_0, s3_ok]
      rw [ne_nil (M := SM M h mo ((x :: r).map enc) (found.map enc)) (d := enc x) (r := r.map enc) sm0]
      show (match b__law_shuffled_1 _ _ with | .nx S2 M2 => _ | .ct S2 M2 => _ | .bk S2 M2 => _ | r => r) = _
      rw [e1]
      exact e2'
/-- a list shuffled -/
theorem shuffled_eq {mo : MO} (hh : h < M.length) (hM : NoP M) (hm : Hand mo) {l : List α} (hl : l.length ≤ 1000) (lo : ∀ n x, lowD n (enc x) = true) : ∃ (l' : List α) (mo' : MO), Hand mo' ∧ l'.Perm l ∧
    g__law_shuffled [.ptr h, .lst (l.map enc)] (M.set h mo) = .ok (.lst (l'.map enc)) (M.set h mo') := by
  obtain ⟨l', mo', hm', pm, e⟩ := shuf_loop (enc := enc) (M := M) (sm := .lst (l.map enc)) hh l.length l [] mo rfl hm (by simp; omega)
  refine ⟨l', mo', hm', pm, ?_⟩
  unfold g__law_shuffled
  rw [runF_ap (show [D.ptr h, D.lst (l.map enc)].length = 2 from rfl)]
  unfold t__law_shuffled
  have e1 : bListP [.lst (l.map enc)] (M.set h mo) = .ok (.ptr M.length) (M.set h mo ++ [MO.lst (l.map enc)]) := by
    show Res.ok (D.ptr (M.set h mo).length) _ = _
    rw [sm_len]
  have ll : (M.set h mo ++ [MO.lst (l.map enc)]).length = M.length + 1 := by rw [List.length_append, sm_len]; rfl
  have sm' : M.set h mo ++ [MO.lst (l.map enc)] ++ [MO.lst []] = SM M h mo (l.map enc) (([] : List α).map enc) := by rw [List.append_assoc]; rfl
  have fz : eFrz (eVar 3) [some (.ptr h), some (.lst (l.map enc)), some (.ptr M.length), some (.ptr (M.length + 1))] (SM M h mo' [] (l'.map enc)) = .ok (.lst (l'.map enc)) (M.set h mo' ++ [MO.lst [], MO.gone]) := by
    rw [eFrz_l (k := M.length + 1) (ds := l'.map enc) (M1 := SM M h mo' [] (l'.map enc)) rfl sm1]
    have := s1 (M := M.set h mo') (x := MO.lst []) (y := MO.lst (l'.map enc)) (z := MO.gone) (l := [])
    rw [sm_len] at this
    unfold SM
    rw [this]
  simp only [List.map_cons, List.map_nil, List.replicate, List.cons_append, List.nil_append, kSeq_ap, kAsg_ap, eCall_ap, aCons_ap, eVar_ap, List.getElem?_cons_succ, List.getElem?_cons_zero, vR_some, c1_ok, aNil_ap, c2_ok, cR_ok, e1, asR_ok, gN_ap, stR_ok, thn_nx, List.set_cons_succ, List.set_cons_zero, eLstP_ap, lpR_0, ll]
  rw [sm', e]
  simp only [thn_nx, kRet_ap, fz, rtR_ok, fnR_rt]
  have : (M.set h mo).length = (M.set h mo').length := by rw [sm_len, sm_len]
  rw [this]
  exact set_fail (hM.set (Hand.low hm')) (lowDs_map (lo _) l') (by simp)
end
end QL
end
section
set_option Elab.async false
set_option linter.all false
set_option maxRecDepth 100000
set_option maxHeartbeats 1000000
set_option autoImplicit false
/-! RItem: what an item is; the first bad one. -/
namespace QL
open PySem PySem.Spec L2
open Classical
theorem fIxA_t {ds : List D} {n : Nat} {d : D} {M : Mem} (h : ds[n]? = some d) : fIxA (.tup ds) (.int (n : Nat)) M = .ok d M := by
  have e : L2.atI ds ((n : Nat) : Int) = some d := by
    unfold L2.atI ixN
    rw [if_pos (Int.natCast_nonneg n), if_pos (by have := (List.getElem?_eq_some_iff.mp h).1; omega)]
    simpa using h
  simp [fIxA, or2, orR, fDIx, look, asK, asTt, fIx, e]
/-- a good item -/
def itB : D → Bool
  | .tup [a, b] => nmB a && rgB 0 1000000000000000000000000000000 b
  | _ => false
section
variable {M : Mem} {S : Sl} {d a b c : D}
theorem isV_tup (h : Th d) : isV "tuple" d = true → ∃ ds, d = .tup ds ∧ ds.length ≤ 1000 ∧ ∀ x ∈ ds, Th x := fun z => by
  cases h with
  | non => exact absurd z (by decide)
  | bl b => rw [tp_bl] at z; cases z
  | int i => rw [tp_int] at z; cases z
  | str x _ => rw [tp_str] at z; cases z
  | tup ds hl hx => exact ⟨ds, rfl, hl, hx⟩
  | lst x => rw [tp_lst] at z; cases z
  | dK x => rw [tp_dK] at z; cases z
  | obj n fs h => cases z
theorem itB_not (h : ¬ ∃ a b, d = .tup [a, b]) : itB d = false := by
  unfold itB
  split
  · exact absurd ⟨_, _, rfl⟩ h
  · rfl
theorem two {ds : List D} (h : ds.length = 2) : ∃ a b, ds = [a, b] := by
  match ds, h with
  | [a, b], _ => exact ⟨a, b, rfl⟩
theorem lenT {ds : List D} {i : Nat} (h : S[i]? = some (some (.tup ds))) : eCall bLenA (aCons (eVar i) aNil) S M = .ok (.int ds.length) M := by
  simp only [eCall_ap, aCons_ap, eVar_ap, h, vR_some, c1_ok, aNil_ap, c2_ok, cR_ok]
  rfl
theorem nm_str {d : D} (h : nmB d = true) : ∃ x, d = .str x := by
  cases d <;> first | exact ⟨_, rfl⟩ | cases h
theorem it_str (h : itB d = true) : ∃ x b, d = .tup [.str x, b] := by
  unfold itB at h
  split at h
  · rw [Bool.and_eq_true] at h
    obtain ⟨x, rfl⟩ := nm_str h.1
    exact ⟨x, _, rfl⟩
  · cases h
theorem item_eq (h : Th d) : g__law_is_item [d] M = .ok (.bl (itB d)) M := by
  have i1 : eIsO ISO "tuple" (eVar 0) [some d] M = .ok (.bl (isV "tuple" d)) M := isO_at h rfl
  unfold g__law_is_item
  rw [runF_ap (show [d].length = 1 from rfl)]
  unfold t__law_is_item t__law_is_item_1
  simp only [List.map_cons, List.map_nil, List.replicate, List.append_nil, kSeq_ap, kIf_ap, bOr_ap, bNot_ap, bV_ap, i1, bR_ok, nR_ok]
  cases z : isV "tuple" d with
  | false =>
    rw [itB_not fun ⟨a, b, e⟩ => by rw [e, tp_tup] at z; cases z]
    simp only [Bool.not_false, orRr_t, ifR_t, kRet_ap, eC_ap, rtR_ok, thn_rt, fnR_rt]
    exact settle_ok (Nat.le_refl _)
  | true =>
    obtain ⟨ds, rfl, hl, hx⟩ := isV_tup h z
    have i2 := lenT (M := M) (S := [some (.tup ds)]) (i := 0) rfl
    simp only [Bool.not_true, orRr_f, bOr_ap, bNot_ap, bV_ap, e2_ap, i2, s2_ok, eC_ap, s3_ok, fNe_i, bR_ok]
    by_cases q : (ds.length : Int) = 2
    · obtain ⟨a, b, rfl⟩ := two (show ds.length = 2 by omega)
      have ta := hx a (by simp)
      have tb := hx b (by simp)
      have x0 : fIxA (.tup [a, b]) (.int 0) M = .ok a M := fIxA_t (n := 0) rfl
      have x1 : fIxA (.tup [a, b]) (.int 1) M = .ok b M := fIxA_t (n := 1) rfl
      have na := word_eq (M := M) ta
      have rb : itB (.tup [a, b]) = (nmB a && rgB 0 1000000000000000000000000000000 b) := rfl
      rw [rb]
      simp only [decide_eq_true q, Bool.not_true, orRr_f, bOr_ap, bNot_ap, bV_ap, eCall_ap, aCons_ap, e2_ap, eVar_ap, List.getElem?_cons_zero, vR_some, s2_ok, s3_ok, eC_ap, x0, c1_ok, aNil_ap, c2_ok, cR_ok, na, bR_ok, nR_ok]
      cases ha : nmB a with
      | false =>
        simp only [Bool.not_false, orRr_t, ifR_t, kRet_ap, eC_ap, rtR_ok, thn_rt, fnR_rt, Bool.false_and]
        exact settle_ok (Nat.le_refl _)
      | true =>
        have eb : (e2 fIxA (eVar 0) (eC (.int 1))) [some (.tup [a, b])] M = .ok b M := by
          simp only [e2_ap, eVar_ap, List.getElem?_cons_zero, vR_some, s2_ok, s3_ok, eC_ap, x1]
        have j1 : eIsO ISO "int" (e2 fIxA (eVar 0) (eC (.int 1))) [some (.tup [a, b])] M = .ok (.bl (isV "int" b)) M := isO_at tb eb
        have j2 : eIsO ISO "bool" (e2 fIxA (eVar 0) (eC (.int 1))) [some (.tup [a, b])] M = .ok (.bl (isV "bool" b)) M := isO_at tb eb
        have pw : (e2 fPow (eC (.int 10)) (eC (.int 30))) [some (.tup [a, b])] M = .ok (.int 1000000000000000000000000000000) M := rfl
        simp only [Bool.not_true, ifR_f, kNil_ap, thn_nx, kRet_ap, eAnd_ap, j1, Bool.true_and]
        cases zb : inB b with
        | true =>
          obtain ⟨i, rfl⟩ := inB_int tb zb
          have l := le3 (M := M) (S := [some (.tup [a, .int i])]) (lo := 0) (hi := 1000000000000000000000000000000) (i := i) (a := eC (.int 0)) (b := e2 fIxA (eVar 0) (eC (.int 1))) (c := e2 fPow (eC (.int 10)) (eC (.int 30))) rfl eb pw
          have t1 := iv_int i
          have t2 := ib_int i
          simp only [t1, eaR_t, eAnd_ap, eNot_ap, j2, t2, enR_ok, Bool.not_false, l, rtR_ok, fnR_rt]
          exact settle_ok (Nat.le_refl _)
        | false =>
          have n : ¬ ∃ i, b = .int i := fun ⟨i, e⟩ => by rw [e, in_int] at zb; cases zb
          rw [rgB_not n]
          unfold inB at zb
          cases q2 : isV "int" b with
          | false =>
            simp only [eaR_f, rtR_ok, fnR_rt]
            exact settle_ok (Nat.le_refl _)
          | true =>
            rw [q2, Bool.true_and] at zb
            simp only [eaR_t, eAnd_ap, eNot_ap, j2, enR_ok, zb, eaR_f, rtR_ok, fnR_rt]
            exact settle_ok (Nat.le_refl _)
    · rw [itB_not fun ⟨a, b, e⟩ => by cases e; exact q rfl]
      simp only [decide_eq_false q, Bool.not_false, orRr_t, ifR_t, kRet_ap, eC_ap, rtR_ok, thn_rt, fnR_rt]
      exact settle_ok (Nat.le_refl _)
end
end QL
end
section
set_option Elab.async false
set_option linter.all false
set_option maxRecDepth 100000
set_option maxHeartbeats 1000000
set_option autoImplicit false
/-! RDue: what is due of a thing. -/
namespace QL
open PySem PySem.Spec L2
open Classical
/-- the name of a good item, its tickets -/
def kyOf : D → Str
  | .tup (.str x :: _) => x
  | _ => ""
def vlOf : D → D
  | .tup [_, b] => b
  | _ => .non
/-- where the first bad item stands -/
noncomputable def badAt : List Str → List D → Nat → Option Nat
  | _, [], _ => none
  | p, d :: r, n => if itB d = true ∧ kyOf d ∉ p then badAt (p ++ [kyOf d]) r (n + 1) else some n
theorem badAt_ge : ∀ {ds : List D} {p : List Str} {n m : Nat}, badAt p ds n = some m → n ≤ m
  | [], _, _, _, h => by cases h
  | d :: r, p, n, m, h => by
    unfold badAt at h
    split at h
    · have := badAt_ge h
      omega
    · cases h
      exact Nat.le_refl _
/-- what is due of a list of items -/
noncomputable def ansL (ds : List D) : D := match badAt [] ds 0 with
  | none => .tup [.str "made", .int ds.length]
  | some m => .tup [.str "bad", .int (m : Nat)]
noncomputable def ansD : D → D
  | .lst ds => if ds.length ≤ 24 then ansL ds else .tup [.str "wrong", .int 0]
  | _ => .tup [.str "wrong", .int 0]
/-- a thing: what it is made of, if that is looked at -/
structure Ty (x : D) : Prop where
  th : Th x
  el : ∀ ds, x = .lst ds → ds.length ≤ 24 → ∀ d ∈ ds, Th d
section
variable {M B : Mem} {S : Sl} {d x th : D}
theorem isV_lst (h : Th d) : isV "list" d = true → ∃ ds, d = .lst ds := fun z => by
  cases h with
  | non => exact absurd z (by decide)
  | bl b => exact absurd z (by show ¬ isTy "bool" "list" = true; decide)
  | int i => exact absurd z (by show ¬ isTy "int" "list" = true; decide)
  | str x _ => exact absurd z (by show ¬ isTy "str" "list" = true; decide)
  | tup x _ _ => exact absurd z (by show ¬ isTy "tuple" "list" = true; decide)
  | lst x => exact ⟨x, rfl⟩
  | dK x => exact absurd z (by show ¬ isTy "dict" "list" = true; decide)
  | obj n fs h => cases z
theorem ansD_not (h : ¬ ∃ ds, x = .lst ds) : ansD x = .tup [.str "wrong", .int 0] := by
  cases x <;> first | rfl | exact absurd ⟨_, rfl⟩ h
theorem it_parts (h : itB d = true) : ∃ y i, d = .tup [.str y, .int i] ∧ wdB y = true := by
  obtain ⟨y, b, rfl⟩ := it_str h
  have h' : (nmB (.str y) && rgB 0 1000000000000000000000000000000 b) = true := h
  rw [Bool.and_eq_true] at h'
  cases b <;> first | exact ⟨_, _, rfl, h'.1⟩ | exact absurd h'.2 (by simp [rgB])
theorem due_step {p : List Str} {n : Nat} (h : Th d) (hp : p.length ≤ 64) :
    b__law_due_3 [some th, some (.ptr B.length), some (.int (n : Nat)), some d] (B ++ [MO.dK (TE p fun _ => .bl true)]) =
      if itB d = true ∧ kyOf d ∉ p then .nx [some th, some (.ptr B.length), some (.int (n : Nat)), some d] (B ++ [MO.dK (TE (p ++ [kyOf d]) fun _ => .bl true)])
      else .rt (.tup [.str "bad", .int (n : Nat)]) (B ++ [MO.dK (TE p fun _ => .bl true)]) := by
  have ie := item_eq (M := B ++ [MO.dK (TE p fun _ => D.bl true)]) h
  unfold b__law_due_3 t__law_due_2
  simp only [kSeq_ap, kIf_ap, bOr_ap, bNot_ap, bV_ap, eCall_ap, aCons_ap, eVar_ap, List.getElem?_cons_succ, List.getElem?_cons_zero, vR_some, c1_ok, aNil_ap, c2_ok, cR_ok, ie, bR_ok, nR_ok]
  cases z : itB d with
  | false =>
    simp only [Bool.not_false, orRr_t, ifR_t, kRet_ap, eTup_ap, aCons_ap, eC_ap, eVar_ap, List.getElem?_cons_succ, List.getElem?_cons_zero, vR_some, c1_ok, aNil_ap, c2_ok, tpR_2, rtR_ok, thn_rt]
    rw [if_neg (by simp)]
  | true =>
    obtain ⟨y, i, rfl, _⟩ := it_parts z
    have k1 : kyOf (.tup [.str y, .int i]) = y := rfl
    rw [k1]
    have x0 : fIxA (.tup [.str y, .int i]) (.int 0) (B ++ [MO.dK (TE p fun _ => D.bl true)]) = .ok (.str y) (B ++ [MO.dK (TE p fun _ => D.bl true)]) := fIxA_t (n := 0) rfl
    have ix : e2 fIxA (eVar 3) (eC (.int 0)) [some th, some (.ptr B.length), some (.int (n : Nat)), some (.tup [.str y, .int i])] (B ++ [MO.dK (TE p fun _ => D.bl true)]) = .ok (.str y) (B ++ [MO.dK (TE p fun _ => D.bl true)]) := by
      simp only [e2_ap, eVar_ap, List.getElem?_cons_succ, List.getElem?_cons_zero, vR_some, s2_ok, eC_ap, s3_ok, x0]
    have it := in_te (x := y) (g0 (M := B) (x := MO.dK (TE p fun _ => D.bl true)) (l := []))
    simp only [Bool.not_true, orRr_f, bV_ap, e2_ap, ix, eVar_ap, List.getElem?_cons_succ, List.getElem?_cons_zero, vR_some, s2_ok, eC_ap, s3_ok, x0, it, bR_ok]
    by_cases q : y ∈ p
    · simp only [decide_eq_true q, ifR_t, kRet_ap, eTup_ap, aCons_ap, eC_ap, eVar_ap, List.getElem?_cons_succ, List.getElem?_cons_zero, vR_some, c1_ok, aNil_ap, c2_ok, tpR_2, rtR_ok, thn_rt]
      rw [if_neg (by simp [q])]
    · simp only [decide_eq_false q, ifR_f, kNil_ap, thn_nx]
      rw [if_pos ⟨trivial, q⟩]
      rw [kDPut_at (d := .bl true) (k := B.length) (x := y) (kvs := TE p fun _ => D.bl true) (N1 := B ++ [MO.dK (TE p fun _ => D.bl true)]) (N2 := B ++ [MO.dK (TE p fun _ => D.bl true)]) (N3 := B ++ [MO.dK (TE p fun _ => D.bl true)]) rfl rfl ix g0 (by rw [te_len, sizeLine_eq]; omega), s0, te_new q]
      simp
theorem due_loop {gd : Mem → Prop} (hg : ∀ M, gd M) : ∀ (ds : List D) (p : List Str) (n : Nat), (∀ d ∈ ds, Th d) → p.length + ds.length ≤ 64 → ∃ p' : List Str,
    forL gd (gTupF 2 (gConsF (gN 2) (gConsF (gN 3) gNilF))) b__law_due_3 [2, 3] (enumD n ds) [some th, some (.ptr B.length), none, none] (B ++ [MO.dK (TE p fun _ => .bl true)]) =
      match badAt p ds n with
      | none => .nx [some th, some (.ptr B.length), none, none] (B ++ [MO.dK (TE p' fun _ => .bl true)])
      | some m => .rt (.tup [.str "bad", .int (m : Nat)]) (B ++ [MO.dK (TE p' fun _ => .bl true)])
  | [], p, n, _, _ => ⟨p, by
    show forL gd _ _ _ [] _ _ = _
    rw [forL_end (hg _)]
    rfl⟩
  | d :: r, p, n, h, hl => by
    have st := due_step (B := B) (th := th) (p := p) (n := n) (h d List.mem_cons_self) (by simp at hl; omega)
    by_cases q : itB d = true ∧ kyOf d ∉ p
    · obtain ⟨p', e⟩ := due_loop hg r (p ++ [kyOf d]) (n + 1) (fun y hy => h y (List.mem_cons_of_mem _ hy)) (by rw [List.length_append, List.length_singleton]; simp at hl; omega)
      refine ⟨p', ?_⟩
      rw [if_pos q] at st
      show forL gd _ _ _ (.tup [.int (n : Nat), d] :: enumD (n + 1) r) _ _ = _
      rw [forL_step (S1 := [some th, some (.ptr B.length), some (.int (n : Nat)), some d]) (M1 := B ++ [MO.dK (TE p fun _ => D.bl true)]) (hg _) (by simp), st]
      have bb : badAt p (d :: r) n = badAt (p ++ [kyOf d]) r (n + 1) := if_pos q
      rw [bb]
      exact e
    · refine ⟨p, ?_⟩
      rw [if_neg q] at st
      show forL gd _ _ _ (.tup [.int (n : Nat), d] :: enumD (n + 1) r) _ _ = _
      rw [forL_step (S1 := [some th, some (.ptr B.length), some (.int (n : Nat)), some d]) (M1 := B ++ [MO.dK (TE p fun _ => D.bl true)]) (hg _) (by simp), st]
      have bb : badAt p (d :: r) n = some n := if_neg q
      rw [bb]
theorem due_eq (hM : NoP M) (h : Ty x) : g__law_due [x] M = .ok (ansD x) M := by
  have i1 : eIsO ISO "list" (eVar 0) [some x, none, none, none] M = .ok (.bl (isV "list" x)) M := isO_at h.th rfl
  unfold g__law_due
  rw [runF_ap (show [x].length = 1 from rfl)]
  unfold t__law_due t__law_due_1
  simp only [List.map_cons, List.map_nil, List.replicate, List.cons_append, List.nil_append, kSeq_ap, kIf_ap, bOr_ap, bNot_ap, bV_ap, i1, bR_ok, nR_ok]
  cases z : isV "list" x with
  | false =>
    rw [ansD_not fun ⟨ds, e⟩ => by rw [e, ls_lst] at z; cases z]
    simp only [Bool.not_false, orRr_t, ifR_t, kRet_ap, eTup_ap, aCons_ap, eC_ap, c1_ok, aNil_ap, c2_ok, tpR_2, rtR_ok, thn_rt, fnR_rt]
    exact settle_ok (Nat.le_refl _)
  | true =>
    obtain ⟨ds, rfl⟩ := isV_lst h.th z
    simp only [Bool.not_true, orRr_f, bV_ap, e2_ap, eCall_ap, aCons_ap, eVar_ap, List.getElem?_cons_succ, List.getElem?_cons_zero, vR_some, c1_ok, aNil_ap, c2_ok, cR_ok, bLenA_l, s2_ok, eC_ap, s3_ok, fGt_i, bR_ok]
    by_cases q : ds.length ≤ 24
    · have a1 : ansD (.lst ds) = ansL ds := if_pos q
      have gt : decide ((24 : Int) < (ds.length : Int)) = false := decide_eq_false (by omega)
      rw [a1]
      obtain ⟨p', lp⟩ := due_loop (B := M) (th := .lst ds) (gd := Its.gd ⟨enumD 0 ds, none⟩) (fun _ => trivial) ds [] 0 (h.el ds rfl q) (by simp; omega)
      have nk : ∀ S, eDnewKP S M = .ok (.ptr M.length) (M ++ [MO.dK []]) := fun _ => rfl
      have a2 : t__law_due_4 [some (.lst ds), some (.ptr M.length), none, none] (M ++ [MO.dK []]) = match badAt [] ds 0 with
          | none => .nx [some (.lst ds), some (.ptr M.length), none, none] (M ++ [MO.dK (TE p' fun _ => .bl true)])
          | some m => .rt (.tup [.str "bad", .int (m : Nat)]) (M ++ [MO.dK (TE p' fun _ => .bl true)]) := by
        unfold t__law_due_4
        rw [kFor_ap]
        show foR _ _ _ _ (Res.ok ⟨enumD 0 ds, none⟩ _) = _
        rw [foR_ok]
        exact lp
      simp only [gt, ifR_f, kNil_ap, thn_nx, kSeq_ap, kAsg_ap, nk, asR_ok, gN_ap, stR_ok, List.set_cons_succ, List.set_cons_zero, a2]
      unfold ansL
      cases badAt [] ds 0 with
      | none =>
        simp only [thn_nx, kRet_ap, eTup_ap, aCons_ap, eC_ap, eCall_ap, eVar_ap, List.getElem?_cons_succ, List.getElem?_cons_zero, vR_some, c1_ok, aNil_ap, c2_ok, cR_ok, bLenA_l, tpR_2, rtR_ok, fnR_rt]
        exact set_fail (d := .tup [.str "made", .int ds.length]) (l := [MO.dK (TE p' fun _ => .bl true)]) hM rfl (by simp)
      | some m =>
        simp only [thn_rt, fnR_rt]
        exact set_fail (d := .tup [.str "bad", .int (m : Nat)]) (l := [MO.dK (TE p' fun _ => .bl true)]) hM rfl (by simp)
    · have a1 : ansD (.lst ds) = .tup [.str "wrong", .int 0] := if_neg q
      have gt : decide ((24 : Int) < (ds.length : Int)) = true := decide_eq_true (by omega)
      rw [a1]
      simp only [gt, ifR_t, kRet_ap, eTup_ap, aCons_ap, eC_ap, c1_ok, aNil_ap, c2_ok, tpR_2, rtR_ok, thn_rt, fnR_rt]
      exact settle_ok (Nat.le_refl _)
end
end QL
end
section
set_option Elab.async false
set_option linter.all false
set_option maxRecDepth 100000
set_option maxHeartbeats 1000000
set_option autoImplicit false
/-! RTold: what Purses tells of a thing. -/
namespace QL
open PySem PySem.Spec L2
open Classical
/-- the errors -/
def XB (n : Nat) : Ex := ⟨"BadItem", [("at", .int (n : Nat))]⟩
def XW : Ex := ⟨"Wrong", [("place", .int 0)]⟩
section
variable {M B : Mem} {S : Sl} {d x o ls : D} {v : Str → D}
theorem t2_eq {p : List Str} {n : Nat} (h : Th d) : t_Purses___init___2 [some o, some ls, some (.ptr B.length), some (.int (n : Nat)), some d] M =
    if itB d = true then .nx [some o, some ls, some (.ptr B.length), some (.int (n : Nat)), some d] M else .rz (XB n) [some o, some ls, some (.ptr B.length), some (.int (n : Nat)), some d] M := by
  have i1 : eIsO ISO "tuple" (eVar 4) [some o, some ls, some (.ptr B.length), some (.int (n : Nat)), some d] M = .ok (.bl (isV "tuple" d)) M := isO_at h rfl
  have rz : kRz "BadItem" ["at"] (aCons (eVar 3) aNil) [some o, some ls, some (.ptr B.length), some (.int (n : Nat)), some d] M = .rz (XB n) [some o, some ls, some (.ptr B.length), some (.int (n : Nat)), some d] M := kRzI rfl
  unfold t_Purses___init___2
  simp only [kIf_ap, bOr_ap, bNot_ap, bV_ap, i1, bR_ok, nR_ok]
  cases z : isV "tuple" d with
  | false =>
    rw [itB_not fun ⟨a, b, e⟩ => by rw [e, tp_tup] at z; cases z]
    simp only [Bool.not_false, orRr_t, ifR_t, rz, Bool.false_eq_true, if_false]
  | true =>
    obtain ⟨ds, rfl, hl, hx⟩ := isV_tup h z
    have i2 := lenT (M := M) (S := [some o, some ls, some (.ptr B.length), some (.int (n : Nat)), some (.tup ds)]) (i := 4) rfl
    simp only [Bool.not_true, orRr_f, bOr_ap, bNot_ap, bV_ap, e2_ap, i2, s2_ok, eC_ap, s3_ok, fNe_i, bR_ok]
    by_cases q : (ds.length : Int) = 2
    · obtain ⟨a, b, rfl⟩ := two (show ds.length = 2 by omega)
      have ta := hx a (by simp)
      have tb := hx b (by simp)
      have x0 : fIxA (.tup [a, b]) (.int 0) M = .ok a M := fIxA_t (n := 0) rfl
      have x1 : fIxA (.tup [a, b]) (.int 1) M = .ok b M := fIxA_t (n := 1) rfl
      have na := name_eq (M := M) ta
      have nb := amount_eq (M := M) tb
      have rb : itB (.tup [a, b]) = (nmB a && rgB 0 1000000000000000000000000000000 b) := rfl
      rw [rb]
      simp only [decide_eq_true q, Bool.not_true, orRr_f, bOr_ap, bNot_ap, bV_ap, eCall_ap, aCons_ap, e2_ap, eVar_ap, List.getElem?_cons_succ, List.getElem?_cons_zero, vR_some, s2_ok, s3_ok, eC_ap, x0, x1, c1_ok, aNil_ap, c2_ok, cR_ok, na, nb, bR_ok, nR_ok]
      cases ha : nmB a with
      | false => simp only [Bool.not_false, orRr_t, ifR_t, rz, Bool.false_and, Bool.false_eq_true, if_false]
      | true =>
        simp only [Bool.not_true, orRr_f, bOr_ap, bNot_ap, bV_ap, eCall_ap, aCons_ap, e2_ap, eVar_ap, List.getElem?_cons_succ, List.getElem?_cons_zero, vR_some, s2_ok, s3_ok, eC_ap, aNil_ap, x1, c1_ok, c2_ok, cR_ok, nb, bR_ok, nR_ok, Bool.true_and]
        cases hb : rgB 0 1000000000000000000000000000000 b with
        | false => simp only [Bool.not_false, ifR_t, rz, Bool.false_eq_true, if_false]
        | true => simp only [Bool.not_true, ifR_f, kNil_ap, if_true]
    · rw [itB_not fun ⟨a, b, e⟩ => by cases e; exact q rfl]
      simp only [decide_eq_false q, Bool.not_false, orRr_t, ifR_t, rz, Bool.false_eq_true, if_false]
theorem init_step {p : List Str} {n : Nat} (h : Th d) (hp : p.length ≤ 64) :
    b_Purses___init___4 [some o, some ls, some (.ptr B.length), some (.int (n : Nat)), some d] (B ++ [MO.dK (TE p v)]) =
      if itB d = true ∧ kyOf d ∉ p then .nx [some o, some ls, some (.ptr B.length), some (.int (n : Nat)), some d] (B ++ [MO.dK (TE (p ++ [kyOf d]) fun y => if y = kyOf d then vlOf d else v y)])
      else .rz (XB n) [some o, some ls, some (.ptr B.length), some (.int (n : Nat)), some d] (B ++ [MO.dK (TE p v)]) := by
  have t2 := t2_eq (M := B ++ [MO.dK (TE p v)]) (B := B) (o := o) (ls := ls) (n := n) (p := p) h
  unfold b_Purses___init___4 t_Purses___init___3
  rw [kSeq_ap, t2]
  by_cases z : itB d = true
  · rw [if_pos z]
    obtain ⟨y, i, rfl, _⟩ := it_parts z
    have k1 : kyOf (.tup [.str y, .int i]) = y := rfl
    have k2 : vlOf (.tup [.str y, .int i]) = .int i := rfl
    rw [k1, k2]
    have x0 : fIxA (.tup [.str y, .int i]) (.int 0) (B ++ [MO.dK (TE p v)]) = .ok (.str y) (B ++ [MO.dK (TE p v)]) := fIxA_t (n := 0) rfl
    have x1 : fIxA (.tup [.str y, .int i]) (.int 1) (B ++ [MO.dK (TE p v)]) = .ok (.int i) (B ++ [MO.dK (TE p v)]) := fIxA_t (n := 1) rfl
    have ix : e2 fIxA (eVar 4) (eC (.int 0)) [some o, some ls, some (.ptr B.length), some (.int (n : Nat)), some (.tup [.str y, .int i])] (B ++ [MO.dK (TE p v)]) = .ok (.str y) (B ++ [MO.dK (TE p v)]) := by
      simp only [e2_ap, eVar_ap, List.getElem?_cons_succ, List.getElem?_cons_zero, vR_some, s2_ok, eC_ap, s3_ok, x0]
    have ix1 : e2 fIxA (eVar 4) (eC (.int 1)) [some o, some ls, some (.ptr B.length), some (.int (n : Nat)), some (.tup [.str y, .int i])] (B ++ [MO.dK (TE p v)]) = .ok (.int i) (B ++ [MO.dK (TE p v)]) := by
      simp only [e2_ap, eVar_ap, List.getElem?_cons_succ, List.getElem?_cons_zero, vR_some, s2_ok, eC_ap, s3_ok, x1]
    have it := in_te (x := y) (g0 (M := B) (x := MO.dK (TE p v)) (l := []))
    have rz : kRz "BadItem" ["at"] (aCons (eVar 3) aNil) [some o, some ls, some (.ptr B.length), some (.int (n : Nat)), some (.tup [.str y, .int i])] (B ++ [MO.dK (TE p v)]) = .rz (XB n) [some o, some ls, some (.ptr B.length), some (.int (n : Nat)), some (.tup [.str y, .int i])] (B ++ [MO.dK (TE p v)]) := kRzI rfl
    have ii : e2 fInA (e2 fIxA (eVar 4) (eC (.int 0))) (eVar 2) [some o, some ls, some (.ptr B.length), some (.int (n : Nat)), some (.tup [.str y, .int i])] (B ++ [MO.dK (TE p v)]) = .ok (.bl (decide (y ∈ p))) (B ++ [MO.dK (TE p v)]) := by
      rw [e2_ap, ix, s2_ok]
      exact it
    simp only [thn_nx, kSeq_ap, kIf_ap, bV_ap, ii, bR_ok]
    by_cases q : y ∈ p
    · rw [decide_eq_true q, ifR_t, rz, if_neg (by simp [q])]
      rfl
    · rw [decide_eq_false q, ifR_f, kNil_ap, thn_nx, if_pos ⟨z, q⟩]
      rw [kDPut_at (d := .int i) (k := B.length) (x := y) (kvs := TE p v) (N1 := B ++ [MO.dK (TE p v)]) (N2 := B ++ [MO.dK (TE p v)]) (N3 := B ++ [MO.dK (TE p v)]) ix1 rfl ix g0 (by rw [te_len, sizeLine_eq]; omega), s0, te_new q]
  · rw [if_neg z, if_neg fun w => z w.1]
    rfl
/-- a table of numbers -/
def AllI (v : Str → D) : Prop := ∀ y, ∃ i : Int, v y = .int i
theorem low_te {n : Nat} (h : AllI v) : ∀ {ks : List Str}, lowK n (TE ks v) = true
  | [] => rfl
  | y :: r => by
    obtain ⟨i, e⟩ := h y
    show (lowD n (v y) && lowK n (TE r v)) = true
    rw [e, low_te h]
    rfl
theorem allI_put (h : AllI v) (hd : itB d = true) : AllI (fun y => if y = kyOf d then vlOf d else v y) := fun y => by
  obtain ⟨z, i, rfl, _⟩ := it_parts hd
  show ∃ j : Int, (if y = z then D.int i else v y) = .int j
  by_cases q : y = z
  · rw [if_pos q]; exact ⟨i, rfl⟩
  · rw [if_neg q]; exact h y
theorem init_loop {gd : Mem → Prop} (hg : ∀ M, gd M) : ∀ (ds : List D) (p : List Str) (v : Str → D) (n : Nat), AllI v → (∀ d ∈ ds, Th d) → p.length + ds.length ≤ 64 → ∃ (p' : List Str) (v' : Str → D), AllI v' ∧ (badAt p ds n = none → p'.length = p.length + ds.length) ∧
    forL gd (gTupF 2 (gConsF (gN 3) (gConsF (gN 4) gNilF))) b_Purses___init___4 [3, 4] (enumD n ds) [some o, some ls, some (.ptr B.length), none, none] (B ++ [MO.dK (TE p v)]) =
      match badAt p ds n with
      | none => .nx [some o, some ls, some (.ptr B.length), none, none] (B ++ [MO.dK (TE p' v')])
      | some m => .rz (XB m) [some o, some ls, some (.ptr B.length), some (.int (m : Nat)), some (ds.getD (m - n) .non)] (B ++ [MO.dK (TE p' v')])
  | [], p, v, n, hv, _, _ => ⟨p, v, hv, fun _ => rfl, by
    show forL gd _ _ _ [] _ _ = _
    rw [forL_end (hg _)]
    rfl⟩
  | d :: r, p, v, n, hv, h, hl => by
    have st := init_step (B := B) (o := o) (ls := ls) (p := p) (n := n) (v := v) (h d List.mem_cons_self) (by simp at hl; omega)
    by_cases q : itB d = true ∧ kyOf d ∉ p
    · obtain ⟨p', v', hv', hl', e⟩ := init_loop hg r (p ++ [kyOf d]) (fun y => if y = kyOf d then vlOf d else v y) (n + 1) (allI_put hv q.1) (fun y hy => h y (List.mem_cons_of_mem _ hy)) (by rw [List.length_append, List.length_singleton]; simp at hl; omega)
      have bb : badAt p (d :: r) n = badAt (p ++ [kyOf d]) r (n + 1) := if_pos q
      refine ⟨p', v', hv', fun z => ?_, ?_⟩
      · rw [hl' (bb ▸ z), List.length_append, List.length_singleton, List.length_cons]
        omega
      rw [if_pos q] at st
      show forL gd _ _ _ (.tup [.int (n : Nat), d] :: enumD (n + 1) r) _ _ = _
      rw [forL_step (S1 := [some o, some ls, some (.ptr B.length), some (.int (n : Nat)), some d]) (M1 := B ++ [MO.dK (TE p v)]) (hg _) (by simp), st]
      rw [bb]
      show forL gd _ _ _ (enumD (n + 1) r) [some o, some ls, some (.ptr B.length), none, none] _ = _
      rw [e]
      cases w : badAt (p ++ [kyOf d]) r (n + 1) with
      | none => rfl
      | some m =>
        have hm : n + 1 ≤ m := badAt_ge w
        show SR.rz _ [_, _, _, _, some (r.getD (m - (n + 1)) .non)] _ = SR.rz _ [_, _, _, _, some ((d :: r).getD (m - n) .non)] _
        rw [show m - n = (m - (n + 1)) + 1 by omega]
        rfl
    · refine ⟨p, v, hv, fun z => ?_, ?_⟩
      · have bb : badAt p (d :: r) n = some n := if_neg q
        rw [bb] at z
        cases z
      rw [if_neg q] at st
      show forL gd _ _ _ (.tup [.int (n : Nat), d] :: enumD (n + 1) r) _ _ = _
      rw [forL_step (S1 := [some o, some ls, some (.ptr B.length), some (.int (n : Nat)), some d]) (M1 := B ++ [MO.dK (TE p v)]) (hg _) (by simp), st]
      have bb : badAt p (d :: r) n = some n := if_neg q
      rw [bb]
      show SR.rz _ _ _ = SR.rz _ [_, _, _, _, some ((d :: r).getD (n - n) .non)] _
      rw [Nat.sub_self]
      rfl
end
end QL
end
section
set_option Elab.async false
set_option linter.all false
set_option maxRecDepth 100000
set_option maxHeartbeats 1000000
set_option autoImplicit false
/-! RTold2: Purses of a thing; what is told of it. -/
namespace QL
open PySem PySem.Spec L2
open Classical
/-- the error of a thing -/
noncomputable def errL (ds : List D) : Option Ex := match badAt [] ds 0 with
  | none => none
  | some m => some (XB m)
noncomputable def errD : D → Option Ex
  | .lst ds => if ds.length ≤ 24 then errL ds else some XW
  | _ => some XW
section
variable {M B : Mem} {S : Sl} {d x o ls : D} {v : Str → D}
theorem errD_not (h : ¬ ∃ ds, x = .lst ds) : errD x = some XW := by
  cases x <;> first | rfl | exact absurd ⟨_, rfl⟩ h
theorem fld_at {cl : Str} {S : Sl} {kvs : List (Key × D)} (h0 : S[0]? = some (some (.ptr M.length))) (h2 : S[2]? = some (some (.ptr (M ++ [MO.obj cl []]).length))) : kFld cl "table" (eVar 0) (eFrz (eVar 2)) S (M ++ [MO.obj cl []] ++ [MO.dK kvs]) = .nx S (M ++ [MO.obj cl [("table", .dK kvs)]] ++ [MO.gone]) := by
  unfold kFld
  rw [eFrz_k (k := (M ++ [MO.obj cl []]).length) (kvs := kvs) (N1 := M ++ [.obj cl []] ++ [MO.dK kvs]) (by rw [eVar_ap, h2, vR_some]) g0, s0]
  show (eVar 0 S (M ++ [MO.obj cl []] ++ [MO.gone])).thn S _ = _
  rw [eVar_ap, h0, vR_some]
  show (match (M ++ [MO.obj cl []] ++ [MO.gone])[M.length]? with | some (.obj c fs) => _ | _ => SR.bad) = _
  have gg : (M ++ [MO.obj cl []] ++ [MO.gone])[M.length]? = some (.obj cl []) := by simp
  rw [gg]
  show (if cl = cl ∧ ([] : List (Str × D)).length < 1000 then _ else SR.bad) = _
  rw [if_pos ⟨rfl, by decide⟩]
  simp [putD]
theorem init_eq (hM : NoP M) (h : Ty x) : ∃ (p : List Str) (v : Str → D), AllI v ∧ (errD x = none → ∃ ds, x = .lst ds ∧ p.length = ds.length ∧ ds.length ≤ 24) ∧
    g_Purses___init__ [.ptr M.length, x] (M ++ [MO.obj "Purses" []]) = match errD x with
      | some e => .rz e (M ++ [MO.obj "Purses" []])
      | none => .ok .non (M ++ [MO.obj "Purses" [("table", .dK (TE p v))]]) := by
  have hB : NoP (M ++ [MO.obj "Purses" []]) := NoP.app hM fun _ => rfl
  have i1 : eIsO ISO "list" (eVar 1) [some (.ptr M.length), some x, none, none, none] (M ++ [MO.obj "Purses" []]) = .ok (.bl (isV "list" x)) (M ++ [MO.obj "Purses" []]) := isO_at h.th rfl
  have rz : kRz "Wrong" ["place"] (aCons (eC (.int 0)) aNil) [some (.ptr M.length), some x, none, none, none] (M ++ [MO.obj "Purses" []]) = .rz XW [some (.ptr M.length), some x, none, none, none] (M ++ [MO.obj "Purses" []]) := kRzI rfl
  unfold g_Purses___init__
  rw [runF_ap (show [D.ptr M.length, x].length = 2 from rfl)]
  unfold t_Purses___init__ t_Purses___init___1
  simp only [List.map_cons, List.map_nil, List.replicate, List.cons_append, List.nil_append, kSeq_ap, kIf_ap, bOr_ap, bNot_ap, bV_ap, i1, bR_ok, nR_ok]
  cases z : isV "list" x with
  | false =>
    have e1 : errD x = some XW := errD_not fun ⟨ds, e⟩ => by rw [e, ls_lst] at z; cases z
    refine ⟨[], fun _ => .int 0, fun _ => ⟨0, rfl⟩, (fun w => by rw [e1] at w; cases w), ?_⟩
    rw [e1]
    simp only [Bool.not_false, orRr_t, ifR_t, rz, thn_rz, fnR_rz]
    exact settle_rz (Nat.le_refl _)
  | true =>
    obtain ⟨ds, rfl⟩ := isV_lst h.th z
    simp only [Bool.not_true, orRr_f, bV_ap, e2_ap, eCall_ap, aCons_ap, eVar_ap, List.getElem?_cons_succ, List.getElem?_cons_zero, vR_some, c1_ok, aNil_ap, c2_ok, cR_ok, bLenA_l, s2_ok, eC_ap, s3_ok, fGt_i, bR_ok]
    by_cases q : ds.length ≤ 24
    · have e1 : errD (.lst ds) = errL ds := if_pos q
      have gt : decide ((24 : Int) < (ds.length : Int)) = false := decide_eq_false (by omega)
      obtain ⟨p, v, hv, hl, lp⟩ := init_loop (B := M ++ [MO.obj "Purses" []]) (o := .ptr M.length) (ls := .lst ds) (gd := Its.gd ⟨enumD 0 ds, none⟩) (fun _ => trivial) ds [] (fun _ => .int 0) 0 (fun _ => ⟨0, rfl⟩) (h.el ds rfl q) (by simp; omega)
      have nk : ∀ S, eDnewKP S (M ++ [MO.obj "Purses" []]) = .ok (.ptr (M ++ [MO.obj "Purses" []]).length) (M ++ [MO.obj "Purses" []] ++ [MO.dK []]) := fun _ => rfl
      have a2 : t_Purses___init___5 [some (.ptr M.length), some (.lst ds), some (.ptr (M ++ [MO.obj "Purses" []]).length), none, none] (M ++ [MO.obj "Purses" []] ++ [MO.dK []]) = match badAt [] ds 0 with
          | none => .nx [some (.ptr M.length), some (.lst ds), some (.ptr (M ++ [MO.obj "Purses" []]).length), none, none] (M ++ [MO.obj "Purses" []] ++ [MO.dK (TE p v)])
          | some m => .rz (XB m) [some (.ptr M.length), some (.lst ds), some (.ptr (M ++ [MO.obj "Purses" []]).length), some (.int (m : Nat)), some (ds.getD (m - 0) .non)] (M ++ [MO.obj "Purses" []] ++ [MO.dK (TE p v)]) := by
        unfold t_Purses___init___5
        rw [kFor_ap]
        show foR _ _ _ _ (Res.ok ⟨enumD 0 ds, none⟩ _) = _
        rw [foR_ok]
        exact lp
      refine ⟨p, v, hv, fun w => ?_, ?_⟩
      · rw [e1] at w
        unfold errL at w
        cases zb : badAt [] ds 0 with
        | none => exact ⟨ds, rfl, by rw [hl zb, List.length_nil, Nat.zero_add], q⟩
        | some m => rw [zb] at w; cases w
      rw [e1]
      simp only [gt, ifR_f, kNil_ap, thn_nx, kSeq_ap, kAsg_ap, nk, asR_ok, gN_ap, stR_ok, List.set_cons_succ, List.set_cons_zero, a2]
      unfold errL
      cases badAt [] ds 0 with
      | none =>
        simp only [thn_nx]
        rw [fld_at rfl rfl, fnR_nx]
        have sl : (M ++ [MO.obj "Purses" []]).length = (M ++ [MO.obj "Purses" [("table", .dK (TE p v))]]).length := by simp
        rw [sl]
        exact set_fail (d := .non) (l := [MO.gone]) (NoP.app hM fun n => by
          show ((lowK n (TE p v) && true) && true) = true
          rw [low_te hv]
          rfl) rfl (by simp)
      | some m =>
        simp only [thn_rz, fnR_rz]
        exact settle_rza (X := XB m) hB rfl
    · have e1 : errD (.lst ds) = some XW := if_neg q
      have gt : decide ((24 : Int) < (ds.length : Int)) = true := decide_eq_true (by omega)
      refine ⟨[], fun _ => .int 0, fun _ => ⟨0, rfl⟩, (fun w => by rw [e1] at w; cases w), ?_⟩
      rw [e1]
      simp only [gt, ifR_t, rz, thn_rz, fnR_rz]
      exact settle_rz (Nat.le_refl _)
theorem make_eq {ar : AF} (hM : NoP M) (h : Ty x) (ha : ar S M = .ok [x] M) : ∃ (p : List Str) (v : Str → D), AllI v ∧ (errD x = none → ∃ ds, x = .lst ds ∧ p.length = ds.length ∧ ds.length ≤ 24) ∧
    eFrz (eMake "Purses" g_Purses___init__ ar) S M = match errD x with
      | some e => .rz e M
      | none => .ok (.obj "Purses" [("table", .dK (TE p v))]) (M ++ [MO.gone]) := by
  obtain ⟨p, v, hv, hl, ie⟩ := init_eq hM h
  refine ⟨p, v, hv, hl, ?_⟩
  have e1 : eMake "Purses" g_Purses___init__ ar S M = match errD x with
      | some e => .rz e M
      | none => .ok (.ptr M.length) (M ++ [MO.obj "Purses" [("table", .dK (TE p v))]]) := by
    unfold eMake
    rw [ha]
    show (match g_Purses___init__ [.ptr M.length, x] (M ++ [MO.obj "Purses" []]) with | .ok .non M2 => _ | .rz x M2 => _ | _ => Res.bad) = _
    rw [ie]
    cases w : errD x with
    | none => rfl
    | some e =>
      show settle M.length (.rz e (M ++ [MO.obj "Purses" []])) = .rz e M
      refine settle_rza hM ?_
      have : e = XW ∨ ∃ m, e = XB m := by
        by_cases q : ∃ ds, x = .lst ds
        · obtain ⟨ds, rfl⟩ := q
          have w' : (if ds.length ≤ 24 then errL ds else some XW) = some e := w
          split at w'
          · unfold errL at w'
            split at w'
            · cases w'
            · cases w'; exact .inr ⟨_, rfl⟩
          · cases w'; exact .inl rfl
        · rw [errD_not q] at w
          cases w
          exact .inl rfl
      rcases this with rfl | ⟨m, rfl⟩ <;> rfl
  unfold eFrz
  rw [e1]
  cases errD x with
  | some e => rfl
  | none =>
    show (match frz (.ptr M.length) (M ++ [MO.obj "Purses" [("table", .dK (TE p v))]]) with | some (d', M2) => Res.ok d' M2 | none => .bad) = _
    have e2' : frz (.ptr M.length) (M ++ [MO.obj "Purses" [("table", .dK (TE p v))]]) = some (.obj "Purses" [("table", .dK (TE p v))], M ++ [MO.gone]) := by
      simp [frz]
    rw [e2']
theorem plen_eq {kvs : List (Key × D)} : g_Purses___len__ [.obj "Purses" [("table", .dK kvs)]] M = .ok (.int (kvs.length : Nat)) M := by
  have fl : eFld "Purses" "table" (eVar 0) [some (.obj "Purses" [("table", .dK kvs)])] M = .ok (.dK kvs) M := eFld_at (d := .obj "Purses" [("table", .dK kvs)]) (fs := [("table", .dK kvs)]) rfl (by simp [isObj]) (by simp)
  have bl : bLenA [.dK kvs] M = .ok (.int (kvs.length : Nat)) M := rfl
  unfold g_Purses___len__
  rw [runF_ap (show [D.obj "Purses" [("table", .dK kvs)]].length = 1 from rfl)]
  unfold t_Purses___len__
  simp only [List.map_cons, List.map_nil, List.replicate, List.append_nil, kRet_ap, eCall_ap, aCons_ap, fl, c1_ok, aNil_ap, c2_ok, cR_ok, bl, rtR_ok, fnR_rt]
  exact settle_ok (Nat.le_refl _)
theorem lenO_at {e : EF} {kvs : List (Key × D)} (h : e S M = .ok (.obj "Purses" [("table", .dK kvs)]) B) (hl : kvs.length ≤ 64) : eLenO "Purses" g_Purses___len__ e S M = .ok (.int (kvs.length : Nat)) B := by
  unfold eLenO
  rw [h]
  have ho : isObj "Purses" (.obj "Purses" [("table", .dK kvs)]) B = some [(("table" : Str), D.dK kvs)] := by simp [isObj]
  have pl := plen_eq (M := B) (kvs := kvs)
  simp only [Res.bind, ho, pl]
  rw [if_pos ⟨by omega, by omega⟩]
/-- how an error is told -/
theorem suiteW {a' dd : Addr} (hS : S[1]? = some (some (.exc a' dd "Wrong" [("place", .int 0)]))) : u__law_told_1 a' dd XW S M = .rt (.tup [.str "wrong", .int 0]) M := by
  have hv : eVar 1 S M = .ok (.exc a' dd "Wrong" [("place", .int 0)]) M := by rw [eVar_ap, hS, vR_some]
  have n1 : (List.any ["Known", "TooMany"] fun t => subE XW.c t) = false := by
    show (List.any ["Known", "TooMany"] fun t => subE "Wrong" t) = false
    decide +kernel
  have n3 : subE XW.c "Wrong" = true := by show subE "Wrong" "Wrong" = true; decide +kernel
  have n4 : subE XW.c "BadItem" = false := by show subE "Wrong" "BadItem" = false; decide +kernel
  have n2 : fEqA (.bl true) (.bl false) M = .ok (.bl false) M := rfl
  have xf : eXF a' dd "place" (eVar 1) S M = .ok (.int 0) M := exc_f hv (by simp)
  unfold u__law_told_1 t__law_told_2
  simp only [kSeq_ap, kIf_ap, bOr_ap, bV_ap, exc_is hv, n1, bR_ok, orRr_f, e2_ap, s2_ok, s3_ok, n2, n3, n4, ifR_f, kNil_ap, thn_nx, kRet_ap, eIf_ap]
  simp only [bV_ap, exc_is hv, bR_ok, n3, eiR_t, eTup_ap, aCons_ap, eC_ap, c1_ok, xf, aNil_ap, c2_ok, tpR_2, rtR_ok]
theorem suiteB {a' dd : Addr} {m : Nat} (hS : S[1]? = some (some (.exc a' dd "BadItem" [("at", .int (m : Nat))]))) : u__law_told_1 a' dd (XB m) S M = .rt (.tup [.str "bad", .int (m : Nat)]) M := by
  have hv : eVar 1 S M = .ok (.exc a' dd "BadItem" [("at", .int (m : Nat))]) M := by rw [eVar_ap, hS, vR_some]
  have n1 : (List.any ["Known", "TooMany"] fun t => subE (XB m).c t) = false := by
    show (List.any ["Known", "TooMany"] fun t => subE "BadItem" t) = false
    decide +kernel
  have n3 : subE (XB m).c "Wrong" = false := by show subE "BadItem" "Wrong" = false; decide +kernel
  have n4 : subE (XB m).c "BadItem" = true := by show subE "BadItem" "BadItem" = true; decide +kernel
  have n2 : fEqA (.bl false) (.bl true) M = .ok (.bl false) M := rfl
  have xf : eXF a' dd "at" (eVar 1) S M = .ok (.int (m : Nat)) M := exc_f hv (by simp)
  unfold u__law_told_1 t__law_told_2
  simp only [kSeq_ap, kIf_ap, bOr_ap, bV_ap, exc_is hv, n1, bR_ok, orRr_f, e2_ap, s2_ok, s3_ok, n2, n3, n4, ifR_f, kNil_ap, thn_nx, kRet_ap, eIf_ap]
  simp only [bV_ap, exc_is hv, bR_ok, n3, eiR_f, eTup_ap, aCons_ap, eC_ap, c1_ok, xf, aNil_ap, c2_ok, tpR_2, rtR_ok]
theorem told_eq (hM : NoP M) (h : Ty x) : g__law_told [x] M = .ok (ansD x) M := by
  obtain ⟨p, v, hv, hl, me⟩ := make_eq (S := [some x, none]) (ar := aCons (eVar 0) aNil) hM h rfl
  have tz : ∀ e, errD x = some e → t__law_told_1 [some x, none] M = .rz e [some x, none] M := fun e w => by
    rw [w] at me
    have lz : eLenO "Purses" g_Purses___len__ (eFrz (eMake "Purses" g_Purses___init__ (aCons (eVar 0) aNil))) [some x, none] M = .rz e M := by
      unfold eLenO
      rw [me]
      rfl
    unfold t__law_told_1
    simp only [kRet_ap, eTup_ap, aCons_ap, eC_ap, c1_ok, lz, c1_rz, c2_rz, tpR_rz, rtR_rz]
  have tw : errD x = some XW → ansD x = .tup [.str "wrong", .int 0] → g__law_told [x] M = .ok (ansD x) M := fun w a => by
    unfold g__law_told
    rw [runF_ap (show [x].length = 1 from rfl)]
    unfold t__law_told
    simp only [List.map_cons, List.map_nil, List.replicate, List.cons_append, List.nil_append]
    rw [kTry_rz (d := .tup [.str "wrong", .int 0]) (M2 := M) (tz _ w) (show ("Wrong" : Str) ∈ RAISED by decide +kernel) (by intro z; cases z) fun a' dd => suiteW rfl, fnR_rt, a]
    exact settle_ok (Nat.le_refl _)
  by_cases q : ∃ ds, x = .lst ds
  · obtain ⟨ds, rfl⟩ := q
    by_cases q2 : ds.length ≤ 24
    · have e1 : errD (.lst ds) = errL ds := if_pos q2
      have a1 : ansD (.lst ds) = ansL ds := if_pos q2
      cases w : badAt [] ds 0 with
      | none =>
        have e2' : errD (.lst ds) = none := by rw [e1]; unfold errL; rw [w]
        rw [e2'] at me
        obtain ⟨ds', ed, pl, p24⟩ := hl e2'
        cases ed
        have ll := lenO_at me (by rw [te_len]; omega)
        rw [te_len, pl] at ll
        have t1 : t__law_told_1 [some (.lst ds), none] M = .rt (.tup [.str "made", .int (ds.length : Nat)]) (M ++ [MO.gone]) := by
          unfold t__law_told_1
          simp only [kRet_ap, eTup_ap, aCons_ap, eC_ap, c1_ok, ll, aNil_ap, c2_ok, tpR_2, rtR_ok]
        have a2 : ansL ds = .tup [.str "made", .int (ds.length : Nat)] := by unfold ansL; rw [w]
        unfold g__law_told
        rw [runF_ap (show [D.lst ds].length = 1 from rfl)]
        unfold t__law_told
        simp only [List.map_cons, List.map_nil, List.replicate, List.cons_append, List.nil_append]
        rw [kTry_rt t1, fnR_rt, a1, a2]
        exact set_fail hM rfl (by simp)
      | some m =>
        have e2' : errD (.lst ds) = some (XB m) := by rw [e1]; unfold errL; rw [w]
        have a2 : ansL ds = .tup [.str "bad", .int (m : Nat)] := by unfold ansL; rw [w]
        unfold g__law_told
        rw [runF_ap (show [D.lst ds].length = 1 from rfl)]
        unfold t__law_told
        simp only [List.map_cons, List.map_nil, List.replicate, List.cons_append, List.nil_append]
        rw [kTry_rz (d := .tup [.str "bad", .int (m : Nat)]) (M2 := M) (tz _ e2') (show ("BadItem" : Str) ∈ RAISED by decide +kernel) (by intro z; cases z) fun a' dd => suiteB rfl, fnR_rt, a1, a2]
        exact settle_ok (Nat.le_refl _)
    · exact tw (if_neg q2) (if_neg q2)
  · exact tw (errD_not q) (ansD_not q)
end
end QL
end
section
set_option Elab.async false
set_option linter.all false
set_option maxRecDepth 100000
set_option maxHeartbeats 1000000
set_option autoImplicit false
/-! RText: texts cut, put together, repeated; numbers as texts; what items are made of. -/
namespace QL
open PySem PySem.Spec L2
open Classical
/-- a text of at most n signs that can be shown -/
structure Sx (n : Nat) (x : Str) : Prop where
  len : x.length ≤ n
  ok : PyData.strOk x = true
theorem ok_iff {x : Str} : PyData.strOk x = true ↔ ∀ c ∈ x.cps.toList, c < 0x110000 := by
  unfold PyData.strOk
  rw [Array.all_eq_true']
  constructor
  · intro h c hc
    exact of_decide_eq_true (h c (Array.mem_toList_iff.mp hc))
  · intro h c hc
    exact decide_eq_true (h c (Array.mem_toList_iff.mpr hc))
section
variable {x y : Str} {n m : Nat} {i : Int}
theorem Sx.mono (h : Sx n x) (l : n ≤ m) : Sx m x := ⟨Nat.le_trans h.len l, h.ok⟩
theorem Sx.cut (h : Sx n x) (lo hi : Option Int) : Sx n (cutS x lo hi) := by
  constructor
  · have := h.len
    rw [len_cps] at this ⊢
    show ((x.cps.toList.drop _).take _).toArray.toList.length ≤ n
    simp only [List.length_take, List.length_drop]
    omega
  · rw [ok_iff]
    intro c hc
    have hc' : c ∈ ((x.cps.toList.drop (HT.sIx x.length 0 lo)).take (HT.sIx x.length x.length hi - HT.sIx x.length 0 lo)) := hc
    exact ok_iff.mp h.ok c (List.mem_of_mem_drop (List.mem_of_mem_take hc'))
theorem len_app : (x ++ y).length = x.length + y.length := by rw [len_cps, cps_app, List.length_append, ← len_cps, ← len_cps]
theorem Sx.app (h : Sx n x) (h2 : Sx m y) : Sx (n + m) (x ++ y) := by
  constructor
  · rw [len_app]
    exact Nat.add_le_add h.len h2.len
  · rw [ok_iff]
    intro c hc
    rw [cps_app] at hc
    rcases List.mem_append.mp hc with q | q
    · exact ok_iff.mp h.ok c q
    · exact ok_iff.mp h2.ok c q
theorem rep_cps (a : Array Nat) : ∀ (k : Nat) (b : Array Nat), ((List.replicate k a).foldl (· ++ ·) b).toList = b.toList ++ (List.replicate k a.toList).flatten
  | 0, b => by simp
  | k + 1, b => by
    rw [List.replicate_succ, List.foldl_cons, rep_cps a k, List.replicate_succ, List.flatten_cons]
    simp
theorem Sx.mul (h : Sx n x) {k : Int} (hk : 0 ≤ k) : Sx (n * (k.toNat + 1)) (Txt.mul x k) := by
  unfold Txt.mul
  split
  · refine ⟨Nat.zero_le _, ?_⟩
    rw [ok_iff]
    intro c hc
    cases hc
  · split
    · exact h.mono (Nat.le_mul_of_pos_right n (by omega))
    · have e : (⟨(List.replicate k.toNat x.cps).foldl (· ++ ·) #[]⟩ : Str).cps.toList = (List.replicate k.toNat x.cps.toList).flatten := by
        show ((List.replicate k.toNat x.cps).foldl (· ++ ·) #[]).toList = _
        rw [rep_cps]
        rfl
      constructor
      · rw [len_cps, e, List.length_flatten, List.map_replicate, List.sum_replicate_nat]
        have hl := h.len
        rw [len_cps] at hl
        have h1 : k.toNat * x.cps.toList.length ≤ k.toNat * n := Nat.mul_le_mul_left _ hl
        have h2 : n * (k.toNat + 1) = k.toNat * n + n := by rw [Nat.mul_add, Nat.mul_one, Nat.mul_comm]
        omega
      · rw [ok_iff]
        intro c hc
        rw [e] at hc
        obtain ⟨l, hl, hc⟩ := List.mem_flatten.mp hc
        rw [(List.mem_replicate.mp hl).2] at hc
        exact ok_iff.mp h.ok c hc
theorem sx_int {k : Nat} (hk : 0 < k) (h : i.natAbs < 10 ^ k) : Sx (k + 1) (Str.ofString (toString i)) := by
  constructor
  · rw [PySem.ofString_length]
    exact int_text_length_le10 hk h
  · rw [ok_iff, Str.ofString_eq_toList]
    intro c hc
    have hc' : c ∈ (toString i).toList.map Char.toNat := hc
    obtain ⟨d, _, rfl⟩ := List.mem_map.mp hc'
    have := d.valid
    rcases this with h | h
    · have : d.toNat < 0xd800 := h
      omega
    · have : d.toNat < 0x110000 := h.2
      exact this
end
/-- what an item is made of -/
structure At (d : D) : Prop where
  th : Th d
  k : ∀ n, okK (n + 2) d = true
  wt : wtK d ≤ 900
  lo : ∀ n, lowD n d = true
structure It (d : D) : Prop where
  th : Th d
  k : ∀ n, okK (n + 3) d = true
  wt : wtK d ≤ 3000
  lo : ∀ n, lowD n d = true
section
variable {ds : List D} {d : D}
theorem okKs_all {n : Nat} : ∀ {ds : List D}, (∀ d ∈ ds, okK n d = true) → okKs n ds = true
  | [], _ => by simp [okKs]
  | x :: r, h => by
    simp only [okKs, h x List.mem_cons_self, okKs_all fun d hd => h d (List.mem_cons_of_mem _ hd), Bool.and_self]
theorem lowAll {n : Nat} : ∀ {l : List D}, (∀ d ∈ l, lowD n d = true) → lowDs n l = true
  | [], _ => rfl
  | x :: r, h => by
    show (lowD n x && lowDs n r) = true
    rw [h x List.mem_cons_self, lowAll fun d hd => h d (List.mem_cons_of_mem _ hd)]
    rfl
theorem wtKs_le {w : Nat} : ∀ {ds : List D}, (∀ d ∈ ds, wtK d ≤ w) → wtKs ds ≤ (w + 2) * ds.length
  | [], _ => Nat.zero_le _
  | x :: r, h => by
    have h1 := h x List.mem_cons_self
    have h2 := wtKs_le fun d hd => h d (List.mem_cons_of_mem x hd)
    rw [List.length_cons, Nat.mul_succ]
    simp only [wtKs]
    omega
theorem At.it (h : At d) : It d := ⟨h.th, fun n => h.k (n + 1), Nat.le_trans h.wt (by decide), h.lo⟩
theorem at_str {x : Str} (h : Sx 80 x) : At (.str x) := ⟨.str x (by have := h.len; omega), fun _ => h.ok, by show 10 * x.length + 2 ≤ 900; have := h.len; omega, fun _ => rfl⟩
theorem at_int {i : Int} (h : i.natAbs < 2 ^ 201) : At (.int i) := by
  have l : i.natAbs.log2 < 1920 ∧ i.natAbs.log2 ≤ 201 := by
    by_cases z : i.natAbs = 0
    · rw [z]; decide
    · have := (Nat.log2_lt z).mpr h
      omega
  refine ⟨.int i, fun _ => decide_eq_true l.1, ?_, fun _ => rfl⟩
  show i.natAbs.log2 + 2 ≤ 900
  omega
theorem at_non : At .non := ⟨.non, fun _ => rfl, by decide, fun _ => rfl⟩
theorem at_bl (b : Bool) : At (.bl b) := ⟨.bl b, fun _ => rfl, by show 5 ≤ 900; omega, fun _ => rfl⟩
theorem it_tup (hl : ds.length ≤ 3) (h : ∀ d ∈ ds, At d) : It (.tup ds) := by
  have w := wtKs_le fun d hd => (h d hd).wt
  have w2 : (900 + 2) * ds.length ≤ 902 * 3 := Nat.mul_le_mul_left _ hl
  exact ⟨.tup ds (by omega) fun d hd => (h d hd).th, fun n => okKs_all fun d hd => (h d hd).k n, by simp only [wtK]; omega, fun n => lowAll fun d hd => (h d hd).lo n⟩
theorem it_lst (hl : ds.length ≤ 3) (h : ∀ d ∈ ds, At d) : It (.lst ds) := by
  have w := wtKs_le fun d hd => (h d hd).wt
  have w2 : (900 + 2) * ds.length ≤ 902 * 3 := Nat.mul_le_mul_left _ hl
  exact ⟨.lst ds, fun n => okKs_all fun d hd => (h d hd).k n, by simp only [wtK]; omega, fun n => lowAll fun d hd => (h d hd).lo n⟩
theorem at_lst1 {x : Str} (h : Sx 20 x) : At (.lst [.str x]) := by
  refine ⟨.lst _, fun n => ?_, ?_, fun _ => rfl⟩
  · show okKs (n + 1) [.str x] = true
    simp only [okKs, okK, h.ok, Bool.and_self]
  · simp only [wtK, wtKs]
    have := h.len
    omega
theorem at_lstI {i : Int} (h : i.natAbs < 2 ^ 201) : At (.lst [.int i]) := by
  have a := at_int h
  refine ⟨.lst _, fun n => ?_, ?_, fun _ => rfl⟩
  · show okKs (n + 1) [.int i] = true
    have := a.k 0
    have k2 : okK (n + 1) (.int i) = true := by
      show decide _ = true
      exact this
    simp only [okKs, k2, Bool.and_self]
  · have l : i.natAbs.log2 ≤ 201 := by
      by_cases z : i.natAbs = 0
      · rw [z]; decide
      · have := (Nat.log2_lt z).mpr h
        omega
    simp only [wtK, wtKs]
    omega
end
end QL
end
section
set_option Elab.async false
set_option linter.all false
set_option maxRecDepth 100000
set_option maxHeartbeats 1000000
set_option autoImplicit false
/-! ROdd: an item put otherwise. -/
namespace QL
open PySem PySem.Spec L2
open Classical
section
variable {mo : MO} {J M N : Mem} {S : Sl}
theorem ixStr {x : Str} {n c : Nat} (hz : x.length ≤ 1000) (h : x.cps.toList[n]? = some c) : fIxA (.str x) (.int (n : Nat)) M = .ok (.str ⟨#[c]⟩) M := by
  have hn : n < x.cps.toList.length := (List.getElem?_eq_some_iff.mp h).1
  have e : L2.atI x.cps.toList ((n : Nat) : Int) = some c := by
    unfold L2.atI ixN
    rw [if_pos (Int.natCast_nonneg n), if_pos (by omega)]
    simpa using h
  have z : x.length ≤ sizeLine := by rw [sizeLine_eq]; omega
  simp [fIxA, or2, orR, fDIx, look, asK, asTt, fIx, z, e]
abbrev OG : Str := "ABZ09 -_.{"
theorem og_all : ∀ c ∈ OG.cps.toList, c < 128 := by decide +kernel
theorem og_len : OG.length = 10 := by decide +kernel
theorem ixOg {n : Nat} (h : n < 10) : ∃ b, Sx 1 b ∧ ∀ M, fIxA (.str OG) (.int (n : Nat)) M = .ok (.str b) M := by
  have h' : n < OG.cps.toList.length := by rw [← len_cps, og_len]; exact h
  refine ⟨⟨#[OG.cps.toList[n]]⟩, ⟨Nat.le_refl _, ?_⟩, fun M => ixStr (by rw [og_len]; omega) (List.getElem?_eq_getElem h')⟩
  rw [ok_iff]
  intro c hc
  have hc' : c ∈ [OG.cps.toList[n]] := hc
  have e := List.mem_singleton.mp hc'
  have := og_all _ (List.getElem_mem h')
  omega
theorem sl_s {x : Str} {n : Nat} (h : Sx n x) (hn : n ≤ 1000) (lo hi : Option Int) : fSl (.str x) lo hi M = .ok (.str (cutS x lo hi)) M := if_pos (by have := h.len; rw [sizeLine_eq]; omega)
theorem add_s {x y : Str} {n m : Nat} (h : Sx n x) (h2 : Sx m y) (hn : n + m ≤ 1000) : fAdd (.str x) (.str y) M = .ok (.str (x ++ y)) M := by
  rw [fAdd_s, if_pos (by have := h.len; have := h2.len; rw [sizeLine_eq]; omega)]
theorem add_l {a b : List D} (h : a.length + b.length ≤ 20000) : fAdd (.lst a) (.lst b) M = .ok (.lst (a ++ b)) M := by
  rw [fAdd_l, if_pos (by rw [sizeLine_eq]; omega)]
theorem mem4 {P : D → Prop} {a b : D} {r : List D} (h1 : P a) (h2 : P b) (hr : ∀ d ∈ r, P d) : ∀ d ∈ a :: b :: r, P d := fun d hd => by
  rcases List.mem_cons.mp hd with rfl | hd
  · exact h1
  · rcases List.mem_cons.mp hd with rfl | hd
    · exact h2
    · exact hr d hd
theorem memN {P : D → Prop} : ∀ d ∈ ([] : List D), P d := fun d hd => by cases hd
theorem memC {P : D → Prop} {a : D} {r : List D} (h1 : P a) (hr : ∀ d ∈ r, P d) : ∀ d ∈ a :: r, P d := fun d hd => by
  rcases List.mem_cons.mp hd with rfl | hd
  · exact h1
  · exact hr d hd
theorem memA {P : D → Prop} {a b : List D} (h1 : ∀ d ∈ a, P d) (h2 : ∀ d ∈ b, P d) : ∀ d ∈ a ++ b, P d := fun d hd => by
  rcases List.mem_append.mp hd with hd | hd
  · exact h1 d hd
  · exact h2 d hd
theorem ac {e : EF} {a : AF} {d : D} {ds : List D} {M1 M2 : Mem} (h : e S M = .ok d M1) (h2 : a S M1 = .ok ds M2) : aCons e a S M = .ok (d :: ds) M2 := by
  rw [aCons_ap, h, c1_ok, h2, c2_ok]
theorem an : aNil S M = .ok [] M := aNil_ap
theorem tp {a : AF} {ds : List D} {M1 : Mem} (h : a S M = .ok ds M1) (hl : ds.length ≤ 64) : eTup a S M = .ok (.tup ds) M1 := by
  rw [eTup_ap, h, tpR_ok (small hl)]
theorem ls {a : AF} {ds : List D} {M1 : Mem} (h : a S M = .ok ds M1) (hl : ds.length ≤ 64) : eLst a S M = .ok (.lst ds) M1 := by
  rw [eLst_ap, h, lsR_ok (small hl)]
theorem t2 {a b : EF} {x y : D} {M1 M2 : Mem} (h1 : a S M = .ok x M1) (h2 : b S M1 = .ok y M2) : eTup (aCons a (aCons b aNil)) S M = .ok (.tup [x, y]) M2 := tp (ac h1 (ac h2 an)) (by show 2 ≤ 64; decide)
theorem stage {a : AF} {P Q : List D} {M1 : Mem} {i : Nat} (h : S[i]? = some (some (.lst P))) (ha : a S M = .ok Q M1) (hp : P.length + Q.length ≤ 64) : kAsg (e2 fAdd (eVar i) (eLst a)) (gN i) S M = .nx (S.set i (some (.lst (P ++ Q)))) M1 := by
  simp only [kAsg_ap, e2_ap, eVar_ap, h, vR_some, s2_ok, ls ha (by omega), s3_ok, add_l (M := M1) (show P.length + Q.length ≤ 20000 by omega), asR_ok, gN_ap, stR_ok]
theorem odd_eq {y : Str} {i : Int} {ns : List Str} (hm : Hand mo) (hy : wdB y = true) (ho : PyData.strOk y = true) (h0 : 0 ≤ i) (h1 : i ≤ 1000000000000000000000000000000) (hn : ∀ x ∈ ns, NmOk x) (hl : ns.length = 24) :
    ∃ (d : D) (mo' : MO), Hand mo' ∧ It d ∧ g__law_odd [.ptr 0, .tup [.str y, .int i], .lst (ns.map D.str)] (mo :: J) = .ok d (mo' :: J) := by
  have ly : 1 ≤ y.length ∧ y.length ≤ 8 := by
    unfold wdB at hy
    simp only [Bool.and_eq_true, decide_eq_true_eq] at hy
    omega
  have sy : Sx 8 y := ⟨ly.2, ho⟩
  obtain ⟨at0, m1, hm1, a0, a1, e1⟩ := draw1b (J := J) hm (t := (y.length : Int)) (by omega) (by omega)
  obtain ⟨at', rfl⟩ := Int.eq_ofNat_of_zero_le a0
  obtain ⟨s0', m2, hm2, b0, b1, e2'⟩ := draw1b (J := J) hm1 (t := 10) (by decide) (by decide)
  obtain ⟨sn, rfl⟩ := Int.eq_ofNat_of_zero_le b0
  obtain ⟨sg, hsg, esg⟩ := ixOg (n := sn) (by omega)
  obtain ⟨k1, m3, hm3, c0, c1', e3'⟩ := draw1b (J := J) hm2 (t := 24) (by decide) (by decide)
  obtain ⟨n1, rfl⟩ := Int.eq_ofNat_of_zero_le c0
  obtain ⟨k2, m4, hm4, d0, d1', e4'⟩ := draw1b (J := J) hm3 (t := 24) (by decide) (by decide)
  obtain ⟨n2, rfl⟩ := Int.eq_ofNat_of_zero_le d0
  obtain ⟨k3, m5, hm5, f0, f1', e5'⟩ := draw1b (J := J) hm4 (t := 20) (by decide) (by decide)
  obtain ⟨n3, rfl⟩ := Int.eq_ofNat_of_zero_le f0
  have l1 : n1 < ns.length := by omega
  have l2 : n2 < ns.length := by omega
  have ci : Sx 8 (cutS y none (some (at' : Nat))) := sy.cut _ _
  have cj : Sx 8 (cutS y (some ((at' : Nat) + 1)) none) := sy.cut _ _
  have ck : Sx 8 (cutS y (some (at' : Nat)) none) := sy.cut _ _
  have ml := sy.mul (k := 9) (by decide)
  have ti : Sx 32 (Str.ofString (toString i)) := sx_int (k := 31) (by decide) (by omega)
  have bi : i.natAbs < 2 ^ 201 := by omega
  have bi1 : (i + 1).natAbs < 2 ^ 201 := by omega
  have lg : i.natAbs.log2 < 1920 := of_decide_eq_true ((at_int bi).k 0)
  have nx : ∀ k (h : k < ns.length), Sx 8 ns[k] := fun k h => ⟨(hn _ (List.getElem_mem h)).2.1, nm_ok (hn _ (List.getElem_mem h))⟩
  -- the lists
  let A : List D := [.tup [.str (cutS y none (some (at' : Nat)) ++ sg ++ cutS y (some ((at' : Nat) + 1)) none), .int i], .tup [.str (cutS y none (some (at' : Nat)) ++ sg ++ cutS y (some (at' : Nat)) none), .int i]]
  let B : List D := [.tup [.str "", .int i], .tup [.str (Txt.mul y 9), .int i]]
  let C : List D := [.tup [.str ns[n1], .int i], .tup [.str ns[n2], .int (i + 1)]]
  let E : List D := [.tup [.str y, .int (-1)], .tup [.str y, .int 1000000000000000000000000000001], .tup [.str y, .bl true], .tup [.str y, .non]]
  let F : List D := [.tup [.str y, .str (Str.ofString (toString i))], .tup [.str y, .lst [.int i]]]
  let G : List D := [.tup [.str y], .tup [.str y, .int i, .int i], .lst [.str y, .int i], .tup [.int i, .str y], .str y, .non, .tup [.lst [.str y], .int i], .tup []]
  let L : List D := A ++ B ++ C ++ E ++ F ++ G
  have all : ∀ d ∈ L, It d := by
    have t2 : ∀ {a b : D}, At a → At b → It (.tup [a, b]) := fun ha hb => it_tup (Nat.le_of_ble_eq_true rfl) (memC ha (memC hb memN))
    have ai : At (.int i) := at_int bi
    have ay : At (.str y) := at_str (sy.mono (by decide))
    refine memA (memA (memA (memA (memA ?_ ?_) ?_) ?_) ?_) ?_
    · exact memC (t2 (at_str (((ci.app hsg).app cj).mono (by decide))) ai) (memC (t2 (at_str (((ci.app hsg).app ck).mono (by decide))) ai) memN)
    · exact memC (t2 (at_str ⟨Nat.zero_le _, by decide +kernel⟩) ai) (memC (t2 (at_str (ml.mono (by decide))) ai) memN)
    · exact memC (t2 (at_str ((nx n1 l1).mono (by decide))) ai) (memC (t2 (at_str ((nx n2 l2).mono (by decide))) (at_int bi1)) memN)
    · exact memC (t2 ay (at_int (by decide))) (memC (t2 ay (at_int (by decide))) (memC (t2 ay (at_bl _)) (memC (t2 ay at_non) memN)))
    · exact memC (t2 ay (at_str (ti.mono (by decide)))) (memC (t2 ay (at_lstI bi)) memN)
    · exact memC (it_tup (Nat.le_of_ble_eq_true rfl) (memC ay memN)) (memC (it_tup (Nat.le_of_ble_eq_true rfl) (memC ay (memC ai (memC ai memN)))) (memC (it_lst (Nat.le_of_ble_eq_true rfl) (memC ay (memC ai memN))) (memC (t2 ai ay) (memC ay.it (memC at_non.it (memC (t2 (at_lst1 (sy.mono (by decide))) ai) (memC (it_tup (Nat.le_of_ble_eq_true rfl) memN) memN)))))))
  have lL : L.length = 20 := rfl
  have h3 : n3 < L.length := by rw [lL]; omega
  refine ⟨L[n3], m5, hm5, all _ (List.getElem_mem h3), ?_⟩
  let it : D := .tup [.str y, .int i]
  let nsD : D := .lst (ns.map D.str)
  have lny : ∀ N, bLenA [.str y] N = .ok (.int y.length) N := fun N => by
    show orR (if y.length ≤ sizeLine then Res.ok (D.int y.length) N else .bad) _ = _
    rw [if_pos (by rw [sizeLine_eq]; omega)]
    rfl
  have lnn : ∀ N, bLenA [.lst (ns.map D.str)] N = .ok (.int 24) N := fun N => by
    rw [bLenA_l, List.length_map, hl]
    rfl
  have q1 : kAsg (eVar 1) (gTupF 2 (gConsF (gN 3) (gConsF (gN 4) gNilF))) [some (.ptr 0), some it, some nsD, none, none, none, none, none] (mo :: J) = .nx [some (.ptr 0), some it, some nsD, some (.str y), some (.int i), none, none, none] (mo :: J) := by
    simp [kAsg_ap, it]
  have q2 : kAsg (eCall g__law_draw (aCons (eVar 0) (aCons (eCall bLenA (aCons (eVar 3) aNil)) aNil))) (gN 5) [some (.ptr 0), some it, some nsD, some (.str y), some (.int i), none, none, none] (mo :: J) = .nx [some (.ptr 0), some it, some nsD, some (.str y), some (.int i), some (.int (at' : Nat)), none, none] (m1 :: J) := by
    simp only [kAsg_ap, eCall_ap, aCons_ap, eVar_ap, List.getElem?_cons_succ, List.getElem?_cons_zero, vR_some, c1_ok, aNil_ap, c2_ok, cR_ok, lny, e1, asR_ok, gN_ap, stR_ok, List.set_cons_succ, List.set_cons_zero]
  have q3 : kAsg (e2 fIxA (eC (.str OG)) (eCall g__law_draw (aCons (eVar 0) (aCons (eC (.int 10)) aNil)))) (gN 6) [some (.ptr 0), some it, some nsD, some (.str y), some (.int i), some (.int (at' : Nat)), none, none] (m1 :: J) = .nx [some (.ptr 0), some it, some nsD, some (.str y), some (.int i), some (.int (at' : Nat)), some (.str sg), none] (m2 :: J) := by
    simp only [kAsg_ap, e2_ap, eC_ap, s2_ok, eCall_ap, aCons_ap, eVar_ap, List.getElem?_cons_succ, List.getElem?_cons_zero, vR_some, c1_ok, aNil_ap, c2_ok, cR_ok, e2', s3_ok, esg, asR_ok, gN_ap, stR_ok, List.set_cons_succ, List.set_cons_zero]
  have fs1 : ∀ N, fSl (.str y) none (some (at' : Nat)) N = .ok (.str (cutS y none (some (at' : Nat)))) N := fun N => sl_s sy (by decide) _ _
  have fs2 : ∀ N, fSl (.str y) (some ((at' : Nat) + 1)) none N = .ok (.str (cutS y (some ((at' : Nat) + 1)) none)) N := fun N => sl_s sy (by decide) _ _
  have fs3 : ∀ N, fSl (.str y) (some (at' : Nat)) none N = .ok (.str (cutS y (some (at' : Nat)) none)) N := fun N => sl_s sy (by decide) _ _
  have ad1 : ∀ N, fAdd (.str (cutS y none (some (at' : Nat)))) (.str sg) N = .ok (.str (cutS y none (some (at' : Nat)) ++ sg)) N := fun N => add_s ci hsg (by decide)
  have ad2 : ∀ N, fAdd (.str (cutS y none (some (at' : Nat)) ++ sg)) (.str (cutS y (some ((at' : Nat) + 1)) none)) N = .ok (.str (cutS y none (some (at' : Nat)) ++ sg ++ cutS y (some ((at' : Nat) + 1)) none)) N := fun N => add_s (ci.app hsg) cj (by decide)
  have ad3 : ∀ N, fAdd (.str (cutS y none (some (at' : Nat)) ++ sg)) (.str (cutS y (some (at' : Nat)) none)) N = .ok (.str (cutS y none (some (at' : Nat)) ++ sg ++ cutS y (some (at' : Nat)) none)) N := fun N => add_s (ci.app hsg) ck (by decide)
  let T : Option D → Sl := fun l => [some (.ptr 0), some it, some nsD, some (.str y), some (.int i), some (.int (at' : Nat)), some (.str sg), l]
  have v3 : ∀ l N, eVar 3 (T l) N = .ok (.str y) N := fun l N => rfl
  have v4 : ∀ l N, eVar 4 (T l) N = .ok (.int i) N := fun l N => rfl
  have q4 : kAsg (eLst (aCons (eTup (aCons (e2 fAdd (e2 fAdd (eSl (eVar 3) oNone (oSome (eVar 5))) (eVar 6)) (eSl (eVar 3) (oSome (e2 fAdd (eVar 5) (eC (.int 1)))) oNone)) (aCons (eVar 4) aNil))) (aCons (eTup (aCons (e2 fAdd (e2 fAdd (eSl (eVar 3) oNone (oSome (eVar 5))) (eVar 6)) (eSl (eVar 3) (oSome (eVar 5)) oNone)) (aCons (eVar 4) aNil))) aNil))) (gN 7) (T none) (m2 :: J) = .nx (T (some (.lst A))) (m2 :: J) := by
    have x1 : (e2 fAdd (e2 fAdd (eSl (eVar 3) oNone (oSome (eVar 5))) (eVar 6)) (eSl (eVar 3) (oSome (e2 fAdd (eVar 5) (eC (.int 1)))) oNone)) (T none) (m2 :: J) = .ok (.str (cutS y none (some (at' : Nat)) ++ sg ++ cutS y (some ((at' : Nat) + 1)) none)) (m2 :: J) := by
      simp only [T, e2_ap, eSl_ap, eVar_ap, List.getElem?_cons_succ, List.getElem?_cons_zero, vR_some, sl1_ok, oNone_ap, sl2_ok, oSome_ap, soR_ok, sl3_ok, fs1, s2_ok, s3_ok, ad1, eC_ap, fAdd_i, fs2, ad2]
    have x2 : (e2 fAdd (e2 fAdd (eSl (eVar 3) oNone (oSome (eVar 5))) (eVar 6)) (eSl (eVar 3) (oSome (eVar 5)) oNone)) (T none) (m2 :: J) = .ok (.str (cutS y none (some (at' : Nat)) ++ sg ++ cutS y (some (at' : Nat)) none)) (m2 :: J) := by
      simp only [T, e2_ap, eSl_ap, eVar_ap, List.getElem?_cons_succ, List.getElem?_cons_zero, vR_some, sl1_ok, oNone_ap, sl2_ok, oSome_ap, soR_ok, sl3_ok, fs1, s2_ok, s3_ok, ad1, fs3, ad3]
    rw [kAsg_ap, ls (ac (t2 x1 (v4 _ _)) (ac (t2 x2 (v4 _ _)) an)) (by show 2 ≤ 64; decide), asR_ok, gN_ap, stR_ok]
    rfl
  have fm : ∀ N, fMulS (.str y) (.int 9) N = .ok (.str (Txt.mul y 9)) N := fun N => if_pos ⟨by decide, by decide, by omega⟩
  have q5 : kAsg (e2 fAdd (eVar 7) (eLst (aCons (eTup (aCons (eC (.str "")) (aCons (eVar 4) aNil))) (aCons (eTup (aCons (e2 fMulS (eVar 3) (eC (.int 9))) (aCons (eVar 4) aNil))) aNil)))) (gN 7) (T (some (.lst A))) (m2 :: J) = .nx (T (some (.lst (A ++ B)))) (m2 :: J) := by
    have x1 : e2 fMulS (eVar 3) (eC (.int 9)) (T (some (.lst A))) (m2 :: J) = .ok (.str (Txt.mul y 9)) (m2 :: J) := by
      rw [e2_ap, v3, s2_ok, eC_ap, s3_ok, fm]
    exact stage (P := A) (Q := B) (i := 7) rfl (ac (t2 eC_ap (v4 _ _)) (ac (t2 x1 (v4 _ _)) an)) (by show 2 + 2 ≤ 64; decide)
  have q6 : kAsg (e2 fAdd (eVar 7) (eLst (aCons (eTup (aCons (e2 fIxA (eVar 2) (eCall g__law_draw (aCons (eVar 0) (aCons (eCall bLenA (aCons (eVar 2) aNil)) aNil)))) (aCons (eVar 4) aNil))) (aCons (eTup (aCons (e2 fIxA (eVar 2) (eCall g__law_draw (aCons (eVar 0) (aCons (eCall bLenA (aCons (eVar 2) aNil)) aNil)))) (aCons (e2 fAdd (eVar 4) (eC (.int 1))) aNil))) aNil)))) (gN 7) (T (some (.lst (A ++ B)))) (m2 :: J) = .nx (T (some (.lst (A ++ B ++ C)))) (m4 :: J) := by
    have x1 : e2 fIxA (eVar 2) (eCall g__law_draw (aCons (eVar 0) (aCons (eCall bLenA (aCons (eVar 2) aNil)) aNil))) (T (some (.lst (A ++ B)))) (m2 :: J) = .ok (.str ns[n1]) (m3 :: J) := by
      simp only [T, nsD, e2_ap, eCall_ap, aCons_ap, eVar_ap, List.getElem?_cons_succ, List.getElem?_cons_zero, vR_some, s2_ok, c1_ok, aNil_ap, c2_ok, cR_ok, lnn, e3', s3_ok]
      exact ixs l1
    have x2 : e2 fIxA (eVar 2) (eCall g__law_draw (aCons (eVar 0) (aCons (eCall bLenA (aCons (eVar 2) aNil)) aNil))) (T (some (.lst (A ++ B)))) (m3 :: J) = .ok (.str ns[n2]) (m4 :: J) := by
      simp only [T, nsD, e2_ap, eCall_ap, aCons_ap, eVar_ap, List.getElem?_cons_succ, List.getElem?_cons_zero, vR_some, s2_ok, c1_ok, aNil_ap, c2_ok, cR_ok, lnn, e4', s3_ok]
      exact ixs l2
    have x3 : e2 fAdd (eVar 4) (eC (.int 1)) (T (some (.lst (A ++ B)))) (m4 :: J) = .ok (.int (i + 1)) (m4 :: J) := by
      rw [e2_ap, v4, s2_ok, eC_ap, s3_ok, fAdd_i]
    exact stage (P := A ++ B) (Q := C) (i := 7) rfl (ac (t2 x1 (v4 _ _)) (ac (t2 x2 x3) an)) (by show 4 + 2 ≤ 64; decide)
  have q7 : kAsg (e2 fAdd (eVar 7) (eLst (aCons (eTup (aCons (eVar 3) (aCons (eNeg (eC (.int 1))) aNil))) (aCons (eTup (aCons (eVar 3) (aCons (e2 fAdd (e2 fPow (eC (.int 10)) (eC (.int 30))) (eC (.int 1))) aNil))) (aCons (eTup (aCons (eVar 3) (aCons (eC (.bl true)) aNil))) (aCons (eTup (aCons (eVar 3) (aCons (eC .non) aNil))) aNil)))))) (gN 7) (T (some (.lst (A ++ B ++ C)))) (m4 :: J) = .nx (T (some (.lst (A ++ B ++ C ++ E)))) (m4 :: J) :=
    stage (P := A ++ B ++ C) (Q := E) (i := 7) rfl (ac (t2 (v3 _ _) rfl) (ac (t2 (v3 _ _) rfl) (ac (t2 (v3 _ _) eC_ap) (ac (t2 (v3 _ _) eC_ap) an)))) (by show 6 + 4 ≤ 64; decide)
  have st : ∀ N, bStrI [.int i] N = .ok (.str (Str.ofString (toString i))) N := fun N => if_pos lg
  have q8 : kAsg (e2 fAdd (eVar 7) (eLst (aCons (eTup (aCons (eVar 3) (aCons (eCall bStrI (aCons (eVar 4) aNil)) aNil))) (aCons (eTup (aCons (eVar 3) (aCons (eLst (aCons (eVar 4) aNil)) aNil))) aNil)))) (gN 7) (T (some (.lst (A ++ B ++ C ++ E)))) (m4 :: J) = .nx (T (some (.lst (A ++ B ++ C ++ E ++ F)))) (m4 :: J) := by
    have x1 : eCall bStrI (aCons (eVar 4) aNil) (T (some (.lst (A ++ B ++ C ++ E)))) (m4 :: J) = .ok (.str (Str.ofString (toString i))) (m4 :: J) := by
      rw [eCall_ap, ac (v4 _ _) an, cR_ok, st]
    have x2 : eLst (aCons (eVar 4) aNil) (T (some (.lst (A ++ B ++ C ++ E)))) (m4 :: J) = .ok (.lst [.int i]) (m4 :: J) := ls (ac (v4 _ _) an) (by show 1 ≤ 64; decide)
    exact stage (P := A ++ B ++ C ++ E) (Q := F) (i := 7) rfl (ac (t2 (v3 _ _) x1) (ac (t2 (v3 _ _) x2) an)) (by show 10 + 2 ≤ 64; decide)
  have q9 : kAsg (e2 fAdd (eVar 7) (eLst (aCons (eTup (aCons (eVar 3) aNil)) (aCons (eTup (aCons (eVar 3) (aCons (eVar 4) (aCons (eVar 4) aNil)))) (aCons (eLst (aCons (eVar 3) (aCons (eVar 4) aNil))) (aCons (eTup (aCons (eVar 4) (aCons (eVar 3) aNil))) (aCons (eVar 3) (aCons (eC .non) (aCons (eTup (aCons (eLst (aCons (eVar 3) aNil)) (aCons (eVar 4) aNil))) (aCons (eTup aNil) aNil)))))))))) (gN 7) (T (some (.lst (A ++ B ++ C ++ E ++ F)))) (m4 :: J) = .nx (T (some (.lst L))) (m4 :: J) := by
    have z1 : ∀ l N, eLst (aCons (eVar 3) aNil) (T l) N = .ok (.lst [.str y]) N := fun l N => ls (ac (v3 _ _) an) (by show 1 ≤ 64; decide)
    exact stage (P := A ++ B ++ C ++ E ++ F) (Q := G) (i := 7) rfl (ac (tp (ac (v3 _ _) an) (by show 1 ≤ 64; decide)) (ac (tp (ac (v3 _ _) (ac (v4 _ _) (ac (v4 _ _) an))) (by show 3 ≤ 64; decide)) (ac (ls (ac (v3 _ _) (ac (v4 _ _) an)) (by show 2 ≤ 64; decide)) (ac (t2 (v4 _ _) (v3 _ _)) (ac (v3 _ _) (ac eC_ap (ac (t2 (z1 _ _) (v4 _ _)) (ac (tp an (by show 0 ≤ 64; decide)) an)))))))) (by show 12 + 8 ≤ 64; decide)
  have q10 : kRet (e2 fIxA (eVar 7) (eCall g__law_draw (aCons (eVar 0) (aCons (eC (.int 20)) aNil)))) (T (some (.lst L))) (m4 :: J) = .rt L[n3] (m5 :: J) := by
    have ix : fIxA (.lst L) (.int (n3 : Nat)) (m5 :: J) = .ok L[n3] (m5 :: J) := fIxA_l (List.getElem?_eq_getElem h3)
    simp only [T, kRet_ap, e2_ap, eCall_ap, aCons_ap, eVar_ap, List.getElem?_cons_succ, List.getElem?_cons_zero, vR_some, s2_ok, eC_ap, c1_ok, aNil_ap, c2_ok, cR_ok, e5', s3_ok, ix, rtR_ok]
  unfold g__law_odd
  rw [runF_ap (show [D.ptr 0, it, nsD].length = 3 from rfl)]
  unfold t__law_odd
  show fnR _ ((kSeq _ _) [some (.ptr 0), some it, some nsD, none, none, none, none, none] (mo :: J)) = _
  rw [kSeq_ap, q1, thn_nx, kSeq_ap, q2, thn_nx, kSeq_ap, q3, thn_nx, kSeq_ap, q4, thn_nx, kSeq_ap, q5, thn_nx, kSeq_ap, q6, thn_nx, kSeq_ap, q7, thn_nx, kSeq_ap, q8, thn_nx, kSeq_ap, q9, thn_nx, q10, fnR_rt]
  exact settle_ok (Nat.le_refl _)
end
end QL
end
section
set_option Elab.async false
set_option linter.all false
set_option maxRecDepth 100000
set_option maxHeartbeats 1000000
set_option autoImplicit false
/-! RThing: lists of items, some put otherwise. -/
namespace QL
open PySem PySem.Spec L2
open Classical
/-- a thing that Purses is made of -/
structure Rt (x : D) : Prop where
  ty : Ty x
  ok : okK 60 x = true
  wt : wtK x ≤ 16000000
  lo : ∀ n, lowD n x = true
section
variable {mo : MO} {J M N : Mem} {S : Sl} {d x : D} {ds its : List D}
theorem rep_seq {d : D} {c : Prop} [Decidable c] (h : Rt d) (h0 : ∀ M, bRepr0 [d] M = .bad) (h1 : ∀ M, derK M d = d) (h2 : isRefK d = true) (h3 : ∀ M, bReprD [d] M = if c then .ok (.str (toPy d).shown) M else .bad) : ∃ s, ∀ M, bReprAK [d] M = .ok (.str s) M := by
  have e2 : ∀ M, bReprK [d] M = .ok (.str (pyK d).shown) M := fun M => by
    show (if okK 60 (derK M d) = true ∧ wtK (derK M d) ≤ sizeLine ∧ isRefK (derK M d) = true then Res.ok (D.str (pyK (derK M d)).shown) M else .bad) = _
    rw [h1, if_pos ⟨h.ok, by have := h.wt; rw [sizeLine_eq]; omega, h2⟩]
  by_cases q : c
  · refine ⟨(toPy d).shown, fun M => ?_⟩
    show orR (orR (bRepr0 [d] M) (bReprD [d] M)) (bReprK [d] M) = _
    rw [h0, h3, if_pos q]
    rfl
  · refine ⟨(pyK d).shown, fun M => ?_⟩
    show orR (orR (bRepr0 [d] M) (bReprD [d] M)) (bReprK [d] M) = _
    rw [h0, h3, if_neg q, e2]
    rfl
theorem rep_ex {d : D} (h : Rt d) : ∃ s, ∀ M, bReprAK [d] M = .ok (.str s) M := by
  cases d with
  | non => exact ⟨_, fun M => rfl⟩
  | bl b => exact ⟨_, fun M => rfl⟩
  | int i =>
    have l : i.natAbs.log2 < 1920 := of_decide_eq_true h.ok
    refine ⟨Str.ofString (toString i), fun M => ?_⟩
    have e : bRepr0 [.int i] M = .ok (.str (toString i)) M := if_pos l
    show orR (orR (bRepr0 [.int i] M) _) _ = _
    rw [e]
    rfl
  | str x =>
    have o : PyData.strOk x = true := h.ok
    have hx : x.length ≤ 1000 := by cases h.ty.th with | str _ h => exact h
    refine ⟨reprText x, fun M => ?_⟩
    have e : bReprD [.str x] M = .ok (.str (reprText x)) M := if_pos ⟨by rw [sizeLine_eq]; omega, o⟩
    have e0 : bRepr0 [.str x] M = .bad := rfl
    show orR (orR (bRepr0 [.str x] M) (bReprD [.str x] M)) _ = _
    rw [e0, e]
    rfl
  | tup ds => exact rep_seq (c := okD 60 (.tup ds) = true ∧ shD (.tup ds) = true ∧ wtD (.tup ds) ≤ sizeLine ∧ isSeqD (.tup ds) = true) h (fun _ => rfl) (fun _ => rfl) rfl fun M => rfl
  | lst ds => exact rep_seq (c := okD 60 (.lst ds) = true ∧ shD (.lst ds) = true ∧ wtD (.lst ds) ≤ sizeLine ∧ isSeqD (.lst ds) = true) h (fun _ => rfl) (fun _ => rfl) rfl fun M => rfl
  | dK kvs => exact rep_seq (c := okD 60 (.dK kvs) = true ∧ shD (.dK kvs) = true ∧ wtD (.dK kvs) ≤ sizeLine ∧ isSeqD (.dK kvs) = true) h (fun _ => rfl) (fun _ => rfl) rfl fun M => rfl
  | ptr k => exact absurd h.ok (by simp [okK])
  | raw u => exact absurd h.ok (by simp [okK])
  | dT kvs => exact absurd h.ok (by simp [okK])
  | obj n fs => exact absurd h.ok (by simp [okK])
  | exc a b n fs => exact absurd h.ok (by simp [okK])
/-- lists of items -/
theorem rt_lst (h : ∀ d ∈ ds, It d) (hl : ds.length ≤ 5000) : Rt (.lst ds) := by
  have w := wtKs_le fun d hd => (h d hd).wt
  have w2 : (3000 + 2) * ds.length ≤ 3002 * 5000 := Nat.mul_le_mul_left _ hl
  refine ⟨⟨.lst ds, fun ds' e _ d hd => ?_⟩, ?_, by simp only [wtK]; omega, fun n => lowAll fun d hd => (h d hd).lo n⟩
  · cases e
    exact (h d hd).th
  · show okKs 59 ds = true
    exact okKs_all fun d hd => (h d hd).k 56
theorem rt_tup (h : ∀ d ∈ ds, It d) (hl : ds.length ≤ 1000) : Rt (.tup ds) := by
  have w := wtKs_le fun d hd => (h d hd).wt
  have w2 : (3000 + 2) * ds.length ≤ 3002 * 1000 := Nat.mul_le_mul_left _ hl
  refine ⟨⟨.tup ds hl fun d hd => (h d hd).th, fun ds' e _ => by cases e⟩, ?_, by simp only [wtK]; omega, fun n => lowAll fun d hd => (h d hd).lo n⟩
  show okKs 59 ds = true
  exact okKs_all fun d hd => (h d hd).k 56
theorem it_parts2 (h : itB d = true) : ∃ y i, d = .tup [.str y, .int i] ∧ wdB y = true ∧ 0 ≤ i ∧ i ≤ 1000000000000000000000000000000 := by
  obtain ⟨y, i, rfl, w⟩ := it_parts h
  have h' : (nmB (.str y) && (decide (0 ≤ i) && decide (i ≤ 1000000000000000000000000000000))) = true := h
  simp only [Bool.and_eq_true, decide_eq_true_eq] at h'
  exact ⟨y, i, rfl, w, h'.2.1, h'.2.2⟩
theorem gT {x : MO} : (mo :: (J ++ [x]))[J.length + 1]? = some x := g0 (M := mo :: J) (l := [])
theorem sT {x y : MO} : (mo :: (J ++ [x])).set (J.length + 1) y = mo :: (J ++ [y]) := s0 (M := mo :: J) (l := [])
theorem lset_n {k n : Nat} {v : D} (h : N[k]? = some (.lst ds)) (hn : n < ds.length) : lset (.ptr k) (.int (n : Nat)) v N = some (N.set k (.lst (ds.set n v))) := by
  have e : ixN ds.length (n : Int) = some n := by
    unfold ixN
    rw [if_pos (Int.natCast_nonneg n), if_pos (by omega), Int.toNat_natCast]
  simp [lset, h, e]
theorem fIxA_p {k n : Nat} (hk : M[k]? = some (.lst ds)) (h : ds[n]? = some d) : fIxA (.ptr k) (.int (n : Nat)) M = .ok d M := by
  have e : L2.atI ds ((n : Nat) : Int) = some d := by
    unfold L2.atI ixN
    rw [if_pos (Int.natCast_nonneg n), if_pos (by have := (List.getElem?_eq_some_iff.mp h).1; omega)]
    simpa using h
  simp [fIxA, or2, orR, fDIx, look, asK, asTt, fIx, asL, hk, e]
theorem len_p {k : Nat} (hk : M[k]? = some (.lst ds)) : bLenA [.ptr k] M = .ok (.int ds.length) M := by
  have e : seqOf M (.ptr k) = some ds := by simp only [seqOf, asL, hk]
  have e3 : bLen [.ptr k] M = .ok (.int ds.length) M := by
    show (match seqOf M (.ptr k) with | some xs => Res.ok (D.int xs.length) M | none => .bad) = _
    rw [e]
  unfold bLenA orC
  rw [e3]
  rfl
/-- the slots of the law -/
abbrev LS (sc nsD : D) (tn mn th kk at' wy sm kp : Option D) : Sl := [some sc, some (.ptr 0), some nsD, tn, mn, th, kk, at', wy, sm, kp, none]
theorem odd_step {sc : D} {ns : List Str} {tn mn kk at0 : Option D} (hm : Hand mo) (hi : ∀ d ∈ its, It d) (h0 : 0 < its.length) (h24 : its.length ≤ 24) (hn : ∀ x ∈ ns, NmOk x) (hl : ns.length = 24) :
    ∃ (its' : List D) (mo' : MO) (at' : D), Hand mo' ∧ its'.length = its.length ∧ (∀ d ∈ its', It d) ∧
      b_law_3 (LS sc (.lst (ns.map D.str)) tn mn (some (.ptr (J.length + 1))) kk at0 none none none) (mo :: (J ++ [MO.lst its])) =
        .nx (LS sc (.lst (ns.map D.str)) tn mn (some (.ptr (J.length + 1))) kk (some at') none none none) (mo' :: (J ++ [MO.lst its'])) := by
  obtain ⟨r, m1, hm1, r0, r1, e1⟩ := draw1b (J := J ++ [MO.lst its]) hm (t := (its.length : Int)) (by omega) (by omega)
  obtain ⟨n, rfl⟩ := Int.eq_ofNat_of_zero_le r0
  have hn' : n < its.length := by omega
  have hit := hi _ (List.getElem_mem hn')
  have ll := len_p (gT (mo := mo) (J := J) (x := MO.lst its))
  have q1 : kAsg (eCall g__law_draw (aCons (eVar 1) (aCons (eCall bLenA (aCons (eVar 5) aNil)) aNil))) (gN 7) (LS sc (.lst (ns.map D.str)) tn mn (some (.ptr (J.length + 1))) kk at0 none none none) (mo :: (J ++ [MO.lst its])) = .nx (LS sc (.lst (ns.map D.str)) tn mn (some (.ptr (J.length + 1))) kk (some (.int (n : Nat))) none none none) (m1 :: (J ++ [MO.lst its])) := by
    simp only [kAsg_ap, eCall_ap, aCons_ap, eVar_ap, List.getElem?_cons_succ, List.getElem?_cons_zero, vR_some, c1_ok, aNil_ap, c2_ok, cR_ok, ll, e1, asR_ok, gN_ap, stR_ok, List.set_cons_succ, List.set_cons_zero]
  have ix : ∀ m : MO, e2 fIxA (eVar 5) (eVar 7) (LS sc (.lst (ns.map D.str)) tn mn (some (.ptr (J.length + 1))) kk (some (.int (n : Nat))) none none none) (m :: (J ++ [MO.lst its])) = .ok its[n] (m :: (J ++ [MO.lst its])) := fun m => by
    simp only [e2_ap, eVar_ap, List.getElem?_cons_succ, List.getElem?_cons_zero, vR_some, s2_ok, s3_ok]
    exact fIxA_p gT (List.getElem?_eq_getElem hn')
  have ie := item_eq (M := m1 :: (J ++ [MO.lst its])) hit.th
  unfold b_law_3 t_law_2
  rw [kSeq_ap, q1, thn_nx, kIf_ap, bV_ap, eCall_ap, ac (ix m1) an, cR_ok, ie, bR_ok]
  cases z : itB its[n] with
  | false => exact ⟨its, m1, .int (n : Nat), hm1, rfl, hi, by rw [ifR_f, kNil_ap]⟩
  | true =>
    obtain ⟨y, i, ey, wy, i0, i1⟩ := it_parts2 z
    have oy : PyData.strOk y = true := by
      have k := hit.k 0
      rw [ey] at k
      have k' : (okK 2 (.str y) && okKs 2 [.int i]) = true := k
      rw [Bool.and_eq_true] at k'
      exact k'.1
    obtain ⟨d, m2, hm2, hd, od⟩ := odd_eq (J := J ++ [MO.lst its]) (ns := ns) hm1 wy oy i0 i1 hn hl
    refine ⟨its.set n d, m2, .int (n : Nat), hm2, List.length_set, fun x hx => ?_, ?_⟩
    · rcases List.mem_or_eq_of_mem_set hx with w | w
      · exact hi x w
      · rw [w]; exact hd
    · have st := lset_n (N := m2 :: (J ++ [MO.lst its])) (k := J.length + 1) (ds := its) (n := n) (v := d) gT hn'
      rw [sT] at st
      have ea : (eCall g__law_odd (aCons (eVar 1) (aCons (e2 fIxA (eVar 5) (eVar 7)) (aCons (eVar 2) aNil)))) (LS sc (.lst (ns.map D.str)) tn mn (some (.ptr (J.length + 1))) kk (some (.int (n : Nat))) none none none) (m1 :: (J ++ [MO.lst its])) = .ok d (m2 :: (J ++ [MO.lst its])) := by
        rw [eCall_ap, ac (d := .ptr 0) rfl (ac (ix m1) (ac (d := .lst (ns.map D.str)) rfl an)), cR_ok, ey, od]
      rw [ifR_t, kAsg_ap, ea, asR_ok]
      simp only [gSubL_ap, eVar_ap, List.getElem?_cons_succ, List.getElem?_cons_zero, vR_some, gs1_ok, gs2_ok, st, gs3_ok, stR_ok]
end
end QL
end
section
set_option Elab.async false
set_option linter.all false
set_option maxRecDepth 100000
set_option maxHeartbeats 1000000
set_option autoImplicit false
/-! RWay: the list of items is drawn, items are put otherwise. -/
namespace QL
open PySem PySem.Spec L2
open Classical
section
variable {mo : MO} {J M N : Mem} {S : Sl} {d x sc : D} {ds its : List D} {ns : List Str} {tn mn a5 : Option D}
theorem odd_iter (hn : ∀ x ∈ ns, NmOk x) (hl : ns.length = 24) {gd : Mem → Prop} (hg : ∀ M, gd M) : ∀ (l its : List D) (mo : MO), Hand mo → (∀ d ∈ its, It d) → 0 < its.length → its.length ≤ 24 → ∃ (its' : List D) (mo' : MO), Hand mo' ∧ its'.length = its.length ∧ (∀ d ∈ its', It d) ∧
    forL gd (gN 6) b_law_3 [6, 7] l (LS sc (.lst (ns.map D.str)) tn mn (some (.ptr (J.length + 1))) none none none none none) (mo :: (J ++ [MO.lst its])) = .nx (LS sc (.lst (ns.map D.str)) tn mn (some (.ptr (J.length + 1))) none none none none none) (mo' :: (J ++ [MO.lst its']))
  | [], its, mo, hm, hi, _, _ => ⟨its, mo, hm, rfl, hi, forL_end (hg _)⟩
  | d :: r, its, mo, hm, hi, h0, h24 => by
    obtain ⟨i1, m1, at', hm1, l1, hi1, e1⟩ := odd_step (J := J) (sc := sc) (tn := tn) (mn := mn) (kk := some d) (at0 := none) hm hi h0 h24 hn hl
    obtain ⟨i2, m2, hm2, l2, hi2, e2'⟩ := odd_iter hn hl hg r i1 m1 hm1 hi1 (by omega) (by omega)
    refine ⟨i2, m2, hm2, l2.trans l1, hi2, ?_⟩
    rw [forL_step (S1 := LS sc (.lst (ns.map D.str)) tn mn (some (.ptr (J.length + 1))) (some d) none none none none) (M1 := mo :: (J ++ [MO.lst its])) (hg _) rfl, e1]
    exact e2'
theorem odd_all (hn : ∀ x ∈ ns, NmOk x) (hl : ns.length = 24) (hm : Hand mo) (hi : ∀ d ∈ its, It d) (h0 : 0 < its.length) (h24 : its.length ≤ 24) : ∃ (its' : List D) (mo' : MO), Hand mo' ∧ its'.length = its.length ∧ (∀ d ∈ its', It d) ∧
    t_law_4 (LS sc (.lst (ns.map D.str)) tn mn (some (.ptr (J.length + 1))) none none none none none) (mo :: (J ++ [MO.lst its])) = .nx (LS sc (.lst (ns.map D.str)) tn mn (some (.ptr (J.length + 1))) none none none none none) (mo' :: (J ++ [MO.lst its'])) := by
  obtain ⟨r, m1, hm1, r0, r1, e1⟩ := draw1b (J := J ++ [MO.lst its]) hm (t := 3) (by decide) (by decide)
  obtain ⟨n, rfl⟩ := Int.eq_ofNat_of_zero_le r0
  obtain ⟨i2, m2, hm2, l2, hi2, e2'⟩ := odd_iter (J := J) (sc := sc) (tn := tn) (mn := mn) hn hl (gd := Its.gd ⟨rangeD 0 n, none⟩) (fun _ => trivial) (rangeD 0 n) its m1 hm1 hi h0 h24
  refine ⟨i2, m2, hm2, l2, hi2, ?_⟩
  unfold t_law_4
  rw [kFor_ap, iRange1_ap]
  simp only [aCons_ap, eCall_ap, eVar_ap, List.getElem?_cons_succ, List.getElem?_cons_zero, vR_some, c1_ok, eC_ap, aNil_ap, c2_ok, cR_ok, e1]
  rw [i1R_ok (by omega) (by omega), Int.toNat_natCast, foR_ok]
  exact e2'
/-- the items are drawn -/
theorem comp_eq {m : Nat} (hm : Hand mo) (hJ : NoP J) (hn : ∀ x ∈ ns, NmOk x) (hl : ns.length = 24) (m1 : 1 ≤ m) (m24 : m ≤ 24) : ∃ (its : List D) (mo' : MO), Hand mo' ∧ its.length = m ∧ (∀ d ∈ its, It d) ∧
    e_law_1 (LS sc (.lst (ns.map D.str)) tn (some (.int (m : Nat))) a5 none none none none none) (mo :: J) = .ok (.ptr (J.length + 1)) (mo' :: (J ++ [MO.lst its])) := by
  obtain ⟨l', m2, hm2, pm, e1⟩ := shuffled_eq (M := mo :: J) (h := 0) (enc := D.str) (by simp) (NoP.app (nop1 hm) hJ) hm (l := ns) (by omega) (fun _ _ => rfl)
  have e1' : g__law_shuffled [.ptr 0, .lst (ns.map D.str)] (mo :: J) = .ok (.lst (l'.map D.str)) (m2 :: J) := e1
  have ll : l'.length = 24 := by rw [pm.length_eq, hl]
  let S0 : Sl := LS sc (.lst (ns.map D.str)) tn (some (.int (m : Nat))) a5 none none none none none
  obtain ⟨ys, m3, hm3, l3, y3, e3⟩ := lcL_at (gd := Its.gd ⟨(l'.map D.str).take m, none⟩) (fun _ => trivial) (g := gN 11) (b := bYes) (e := eTup (aCons (eVar 11) (aCons (eCall g__law_draw (aCons (eVar 1) (aCons (e2 fAdd (e2 fPow (eC (.int 10)) (eC (.int 30))) (eC (.int 1))) aNil))) aNil)))
    (S0 := S0) (P := Hand) (Y := It) (M := m2 :: J) (h := 0)
    ((l'.map D.str).take m) [] m2 (by rw [List.length_take]; exact small (by simp; omega)) hm2 (fun d hd mo hm => by
      obtain ⟨x, hx, rfl⟩ := List.mem_map.mp (List.mem_of_mem_take hd)
      have hx' := hn x (pm.mem_iff.mp hx)
      obtain ⟨r, mo', hm', r0, r1, e⟩ := draw1b (J := J) hm (t := 1000000000000000000000000000001) (by decide) (by decide)
      refine ⟨S0.set 11 (some (.str x)), .tup [.str x, .int r], mo', hm', it_tup (Nat.le_of_ble_eq_true rfl) (memC (at_str ⟨by have := hx'.2.1; omega, nm_ok hx'⟩) (memC (at_int (by omega)) memN)), rfl, rfl, ?_⟩
      have pw : ∀ (S : Sl) (M : Mem), e2 fAdd (e2 fPow (eC (.int 10)) (eC (.int 30))) (eC (.int 1)) S M = .ok (.int 1000000000000000000000000000001) M := fun _ _ => rfl
      have dr : eCall g__law_draw (aCons (eVar 1) (aCons (e2 fAdd (e2 fPow (eC (.int 10)) (eC (.int 30))) (eC (.int 1))) aNil)) (S0.set 11 (some (.str x))) (mo :: J) = .ok (.int r) (mo' :: J) := by
        rw [eCall_ap, ac (d := .ptr 0) rfl (ac (pw _ _) an), cR_ok, e]
      exact t2 (x := .str x) (M1 := mo :: J) rfl dr)
  rw [List.length_take, List.length_map, ll] at l3
  refine ⟨ys, m3, hm3, by omega, y3, ?_⟩
  have e3' : lcL (Its.gd ⟨(l'.map D.str).take m, none⟩) (gN 11) bYes (eTup (aCons (eVar 11) (aCons (eCall g__law_draw (aCons (eVar 1) (aCons (e2 fAdd (e2 fPow (eC (.int 10)) (eC (.int 30))) (eC (.int 1))) aNil))) aNil))) S0 ((l'.map D.str).take m) [] (m2 :: J) = .ok ys (m3 :: J) := by
    rw [List.nil_append] at e3
    exact e3
  have fs : fSl (.lst (l'.map D.str)) none (some (m : Nat)) (m2 :: J) = .ok (.lst ((l'.map D.str).take m)) (m2 :: J) := by
    rw [fSl_l, cutD_take (by omega)]
    rfl
  have i1 : iSeq (eSl (eCall g__law_shuffled (aCons (eVar 1) (aCons (eVar 2) aNil))) oNone (oSome (eVar 4))) S0 (mo :: J) = .ok ⟨(l'.map D.str).take m, none⟩ (m2 :: J) := by
    have ec : eCall g__law_shuffled (aCons (eVar 1) (aCons (eVar 2) aNil)) S0 (mo :: J) = .ok (.lst (l'.map D.str)) (m2 :: J) := by
      rw [eCall_ap, ac (d := .ptr 0) rfl (ac (d := .lst (ns.map D.str)) rfl an), cR_ok, e1']
    have ev : eVar 4 S0 (m2 :: J) = .ok (.int (m : Nat)) (m2 :: J) := rfl
    rw [iSeq_ap, eSl_ap, ec, sl1_ok, oNone_ap, sl2_ok, oSome_ap, ev, soR_ok, sl3_ok, fs, isR_l]
  unfold e_law_1 eLcP
  rw [i1]
  show (lcL (Its.gd ⟨(l'.map D.str).take m, none⟩) (gN 11) bYes _ S0 ((l'.map D.str).take m) [] (m2 :: J)).bind _ = _
  rw [e3']
  rfl
end
end QL
end
section
set_option Elab.async false
set_option linter.all false
set_option maxRecDepth 100000
set_option maxHeartbeats 1000000
set_option autoImplicit false
/-! RWay2: lists too long; things of other kinds. -/
namespace QL
open PySem PySem.Spec L2
open Classical
def deep : Nat → D
  | 0 => .non
  | n + 1 => .lst [deep n]
section
variable {mo : MO} {J M N : Mem} {S : Sl} {d x sc : D} {ds its : List D} {ns : List Str} {tn mn a5 : Option D} {n : Nat}
theorem deep_ok : ∀ (k n : Nat), k ≤ n → okK n (deep k) = true
  | 0, n, _ => by simp [deep, okK]
  | k + 1, 0, h => absurd h (by omega)
  | k + 1, n + 1, h => by simp [deep, okK, okKs, deep_ok k n (by omega)]
theorem deep_wt : ∀ k : Nat, wtK (deep k) = 4 + 6 * k
  | 0 => rfl
  | k + 1 => by
    simp only [deep, wtK, wtKs, deep_wt k]
    omega
theorem deep_lo : ∀ (k n : Nat), lowD n (deep k) = true
  | 0, _ => rfl
  | k + 1, n => by
    show (lowD n (deep k) && true) = true
    rw [deep_lo k n]
    rfl
theorem deep_th : ∀ k : Nat, Th (deep k)
  | 0 => .non
  | k + 1 => .lst _
theorem deep_rt : Rt (deep 19) := ⟨⟨deep_th 19, fun ds e _ d hd => by
    have e' : [deep 18] = ds := by cases e; rfl
    rw [← e'] at hd
    rw [List.mem_singleton.mp hd]
    exact deep_th 18⟩, deep_ok 19 60 (by omega), by rw [deep_wt]; omega, deep_lo 19⟩
theorem great_rt : Rt (.lst (List.replicate 19000 .non)) := by
  have w : wtKs (List.replicate 19000 D.non) ≤ (4 + 2) * (List.replicate 19000 D.non).length := wtKs_le fun d hd => by rw [(List.mem_replicate.mp hd).2]; decide
  rw [List.length_replicate] at w
  refine ⟨⟨.lst _, fun ds e l d hd => ?_⟩, ?_, by simp only [wtK]; omega, fun n => lowAll fun d hd => by rw [(List.mem_replicate.mp hd).2]; rfl⟩
  · have e' : List.replicate 19000 D.non = ds := D.lst.inj e
    rw [← e', List.length_replicate] at l
    omega
  · show okKs 59 _ = true
    exact okKs_all fun d hd => by rw [(List.mem_replicate.mp hd).2]; rfl
theorem deep_loop {gd : Mem → Prop} (hg : ∀ M, gd M) : ∀ (l : List D) (k : Nat), forL gd (gN 1) b__law_great_things_1 [1] l [some (deep k), none] M = .nx [some (deep (k + l.length)), none] M
  | [], k => forL_end (hg _)
  | d :: l, k => by
    have st : b__law_great_things_1 [some (deep k), some d] M = .nx [some (deep (k + 1)), some d] M := by
      unfold b__law_great_things_1
      simp only [kAsg_ap, eLst_ap, aCons_ap, eVar_ap, List.getElem?_cons_succ, List.getElem?_cons_zero, vR_some, c1_ok, aNil_ap, c2_ok, lsR_1, asR_ok, gN_ap, stR_ok, List.set_cons_succ, List.set_cons_zero]
      rfl
    rw [forL_step (S1 := [some (deep k), some d]) (M1 := M) (hg _) rfl, st]
    show forL gd _ _ _ l [some (deep (k + 1)), none] _ = _
    rw [deep_loop hg l (k + 1), List.length_cons, show k + 1 + l.length = k + (l.length + 1) by omega]
theorem rep_flat {d : D} : ∀ m : Nat, (List.replicate m [d]).flatten = List.replicate m d
  | 0 => rfl
  | m + 1 => by rw [List.replicate_succ, List.flatten_cons, rep_flat m]; rfl
def GT : List D := [.lst (List.replicate 19000 .non), deep 19]
theorem rep_at {k : Nat} {c : Nat} (h : M[k]? = some (.lst [d])) (hc : c ≤ 20000) : fRep (.ptr k) (.int (c : Nat)) M = .ok (.lst (List.replicate c d)) M := by
  unfold fRep
  simp only [h]
  rw [if_pos ⟨by omega, by omega, by rw [Int.toNat_natCast, sizeLine_eq]; show 1 * c ≤ _; omega⟩, Int.toNat_natCast, rep_flat]
theorem great_eq (hM : NoP M) : g__law_great_things [] M = .ok (.lst GT) M := by
  have lp := deep_loop (M := M) (gd := Its.gd ⟨rangeD 0 (19 : Int).toNat, none⟩) (fun _ => trivial) (rangeD 0 (19 : Int).toNat) 0
  rw [rangeD_len] at lp
  have t2 : t__law_great_things_2 [some .non, none] M = .nx [some (deep 19), none] M := by
    unfold t__law_great_things_2
    rw [kFor_ap, iRange1_ap]
    simp only [aCons_ap, eC_ap, c1_ok, aNil_ap, c2_ok]
    rw [i1R_ok (by decide) (by decide), foR_ok]
    exact lp
  have rp : fRep (.ptr M.length) (.int 19000) (M ++ [MO.lst [.non]]) = .ok (.lst (List.replicate 19000 .non)) (M ++ [MO.lst [.non]]) := rep_at (c := 19000) g0 (by omega)
  unfold g__law_great_things
  rw [runF_ap (show ([] : List D).length = 0 from rfl)]
  unfold t__law_great_things
  simp only [List.map_nil, List.replicate, List.nil_append]
  have q1 : kAsg (eC .non) (gN 0) [none, none] M = .nx [some .non, none] M := rfl
  rw [kSeq_ap, q1, thn_nx, kSeq_ap, t2, thn_nx]
  simp only [kRet_ap, eLst_ap, aCons_ap, e2_ap, eLstP_ap, eC_ap, c1_ok, aNil_ap, c2_ok, lpR_1, s2_ok, s3_ok, rp, eVar_ap, List.getElem?_cons_zero, vR_some, lsR_2, rtR_ok, fnR_rt]
  refine set_fail hM ?_ (by simp)
  show lowDs _ GT = true
  exact lowAll fun d hd => by
    rcases List.mem_cons.mp hd with q | q
    · rw [q]; exact great_rt.lo _
    · rw [List.mem_singleton.mp q]; exact deep_lo _ _
/-! ### way 0 -/
abbrev ZZ : D := .tup [.str "zzz", .int 1]
theorem zz_it : It ZZ := it_tup (Nat.le_of_ble_eq_true rfl) (memC (at_str ⟨by decide, by decide +kernel⟩) (memC (at_int (by decide)) memN))
theorem add_p {k : Nat} (hk : M[k]? = some (.lst its)) (h : its.length + ds.length ≤ 20000) : fAdd (.ptr k) (.lst ds) M = .ok (.lst (its ++ ds)) M := by
  have a : asL M (.ptr k) = some its := by simp only [asL, hk]
  show (match asL M (.ptr k), asL M (.lst ds) with | some xs, some ys => if xs.length + ys.length ≤ sizeLine then Res.ok (D.lst (xs ++ ys)) M else .bad | _, _ => .bad) = _
  rw [a]
  show (if its.length + ds.length ≤ sizeLine then Res.ok (D.lst (its ++ ds)) M else .bad) = _
  rw [if_pos (by rw [sizeLine_eq]; omega)]
theorem way0_eq {wy : Int} (hm : Hand mo) (hi : ∀ d ∈ its, It d) (h0 : 0 < its.length) (h24 : its.length ≤ 24) (hw : wy = 0) : ∃ (x : D) (mo' : MO), Hand mo' ∧ Rt x ∧
    t_law_5 (LS sc (.lst (ns.map D.str)) tn mn (some (.ptr (J.length + 1))) none none (some (.int wy)) none none) (mo :: (J ++ [MO.lst its])) = .nx (LS sc (.lst (ns.map D.str)) tn mn (some x) none none (some (.int wy)) none none) (mo' :: (J ++ [MO.lst its] ++ [MO.lst [ZZ]])) := by
  obtain ⟨r, m1, hm1, r0, r1, e1⟩ := draw1b (J := J ++ [MO.lst its] ++ [MO.lst [ZZ]]) hm (t := 2) (by decide) (by decide)
  obtain ⟨k, rfl⟩ := Int.eq_ofNat_of_zero_le r0
  have hk : k < 2 := by omega
  obtain ⟨c, c1', c24, ec⟩ : ∃ c : Nat, 1 ≤ c ∧ c ≤ 24 ∧ ([D.int 1, .int (25 - (its.length : Int))] : List D)[k]? = some (.int (c : Nat)) := by
    rcases (show k = 0 ∨ k = 1 by omega) with rfl | rfl
    · exact ⟨1, by omega, by omega, rfl⟩
    · exact ⟨25 - its.length, by omega, by omega, by
        show some (D.int (25 - (its.length : Int))) = _
        rw [show ((25 - its.length : Nat) : Int) = 25 - (its.length : Int) by omega]⟩
  have gk : ∀ m : MO, (m :: (J ++ [MO.lst its] ++ [MO.lst [ZZ]]))[J.length + 1]? = some (.lst its) := fun m => by
    have := g0 (M := m :: J) (x := MO.lst its) (l := [MO.lst [ZZ]])
    rw [List.append_assoc]
    exact this
  have gz : ∀ m : MO, (m :: (J ++ [MO.lst its] ++ [MO.lst [ZZ]]))[(mo :: (J ++ [MO.lst its])).length]? = some (.lst [ZZ]) := fun m => by
    have := g0 (M := m :: (J ++ [MO.lst its])) (x := MO.lst [ZZ]) (l := [])
    exact this
  refine ⟨.lst (its ++ List.replicate c ZZ), m1, hm1, rt_lst (memA hi fun d hd => by rw [(List.mem_replicate.mp hd).2]; exact zz_it) (by rw [List.length_append, List.length_replicate]; omega), ?_⟩
  let S0 : Sl := LS sc (.lst (ns.map D.str)) tn mn (some (.ptr (J.length + 1))) none none (some (.int wy)) none none
  have v5 : ∀ N, eVar 5 S0 N = .ok (.ptr (J.length + 1)) N := fun N => rfl
  have z1 : eLstP (aCons (eTup (aCons (eC (.str "zzz")) (aCons (eC (.int 1)) aNil))) aNil) S0 (mo :: (J ++ [MO.lst its])) = .ok (.ptr (mo :: (J ++ [MO.lst its])).length) (mo :: (J ++ [MO.lst its] ++ [MO.lst [ZZ]])) := by
    simp only [eLstP_ap, aCons_ap, eTup_ap, eC_ap, c1_ok, aNil_ap, c2_ok, tpR_2, lpR_1]
    rfl
  have z2 : e2 fIxA (eLst (aCons (eC (.int 1)) (aCons (e2 fSub (eC (.int 25)) (eCall bLenA (aCons (eVar 5) aNil))) aNil))) (eCall g__law_draw (aCons (eVar 1) (aCons (eC (.int 2)) aNil))) S0 (mo :: (J ++ [MO.lst its] ++ [MO.lst [ZZ]])) = .ok (.int (c : Nat)) (m1 :: (J ++ [MO.lst its] ++ [MO.lst [ZZ]])) := by
    have l5 : eCall bLenA (aCons (eVar 5) aNil) S0 (mo :: (J ++ [MO.lst its] ++ [MO.lst [ZZ]])) = .ok (.int its.length) (mo :: (J ++ [MO.lst its] ++ [MO.lst [ZZ]])) := by
      rw [eCall_ap, ac (v5 _) an, cR_ok, len_p (gk mo)]
    have sb : e2 fSub (eC (.int 25)) (eCall bLenA (aCons (eVar 5) aNil)) S0 (mo :: (J ++ [MO.lst its] ++ [MO.lst [ZZ]])) = .ok (.int (25 - (its.length : Int))) (mo :: (J ++ [MO.lst its] ++ [MO.lst [ZZ]])) := by
      rw [e2_ap, eC_ap, s2_ok, l5, s3_ok, fSub_i]
    have dr : eCall g__law_draw (aCons (eVar 1) (aCons (eC (.int 2)) aNil)) S0 (mo :: (J ++ [MO.lst its] ++ [MO.lst [ZZ]])) = .ok (.int (k : Nat)) (m1 :: (J ++ [MO.lst its] ++ [MO.lst [ZZ]])) := by
      rw [eCall_ap, ac (d := .ptr 0) rfl (ac eC_ap an), cR_ok, e1]
    rw [e2_ap, ls (ac eC_ap (ac sb an)) (by show 2 ≤ 64; decide), s2_ok, dr, s3_ok]
    exact fIxA_l ec
  have z3 : e2 fAdd (eVar 5) (e2 fRep (eLstP (aCons (eTup (aCons (eC (.str "zzz")) (aCons (eC (.int 1)) aNil))) aNil)) (e2 fIxA (eLst (aCons (eC (.int 1)) (aCons (e2 fSub (eC (.int 25)) (eCall bLenA (aCons (eVar 5) aNil))) aNil))) (eCall g__law_draw (aCons (eVar 1) (aCons (eC (.int 2)) aNil))))) S0 (mo :: (J ++ [MO.lst its])) = .ok (.lst (its ++ List.replicate c ZZ)) (m1 :: (J ++ [MO.lst its] ++ [MO.lst [ZZ]])) := by
    have rp := rep_at (c := c) (gz m1) (by omega)
    rw [e2_ap, v5, s2_ok, e2_ap, z1, s2_ok, z2, s3_ok, rp, s3_ok, add_p (gk m1) (by rw [List.length_replicate]; omega)]
  unfold t_law_5
  rw [kIf_ap, bV_ap, e2_ap, show eVar 8 (LS sc (.lst (ns.map D.str)) tn mn (some (.ptr (J.length + 1))) none none (some (.int wy)) none none) (mo :: (J ++ [MO.lst its])) = .ok (.int wy) (mo :: (J ++ [MO.lst its])) from rfl, s2_ok, eC_ap, s3_ok, fEqA_i, decide_eq_true hw, bR_ok, ifR_t, kAsg_ap, z3, asR_ok, gN_ap, stR_ok]
  rfl
/-! ### way 1 -/
theorem tw_rt (hn : ∀ x ∈ ns, NmOk x) (hl : ns.length ≤ 24) : Rt (.dK (TI ns fun _ => 1)) := by
  have k : ∀ l : List Str, (∀ x ∈ l, NmOk x) → okKv 59 (TI l fun _ => 1) = true ∧ wtKv (TI l fun _ => 1) ≤ 200 * l.length := by
    intro l
    induction l with
    | nil => exact fun _ => ⟨rfl, Nat.zero_le _⟩
    | cons y r ih =>
      intro h
      have hy := h y List.mem_cons_self
      obtain ⟨k1, w1⟩ := ih fun x hx => h x (List.mem_cons_of_mem _ hx)
      refine ⟨?_, ?_⟩
      · show ((PyData.strOk y && okK 59 (.int 1)) && okKv 59 (TI r fun _ => 1)) = true
        rw [nm_ok hy, k1]
        decide
      · show (10 * y.length + 2 + 2 + ((1 : Int).natAbs.log2 + 2)) + 2 + wtKv (TI r fun _ => 1) ≤ 200 * (r.length + 1)
        have := hy.2.1
        have lg : (1 : Int).natAbs.log2 = 0 := by decide
        omega
  obtain ⟨k1, w1⟩ := k ns hn
  refine ⟨⟨.dK _, fun ds e => by cases e⟩, k1, ?_, fun n => ?_⟩
  · simp only [wtK]
    have : 200 * ns.length ≤ 200 * 24 := Nat.mul_le_mul_left _ hl
    omega
  · show lowK n (TI ns fun _ => 1) = true
    exact lowK_ti
theorem pairs_tw : ∀ ks : List Str, pairsOf (ks.map fun x => D.tup [.str x, .int 1]) = some (TI ks fun _ => 1)
  | [] => rfl
  | x :: r => by
    show (match keyOf (.str x), pairsOf (r.map fun x => D.tup [.str x, .int 1]) with | some key, some t => some ((key, D.int 1) :: t) | _, _ => none) = _
    rw [pairs_tw r]
    rfl
theorem merge_ti {f : Fn} : ∀ (q p : List Str), (p ++ q).Nodup → mergeKD (TI p f) (TI q f) = TI (p ++ q) f
  | [], p, _ => by rw [List.append_nil]; rfl
  | x :: q, p, nd => by
    have hx : x ∉ p := fun h => by
      have := (List.nodup_append.mp nd).2.2 x h x List.mem_cons_self
      exact this rfl
    have ih := merge_ti (f := f) q (p ++ [x]) (by rw [List.append_assoc]; exact nd)
    rw [List.append_assoc] at ih
    show mergeKD (putKD (TI p f) (.inr x) (.int (f x))) (TI q f) = _
    rw [ti_new hx, ti_cong (f := fu f x (f x)) (g := f) fun y _ => by by_cases e : y = x; (subst e; exact fu_same); exact fu_ne e]
    exact ih
theorem dictP_tw (nd : ns.Nodup) : bDictP [.lst (ns.map fun x => D.tup [.str x, .int 1])] M = .ok (.ptr M.length) (M ++ [MO.dK (TI ns fun _ => 1)]) := by
  show (match pairsOf (ns.map fun x => D.tup [.str x, .int 1]) with | some kvs => Res.ok (D.ptr M.length) (M ++ [MO.dK (mergeKD [] kvs)]) | none => .bad) = _
  rw [pairs_tw]
  show Res.ok (D.ptr M.length) (M ++ [MO.dK (mergeKD (TI [] fun _ => 1) (TI ns fun _ => 1))]) = _
  rw [merge_ti ns [] nd]
  rfl
end
end QL
end
section
set_option Elab.async false
set_option linter.all false
set_option maxRecDepth 100000
set_option maxHeartbeats 1000000
set_option autoImplicit false
/-! RWay3: a thing of another kind is drawn; what is told and what is due are alike. -/
namespace QL
open PySem PySem.Spec L2
open Classical
section
variable {mo : MO} {J M N : Mem} {S : Sl} {d x sc y : D} {ds its r : List D} {ns : List Str} {tn mn a5 : Option D} {n : Nat}
theorem way0_no {wy : Int} {v : D} (hw : wy ≠ 0) : t_law_5 (LS sc (.lst (ns.map D.str)) tn mn (some v) none none (some (.int wy)) none none) M = .nx (LS sc (.lst (ns.map D.str)) tn mn (some v) none none (some (.int wy)) none none) M := by
  unfold t_law_5
  rw [kIf_ap, bV_ap, e2_ap, show eVar 8 (LS sc (.lst (ns.map D.str)) tn mn (some v) none none (some (.int wy)) none none) M = .ok (.int wy) M from rfl, s2_ok, eC_ap, s3_ok, fEqA_i, decide_eq_false hw, bR_ok, ifR_f, kNil_ap]
theorem way1_no {wy : Int} {v : D} (hw : wy ≠ 1) : t_law_7 (LS sc (.lst (ns.map D.str)) tn mn (some v) none none (some (.int wy)) none none) M = .nx (LS sc (.lst (ns.map D.str)) tn mn (some v) none none (some (.int wy)) none none) M := by
  unfold t_law_7
  rw [kIf_ap, bV_ap, e2_ap, show eVar 8 (LS sc (.lst (ns.map D.str)) tn mn (some v) none none (some (.int wy)) none none) M = .ok (.int wy) M from rfl, s2_ok, eC_ap, s3_ok, fEqA_i, decide_eq_false hw, bR_ok, ifR_f, kNil_ap]
/-- the things of other kinds -/
def SM7 (its : List D) (ns : List Str) : List D := [.tup its, .dK (TI ns fun _ => 1), .non, .str "", .int 5, .lst [.lst []], .lst []]
theorem rt_at (h : At d) (hn : ¬ ∃ ds, d = .lst ds) : Rt d := ⟨⟨h.th, fun ds e _ => absurd ⟨ds, e⟩ hn⟩, h.k 58, Nat.le_trans h.wt (by decide), h.lo⟩
theorem sm7_rt (hi : ∀ d ∈ its, It d) (h24 : its.length ≤ 24) (hn : ∀ x ∈ ns, NmOk x) (hl : ns.length = 24) : ∀ d ∈ SM7 its ns, Rt d := by
  have e0 : It (.lst []) := it_lst (Nat.zero_le _) memN
  refine memC (rt_tup hi (by omega)) (memC (tw_rt hn (by omega)) (memC (rt_at at_non fun ⟨_, e⟩ => by cases e) (memC (rt_at (at_str ⟨Nat.zero_le _, by decide +kernel⟩) fun ⟨_, e⟩ => by cases e) (memC (rt_at (at_int (by decide)) fun ⟨_, e⟩ => by cases e) (memC (rt_lst (memC e0 memN) (by show 1 ≤ 5000; omega)) (memC (rt_lst memN (Nat.zero_le _)) memN))))))
theorem way1_th {wy : Int} (hm : Hand mo) (hJ : NoP J) (hi : ∀ d ∈ y :: r, It d) (h24 : (y :: r).length ≤ 24) (hn : ∀ x ∈ ns, NmOk x) (hl : ns.length = 24) (nd : ns.Nodup) (hw : wy = 1) : ∃ (x : D) (mo' : MO) (sm : D), Hand mo' ∧ Rt x ∧
    t_law_7 (LS sc (.lst (ns.map D.str)) tn mn (some (.ptr (J.length + 1))) none none (some (.int wy)) none none) (mo :: (J ++ [MO.lst (y :: r)])) = .nx (LS sc (.lst (ns.map D.str)) tn mn (some x) none none (some (.int wy)) (some sm) none) (mo' :: (J ++ [MO.lst (y :: r)] ++ [MO.gone] ++ [MO.lst [y]])) ∧ NoP (J ++ [MO.lst (y :: r)] ++ [MO.gone] ++ [MO.lst [y]]) := by
  have nl : NoP [MO.lst (y :: r)] := fun n => by
    show (lowDs n (y :: r) && true) = true
    rw [lowAll fun d hd => (hi d hd).lo n]
    rfl
  have ny : NoP [MO.lst [y]] := fun n => by
    show (lowDs n [y] && true) = true
    rw [lowAll fun d hd => by rw [List.mem_singleton.mp hd]; exact (hi y List.mem_cons_self).lo n]
    rfl
  have nN := NoP.app (NoP.app (NoP.app hJ nl) NoP.gone) ny
  obtain ⟨q, m1, hm1, q0, q1, e1⟩ := draw1b (J := J ++ [MO.lst (y :: r)] ++ [MO.gone] ++ [MO.lst [y]]) hm (t := 10) (by decide) (by decide)
  obtain ⟨k, rfl⟩ := Int.eq_ofNat_of_zero_le q0
  let L : List D := SM7 (y :: r) ns ++ [.lst (List.replicate 4900 y)] ++ GT
  have lL : L.length = 10 := rfl
  have hk : k < L.length := by rw [lL]; omega
  have aL : ∀ d ∈ L, Rt d := memA (memA (sm7_rt hi h24 hn hl) (memC (rt_lst (fun d hd => by rw [(List.mem_replicate.mp hd).2]; exact hi y List.mem_cons_self) (by rw [List.length_replicate]; omega)) memN)) (memC great_rt (memC deep_rt memN))
  refine ⟨L[k], m1, .lst (SM7 (y :: r) ns), hm1, aL _ (List.getElem_mem hk), ?_, nN⟩
  let S0 : Sl := LS sc (.lst (ns.map D.str)) tn mn (some (.ptr (J.length + 1))) none none (some (.int wy)) none none
  let S1 : Sl := LS sc (.lst (ns.map D.str)) tn mn (some (.ptr (J.length + 1))) none none (some (.int wy)) (some (.lst (SM7 (y :: r) ns))) none
  let M0 : Mem := mo :: (J ++ [MO.lst (y :: r)])
  have g5 : M0[J.length + 1]? = some (.lst (y :: r)) := gT
  have x1 : eCall bTuple (aCons (eVar 5) aNil) S0 M0 = .ok (.tup (y :: r)) M0 := by
    rw [eCall_ap, ac (d := .ptr (J.length + 1)) rfl an, cR_ok]
    show (match asL M0 (.ptr (J.length + 1)) with | some xs => Res.ok (D.tup xs) M0 | none => .bad) = _
    have a : asL M0 (.ptr (J.length + 1)) = some (y :: r) := by simp only [asL, g5]
    rw [a]
  have x2 : e_law_6 S0 M0 = .ok (.lst (ns.map fun x => D.tup [.str x, .int 1])) M0 := by
    unfold e_law_6
    rw [eLc_ap]
    show lcR _ _ _ _ _ (Res.ok ⟨ns.map D.str, none⟩ M0) = _
    rw [lcR_ok]
    rw [lcM (gd := Its.gd ⟨ns.map D.str, none⟩) trivial D.str (fun x => D.tup [.str x, .int 1]) ns [] (by rw [sizeLine_eq, List.length_nil]; omega) fun x hx => ⟨S0.set 11 (some (.str x)), rfl, rfl, t2 (x := .str x) (M1 := M0) rfl eC_ap⟩]
    rfl
  have x3 : eFrz (eCall bDictP (aCons e_law_6 aNil)) S0 M0 = .ok (.dK (TI ns fun _ => 1)) (M0 ++ [MO.gone]) := by
    rw [eFrz_k (k := M0.length) (kvs := TI ns fun _ => 1) (N1 := M0 ++ [MO.dK (TI ns fun _ => 1)]) (by rw [eCall_ap, ac x2 an, cR_ok, dictP_tw nd]) g0, s0]
  have q1' : kAsg (eLst (aCons (eCall bTuple (aCons (eVar 5) aNil)) (aCons (eFrz (eCall bDictP (aCons e_law_6 aNil))) (aCons (eC .non) (aCons (eC (.str "")) (aCons (eC (.int 5)) (aCons (eLst (aCons (eLst aNil) aNil)) (aCons (eLst aNil) aNil)))))))) (gN 9) S0 M0 = .nx S1 (M0 ++ [MO.gone]) := by
    have z0 : ∀ N, eLst aNil S0 N = .ok (.lst []) N := fun N => ls an (Nat.zero_le _)
    rw [kAsg_ap, ls (ac x1 (ac x3 (ac eC_ap (ac eC_ap (ac eC_ap (ac (ls (ac (z0 _) an) (by show 1 ≤ 64; decide)) (ac (z0 _) an))))))) (by show 7 ≤ 64; decide), asR_ok, gN_ap, stR_ok]
    rfl
  have M1e : M0 ++ [MO.gone] = mo :: (J ++ [MO.lst (y :: r)] ++ [MO.gone]) := rfl
  have g6 : (M0 ++ [MO.gone])[J.length + 1]? = some (.lst (y :: r)) := by
    rw [List.getElem?_append_left (List.getElem?_eq_some_iff.mp g5).1]
    exact g5
  have x4 : eSlP (eVar 5) oNone (oSome (eC (.int 1))) S1 (M0 ++ [MO.gone]) = .ok (.ptr (M0 ++ [MO.gone]).length) (M0 ++ [MO.gone] ++ [MO.lst [y]]) := by
    show (match asL (M0 ++ [MO.gone]) (.ptr (J.length + 1)) with | some ds => Res.ok (D.ptr (M0 ++ [MO.gone]).length) (M0 ++ [MO.gone] ++ [MO.lst (cutD ds none (some 1))]) | none => .bad) = _
    have a : asL (M0 ++ [MO.gone]) (.ptr (J.length + 1)) = some (y :: r) := by simp only [asL, g6]
    rw [a]
    show Res.ok _ (M0 ++ [MO.gone] ++ [MO.lst (cutD (y :: r) none (some 1))]) = _
    rw [cutD_take (by decide)]
    rfl
  have x5 : e2 fRep (eSlP (eVar 5) oNone (oSome (eC (.int 1)))) (eC (.int 4900)) S1 (M0 ++ [MO.gone]) = .ok (.lst (List.replicate 4900 y)) (M0 ++ [MO.gone] ++ [MO.lst [y]]) := by
    rw [e2_ap, x4, s2_ok, eC_ap, s3_ok]
    exact rep_at (c := 4900) g0 (by omega)
  have nM2 : NoP (M0 ++ [MO.gone] ++ [MO.lst [y]]) := (show NoP ([mo] ++ (J ++ [MO.lst (y :: r)] ++ [MO.gone] ++ [MO.lst [y]])) from NoP.app (nop1 hm) nN)
  have x6 : eCall g__law_great_things aNil S1 (M0 ++ [MO.gone] ++ [MO.lst [y]]) = .ok (.lst GT) (M0 ++ [MO.gone] ++ [MO.lst [y]]) := by
    rw [eCall_ap, an, cR_ok, great_eq nM2]
  have x7 : eCall g__law_draw (aCons (eVar 1) (aCons (eC (.int 10)) aNil)) S1 (M0 ++ [MO.gone] ++ [MO.lst [y]]) = .ok (.int (k : Nat)) (m1 :: (J ++ [MO.lst (y :: r)] ++ [MO.gone] ++ [MO.lst [y]])) := by
    rw [eCall_ap, ac (d := .ptr 0) rfl (ac eC_ap an), cR_ok]
    exact e1
  have ix : ∀ N, fIxA (.lst L) (.int (k : Nat)) N = .ok L[k] N := fun N => fIxA_l (List.getElem?_eq_getElem hk)
  have q2' : kAsg (e2 fIxA (e2 fAdd (e2 fAdd (eVar 9) (eLst (aCons (e2 fRep (eSlP (eVar 5) oNone (oSome (eC (.int 1)))) (eC (.int 4900))) aNil))) (eCall g__law_great_things aNil)) (eCall g__law_draw (aCons (eVar 1) (aCons (eC (.int 10)) aNil)))) (gN 5) S1 (M0 ++ [MO.gone]) = .nx (LS sc (.lst (ns.map D.str)) tn mn (some L[k]) none none (some (.int wy)) (some (.lst (SM7 (y :: r) ns))) none) (m1 :: (J ++ [MO.lst (y :: r)] ++ [MO.gone] ++ [MO.lst [y]])) := by
    have v9 : eVar 9 S1 (M0 ++ [MO.gone]) = .ok (.lst (SM7 (y :: r) ns)) (M0 ++ [MO.gone]) := rfl
    rw [kAsg_ap, e2_ap, e2_ap, e2_ap, v9, s2_ok, ls (ac x5 an) (by show 1 ≤ 64; decide), s3_ok, add_l (by show 7 + 1 ≤ 20000; decide), s2_ok, x6, s3_ok, add_l (by show 8 + 2 ≤ 20000; decide), s2_ok, x7, s3_ok, ix, asR_ok, gN_ap, stR_ok]
    rfl
  unfold t_law_7
  rw [kIf_ap, bV_ap, e2_ap, show eVar 8 (LS sc (.lst (ns.map D.str)) tn mn (some (.ptr (J.length + 1))) none none (some (.int wy)) none none) (mo :: (J ++ [MO.lst (y :: r)])) = .ok (.int wy) (mo :: (J ++ [MO.lst (y :: r)])) from rfl, s2_ok, eC_ap, s3_ok, fEqA_i, decide_eq_true hw, bR_ok, ifR_t, kSeq_ap]
  show (kAsg _ (gN 9) S0 M0).thn _ = _
  rw [q1', thn_nx, q2']
/-! ### alike -/
theorem badAt_lt : ∀ {ds : List D} {p : List Str} {n m : Nat}, badAt p ds n = some m → m < n + ds.length
  | [], _, _, _, h => by cases h
  | d :: r, p, n, m, h => by
    unfold badAt at h
    split at h
    · have := badAt_lt h
      rw [List.length_cons]
      omega
    · cases h
      rw [List.length_cons]
      omega
theorem ans_form (x : D) : ∃ (w : Str) (n : Nat), ansD x = .tup [.str w, .int (n : Nat)] ∧ Sx 10 w ∧ n ≤ 100 := by
  have bd : ∀ ds : List D, ds.length ≤ 24 → ∃ (w : Str) (n : Nat), ansL ds = .tup [.str w, .int (n : Nat)] ∧ Sx 10 w ∧ n ≤ 100 := fun ds h => by
    unfold ansL
    cases e : badAt [] ds 0 with
    | none => exact ⟨"made", ds.length, rfl, ⟨by decide, by decide +kernel⟩, by omega⟩
    | some m => exact ⟨"bad", m, rfl, ⟨by decide, by decide +kernel⟩, by have := badAt_lt e; omega⟩
  have w : ∃ (w : Str) (n : Nat), D.tup [.str "wrong", .int 0] = .tup [.str w, .int (n : Nat)] ∧ Sx 10 w ∧ n ≤ 100 := ⟨"wrong", 0, rfl, ⟨by decide, by decide +kernel⟩, by omega⟩
  by_cases q : ∃ ds, x = .lst ds
  · obtain ⟨ds, rfl⟩ := q
    by_cases q2 : ds.length ≤ 24
    · rw [show ansD (.lst ds) = ansL ds from if_pos q2]
      exact bd ds q2
    · rw [show ansD (.lst ds) = .tup [.str "wrong", .int 0] from if_neg q2]
      exact w
  · rw [ansD_not q]
    exact w
theorem eq_same {ds : List D} (o : okD 64 (.tup ds) = true) : fEqA (.tup ds) (.tup ds) M = .ok (.bl true) M := by
  have q : fEq (.tup ds) (.tup ds) M = .ok (.bl true) M := by
    show (if okD 64 (der M (.tup ds)) = true ∧ okD 64 (der M (.tup ds)) = true then Res.ok (D.bl (PyData.eqv (toPy (der M (.tup ds))) (toPy (der M (.tup ds))))) M else .bad) = _
    have e : der M (.tup ds) = .tup ds := rfl
    rw [e, if_pos ⟨o, o⟩, PySem.SeqAt.eqv_refl _ (okD_lay o).1]
  show orR (fEq _ _ _) _ = _
  rw [q]
  rfl
theorem alike_ans (x : D) : g__law_alike [ansD x, ansD x] M = .ok (.bl true) M := by
  obtain ⟨w, n, e, hw, hn⟩ := ans_form x
  rw [e]
  have rt : Rt (.tup [.str w, .int (n : Nat)]) := rt_tup (memC (at_str (hw.mono (by decide))).it (memC (at_int (by omega)).it memN)) (by show 2 ≤ 1000; omega)
  obtain ⟨s, es⟩ := rep_ex rt
  have o : okD 64 (.tup [.str w, .int (n : Nat)]) = true := by simp [okD, okDs, hw.ok]
  have e0 := eq_same (M := M) o
  unfold g__law_alike
  rw [runF_ap (show [D.tup [.str w, .int (n : Nat)], D.tup [.str w, .int (n : Nat)]].length = 2 from rfl)]
  unfold t__law_alike
  simp only [List.map_cons, List.map_nil, List.replicate, List.cons_append, List.nil_append, List.append_nil, kRet_ap, eAnd_ap, e2_ap, eVar_ap, List.getElem?_cons_succ, List.getElem?_cons_zero, vR_some, s2_ok, s3_ok, e0, eaR_t, eCall_ap, aCons_ap, c1_ok, aNil_ap, c2_ok, cR_ok, es, fEqA_s, decide_true, rtR_ok, fnR_rt]
  exact settle_ok (Nat.le_refl _)
end
end QL
end
section
set_option Elab.async false
set_option linter.all false
set_option maxRecDepth 100000
set_option maxHeartbeats 1000000
set_option autoImplicit false
/-! RMain: the law of refused purses. -/
namespace QL
open PySem PySem.Spec L2
open Classical
section
variable {mo : MO} {J M N : Mem} {S : Sl} {d x sc y : D} {ds its r : List D} {ns : List Str} {tn mn a5 sm : Option D} {n : Nat}
/-- what is asked of a thing -/
theorem asked_eq {s : Str} {kk at' wy sm : Option D} (hM : NoP M) (h : Rt x) (es : ∀ M, bReprAK [x] M = .ok (.str s) M) : t_law_8 (LS sc (.lst (ns.map D.str)) tn mn (some x) kk at' wy sm (some (.str s))) M = .nx (LS sc (.lst (ns.map D.str)) tn mn (some x) kk at' wy sm (some (.str s))) M := by
  have e1 := told_eq hM h.ty
  have e2' := due_eq hM h.ty
  have e3 := alike_ans (M := M) x
  have v5 : ∀ N, eVar 5 (LS sc (.lst (ns.map D.str)) tn mn (some x) kk at' wy sm (some (.str s))) N = .ok x N := fun N => rfl
  have v10 : ∀ N, eVar 10 (LS sc (.lst (ns.map D.str)) tn mn (some x) kk at' wy sm (some (.str s))) N = .ok (.str s) N := fun N => rfl
  unfold t_law_8
  simp only [kIf_ap, bOr_ap, bNot_ap, bV_ap, eCall_ap, aCons_ap, v5, c1_ok, aNil_ap, c2_ok, cR_ok, e1, e2', e3, bR_ok, nR_ok, Bool.not_true, orRr_f, e2_ap, es, s2_ok, v10, s3_ok, fNe_s, decide_true, ifR_f, kNil_ap]
theorem fin_rt {wy sm : Option D} (hM : NoP M) (h : Rt x) : ∃ S2, kSeq (kFz 5 (kAsg (eCall bReprAK (aCons (eVar 5) aNil)) (gN 10))) t_law_8 (LS sc (.lst (ns.map D.str)) tn mn (some x) none none wy sm none) M = .nx S2 M ∧ kl [3, 4, 6, 7, 8, 9, 10] S2 = LS sc (.lst (ns.map D.str)) none none (some x) none none none none none := by
  obtain ⟨s, es⟩ := rep_ex h
  have nk : ∀ k, x ≠ .ptr k := fun k e => by
    have := h.ok
    rw [e] at this
    simp [okK] at this
  have kf : kFz 5 (kAsg (eCall bReprAK (aCons (eVar 5) aNil)) (gN 10)) (LS sc (.lst (ns.map D.str)) tn mn (some x) none none wy sm none) M = kAsg (eCall bReprAK (aCons (eVar 5) aNil)) (gN 10) (LS sc (.lst (ns.map D.str)) tn mn (some x) none none wy sm none) M := by
    unfold kFz
    show (match (some (some x) : Option (Option D)) with | some (some (.ptr k)) => _ | _ => _) = _
    split
    · rename_i k e
      cases e
      exact absurd rfl (nk k)
    · rfl
  have kq : kAsg (eCall bReprAK (aCons (eVar 5) aNil)) (gN 10) (LS sc (.lst (ns.map D.str)) tn mn (some x) none none wy sm none) M = .nx (LS sc (.lst (ns.map D.str)) tn mn (some x) none none wy sm (some (.str s))) M := by
    rw [kAsg_ap, eCall_ap, ac (d := x) rfl an, cR_ok, es, asR_ok, gN_ap, stR_ok]
    rfl
  refine ⟨LS sc (.lst (ns.map D.str)) tn mn (some x) none none wy sm (some (.str s)), ?_, rfl⟩
  rw [kSeq_ap, kf, kq, thn_nx, asked_eq hM h es]
theorem fin_ptr {wy sm : Option D} (hm : Hand mo) (hJ : NoP J) (hi : ∀ d ∈ its, It d) (h24 : its.length ≤ 24) : ∃ S2, kSeq (kFz 5 (kAsg (eCall bReprAK (aCons (eVar 5) aNil)) (gN 10))) t_law_8 (LS sc (.lst (ns.map D.str)) tn mn (some (.ptr (J.length + 1))) none none wy sm none) (mo :: (J ++ [MO.lst its])) = .nx S2 (mo :: (J ++ [MO.gone])) ∧ kl [3, 4, 6, 7, 8, 9, 10] S2 = LS sc (.lst (ns.map D.str)) none none (some (.lst its)) none none none none none := by
  have h : Rt (.lst its) := rt_lst hi (by omega)
  have hM : NoP (mo :: (J ++ [MO.gone])) := (show NoP ([mo] ++ (J ++ [MO.gone])) from NoP.app (nop1 hm) (NoP.app hJ NoP.gone))
  obtain ⟨s, es⟩ := rep_ex h
  have kf : kFz 5 (kAsg (eCall bReprAK (aCons (eVar 5) aNil)) (gN 10)) (LS sc (.lst (ns.map D.str)) tn mn (some (.ptr (J.length + 1))) none none wy sm none) (mo :: (J ++ [MO.lst its])) = kAsg (eCall bReprAK (aCons (eVar 5) aNil)) (gN 10) (LS sc (.lst (ns.map D.str)) tn mn (some (.lst its)) none none wy sm none) (mo :: (J ++ [MO.gone])) := by
    have g := gT (mo := mo) (J := J) (x := MO.lst its)
    unfold kFz
    show (match (mo :: (J ++ [MO.lst its]))[J.length + 1]? with | some (.lst ds) => _ | _ => _) = _
    rw [g]
    show kAsg _ _ ((LS sc (.lst (ns.map D.str)) tn mn (some (.ptr (J.length + 1))) none none wy sm none).set 5 (some (.lst its))) ((mo :: (J ++ [MO.lst its])).set (J.length + 1) .gone) = _
    rw [sT]
    rfl
  have kq : kAsg (eCall bReprAK (aCons (eVar 5) aNil)) (gN 10) (LS sc (.lst (ns.map D.str)) tn mn (some (.lst its)) none none wy sm none) (mo :: (J ++ [MO.gone])) = .nx (LS sc (.lst (ns.map D.str)) tn mn (some (.lst its)) none none wy sm (some (.str s))) (mo :: (J ++ [MO.gone])) := by
    rw [kAsg_ap, eCall_ap, ac (d := .lst its) rfl an, cR_ok, es, asR_ok, gN_ap, stR_ok]
    rfl
  refine ⟨LS sc (.lst (ns.map D.str)) tn mn (some (.lst its)) none none wy sm (some (.str s)), ?_, rfl⟩
  rw [kSeq_ap, kf, kq, thn_nx, asked_eq hM h es]
theorem many_eq (hm : Hand mo) : ∃ (m : Nat) (mo' : MO), Hand mo' ∧ 1 ≤ m ∧ m ≤ 24 ∧
    kAsg (e2 fIxA (eLst (aCons (e2 fAdd (eC (.int 1)) (eCall g__law_draw (aCons (eVar 1) (aCons (eC (.int 5)) aNil)))) (aCons (e2 fAdd (eC (.int 1)) (eCall g__law_draw (aCons (eVar 1) (aCons (eC (.int 24)) aNil)))) (aCons (eC (.int 24)) aNil)))) (eCall g__law_draw (aCons (eVar 1) (aCons (eC (.int 3)) aNil)))) (gN 4) (LS sc (.lst (ns.map D.str)) tn none a5 none none none none none) (mo :: J) =
      .nx (LS sc (.lst (ns.map D.str)) tn (some (.int (m : Nat))) a5 none none none none none) (mo' :: J) := by
  obtain ⟨q1, m1, hm1, a0, a1, e1⟩ := draw1b (J := J) hm (t := 5) (by decide) (by decide)
  obtain ⟨k1, rfl⟩ := Int.eq_ofNat_of_zero_le a0
  obtain ⟨q2, m2, hm2, b0, b1, e2'⟩ := draw1b (J := J) hm1 (t := 24) (by decide) (by decide)
  obtain ⟨k2, rfl⟩ := Int.eq_ofNat_of_zero_le b0
  obtain ⟨q3, m3, hm3, c0, c1', e3'⟩ := draw1b (J := J) hm2 (t := 3) (by decide) (by decide)
  obtain ⟨k3, rfl⟩ := Int.eq_ofNat_of_zero_le c0
  obtain ⟨c, l1, l2, ec⟩ : ∃ c : Nat, 1 ≤ c ∧ c ≤ 24 ∧ ([D.int (1 + (k1 : Nat)), .int (1 + (k2 : Nat)), .int 24] : List D)[k3]? = some (.int (c : Nat)) := by
    rcases (show k3 = 0 ∨ k3 = 1 ∨ k3 = 2 by omega) with rfl | rfl | rfl
    · exact ⟨1 + k1, by omega, by omega, by simp⟩
    · exact ⟨1 + k2, by omega, by omega, by simp⟩
    · exact ⟨24, by omega, by omega, by simp⟩
  refine ⟨c, m3, hm3, l1, l2, ?_⟩
  let S0 : Sl := LS sc (.lst (ns.map D.str)) tn none a5 none none none none none
  have d1 : e2 fAdd (eC (.int 1)) (eCall g__law_draw (aCons (eVar 1) (aCons (eC (.int 5)) aNil))) S0 (mo :: J) = .ok (.int (1 + (k1 : Nat))) (m1 :: J) := by
    rw [e2_ap, eC_ap, s2_ok, eCall_ap, ac (d := .ptr 0) rfl (ac eC_ap an), cR_ok, e1, s3_ok, fAdd_i]
  have d2 : e2 fAdd (eC (.int 1)) (eCall g__law_draw (aCons (eVar 1) (aCons (eC (.int 24)) aNil))) S0 (m1 :: J) = .ok (.int (1 + (k2 : Nat))) (m2 :: J) := by
    rw [e2_ap, eC_ap, s2_ok, eCall_ap, ac (d := .ptr 0) rfl (ac eC_ap an), cR_ok, e2', s3_ok, fAdd_i]
  have d3 : eCall g__law_draw (aCons (eVar 1) (aCons (eC (.int 3)) aNil)) S0 (m2 :: J) = .ok (.int (k3 : Nat)) (m3 :: J) := by
    rw [eCall_ap, ac (d := .ptr 0) rfl (ac eC_ap an), cR_ok, e3']
  have ix : fIxA (.lst [D.int (1 + (k1 : Nat)), .int (1 + (k2 : Nat)), .int 24]) (.int (k3 : Nat)) (m3 :: J) = .ok (.int (c : Nat)) (m3 :: J) := fIxA_l ec
  show kAsg _ (gN 4) S0 (mo :: J) = _
  rw [kAsg_ap, e2_ap, ls (ac d1 (ac d2 (ac eC_ap an))) (by show 3 ≤ 64; decide), s2_ok, d3, s3_ok, ix, asR_ok, gN_ap, stR_ok]
  rfl
theorem turn_eq (hm : Hand mo) (hJ : NoP J) (hn : ∀ x ∈ ns, NmOk x) (hl : ns.length = 24) (nd : ns.Nodup) : ∃ (x : D) (mo' : MO) (J' : Mem) (S2 : Sl), Hand mo' ∧ NoP J' ∧ b_law_9 (LS sc (.lst (ns.map D.str)) tn none a5 none none none none none) (mo :: J) = .nx S2 (mo' :: J') ∧ kl [3, 4, 6, 7, 8, 9, 10] S2 = LS sc (.lst (ns.map D.str)) none none (some x) none none none none none := by
  obtain ⟨m, m1, hm1, l1, l24, p1⟩ := many_eq (J := J) (sc := sc) (ns := ns) (tn := tn) (a5 := a5) hm
  obtain ⟨i0, m2, hm2, li0, hi0, ec⟩ := comp_eq (J := J) (sc := sc) (tn := tn) (a5 := a5) hm1 hJ hn hl l1 l24
  obtain ⟨i1, m3, hm3, li1, hi1, p3⟩ := odd_all (J := J) (sc := sc) (tn := tn) (mn := some (.int (m : Nat))) hn hl hm2 hi0 (by omega) (by omega)
  obtain ⟨w, m4, hm4, w0, w1, ew⟩ := draw1b (J := J ++ [MO.lst i1]) hm3 (t := 10) (by decide) (by decide)
  have nl : NoP [MO.lst i1] := fun n => by
    show (lowDs n i1 && true) = true
    rw [lowAll fun d hd => (hi1 d hd).lo n]
    rfl
  have p2 : kAsg e_law_1 (gN 5) (LS sc (.lst (ns.map D.str)) tn (some (.int (m : Nat))) a5 none none none none none) (m1 :: J) = .nx (LS sc (.lst (ns.map D.str)) tn (some (.int (m : Nat))) (some (.ptr (J.length + 1))) none none none none none) (m2 :: (J ++ [MO.lst i0])) := by
    rw [kAsg_ap, ec, asR_ok, gN_ap, stR_ok]
    rfl
  have p4 : kAsg (eCall g__law_draw (aCons (eVar 1) (aCons (eC (.int 10)) aNil))) (gN 8) (LS sc (.lst (ns.map D.str)) tn (some (.int (m : Nat))) (some (.ptr (J.length + 1))) none none none none none) (m3 :: (J ++ [MO.lst i1])) = .nx (LS sc (.lst (ns.map D.str)) tn (some (.int (m : Nat))) (some (.ptr (J.length + 1))) none none (some (.int w)) none none) (m4 :: (J ++ [MO.lst i1])) := by
    rw [kAsg_ap, eCall_ap, ac (d := .ptr 0) rfl (ac eC_ap an), cR_ok, ew, asR_ok, gN_ap, stR_ok]
    rfl
  have pre : ∀ R, (kSeq t_law_5 (kSeq t_law_7 (kSeq (kFz 5 (kAsg (eCall bReprAK (aCons (eVar 5) aNil)) (gN 10))) t_law_8))) (LS sc (.lst (ns.map D.str)) tn (some (.int (m : Nat))) (some (.ptr (J.length + 1))) none none (some (.int w)) none none) (m4 :: (J ++ [MO.lst i1])) = R → b_law_9 (LS sc (.lst (ns.map D.str)) tn none a5 none none none none none) (mo :: J) = R := fun R h => by
    unfold b_law_9
    rw [kSeq_ap, p1, thn_nx, kSeq_ap, p2, thn_nx, kSeq_ap, p3, thn_nx, kSeq_ap, p4, thn_nx]
    exact h
  by_cases z0 : w = 0
  · obtain ⟨x, m5, hm5, rx, e5⟩ := way0_eq (J := J) (sc := sc) (ns := ns) (tn := tn) (mn := some (.int (m : Nat))) hm4 hi1 (by omega) (by omega) z0
    have nz : NoP (J ++ [MO.lst i1] ++ [MO.lst [ZZ]]) := NoP.app (NoP.app hJ nl) fun n => rfl
    obtain ⟨S2, eS, kS⟩ := fin_rt (sc := sc) (ns := ns) (tn := tn) (mn := some (.int (m : Nat))) (wy := some (.int w)) (sm := none) (M := m5 :: (J ++ [MO.lst i1] ++ [MO.lst [ZZ]])) (show NoP ([m5] ++ (J ++ [MO.lst i1] ++ [MO.lst [ZZ]])) from NoP.app (nop1 hm5) nz) rx
    refine ⟨x, m5, _, S2, hm5, nz, pre _ ?_, kS⟩
    rw [kSeq_ap, e5, thn_nx, kSeq_ap, way1_no (by omega), thn_nx, eS]
  · by_cases z1 : w = 1
    · obtain ⟨y, r, rfl⟩ : ∃ y r, i1 = y :: r := List.exists_cons_of_length_pos (by omega)
      obtain ⟨x, m5, sm, hm5, rx, e5, nz⟩ := way1_th (J := J) (sc := sc) (ns := ns) (tn := tn) (mn := some (.int (m : Nat))) hm4 hJ hi1 (by omega) hn hl nd z1
      obtain ⟨S2, eS, kS⟩ := fin_rt (sc := sc) (ns := ns) (tn := tn) (mn := some (.int (m : Nat))) (wy := some (.int w)) (sm := some sm) (M := m5 :: (J ++ [MO.lst (y :: r)] ++ [MO.gone] ++ [MO.lst [y]])) (show NoP ([m5] ++ (J ++ [MO.lst (y :: r)] ++ [MO.gone] ++ [MO.lst [y]])) from NoP.app (nop1 hm5) nz) rx
      refine ⟨x, m5, _, S2, hm5, nz, pre _ ?_, kS⟩
      rw [kSeq_ap, way0_no z0, thn_nx, kSeq_ap, e5, thn_nx, eS]
    · obtain ⟨S2, eS, kS⟩ := fin_ptr (sc := sc) (ns := ns) (tn := tn) (mn := some (.int (m : Nat))) (wy := some (.int w)) (sm := none) hm4 hJ hi1 (by omega)
      refine ⟨.lst i1, m4, _, S2, hm4, NoP.app hJ NoP.gone, pre _ ?_, kS⟩
      rw [kSeq_ap, way0_no z0, thn_nx, kSeq_ap, way1_no z1, thn_nx, eS]
end
end QL
end
section
set_option Elab.async false
set_option linter.all false
set_option maxRecDepth 100000
set_option maxHeartbeats 1000000
set_option autoImplicit false
/-! RMain2: Purses and Lots as things; the law. -/
namespace QL
open PySem PySem.Spec L2
open Classical
section
variable {mo : MO} {J M N : Mem} {S : Sl} {d x sc : D} {ns : List Str}
theorem init_fin {cl : Str} (hM : NoP M) {S : Sl} : fnR (M ++ [MO.obj cl []]).length (.nx S (M ++ [MO.obj cl [("table", .dK [])]] ++ [MO.gone])) = .ok .non (M ++ [MO.obj cl [("table", .dK [])]]) := by
  have sl : (M ++ [MO.obj cl []]).length = (M ++ [MO.obj cl [("table", .dK [])]]).length := by simp
  rw [fnR_nx, sl]
  exact set_fail (NoP.app hM fun n => rfl) rfl (by simp)
theorem initL (hM : NoP M) : g_Lot___init__ [.ptr M.length, .lst []] (M ++ [MO.obj "Lot" []]) = .ok .non (M ++ [MO.obj "Lot" [("table", .dK [])]]) := by
  have i1 : eIsO ISO "list" (eVar 1) [some (.ptr M.length), some (.lst []), none, none, none, none] (M ++ [MO.obj "Lot" []]) = .ok (.bl true) (M ++ [MO.obj "Lot" []]) := isO_at (d := .lst []) (.lst []) rfl
  have a1 : t_Lot___init___1 [some (.ptr M.length), some (.lst []), none, none, none, none] (M ++ [MO.obj "Lot" []]) = .nx [some (.ptr M.length), some (.lst []), none, none, none, none] (M ++ [MO.obj "Lot" []]) := by
    have gt : decide ((500 : Int) < (([] : List D).length : Int)) = false := by decide
    unfold t_Lot___init___1
    simp only [kIf_ap, bOr_ap, bNot_ap, bV_ap, i1, bR_ok, nR_ok, Bool.not_true, orRr_f, e2_ap, eCall_ap, aCons_ap, eVar_ap, List.getElem?_cons_succ, List.getElem?_cons_zero, vR_some, c1_ok, aNil_ap, c2_ok, cR_ok, bLenA_l, s2_ok, eC_ap, s3_ok, fGt_i, gt, ifR_f, kNil_ap]
  have a2 : t_Lot___init___5 [some (.ptr M.length), some (.lst []), some (.ptr (M ++ [MO.obj "Lot" []]).length), none, none, none] (M ++ [MO.obj "Lot" []] ++ [MO.dK []]) = .nx [some (.ptr M.length), some (.lst []), some (.ptr (M ++ [MO.obj "Lot" []]).length), none, none, none] (M ++ [MO.obj "Lot" []] ++ [MO.dK []]) := by
    unfold t_Lot___init___5
    rw [kFor_ap]
    show foR _ _ _ _ (Res.ok ⟨enumD 0 [], none⟩ _) = _
    rw [foR_ok]
    exact forL_end trivial
  have a3 := fld_at (M := M) (kvs := []) (cl := "Lot") (S := [some (.ptr M.length), some (.lst []), some (.ptr (M ++ [MO.obj "Lot" []]).length), none, none, none]) rfl rfl
  have nk : ∀ S, eDnewKP S (M ++ [MO.obj "Lot" []]) = .ok (.ptr (M ++ [MO.obj "Lot" []]).length) (M ++ [MO.obj "Lot" []] ++ [MO.dK []]) := fun _ => rfl
  unfold g_Lot___init__
  rw [runF_ap (show [D.ptr M.length, D.lst []].length = 2 from rfl)]
  unfold t_Lot___init__
  simp only [List.map_cons, List.map_nil, List.replicate, List.cons_append, List.nil_append, kSeq_ap, a1, thn_nx, kAsg_ap, nk, asR_ok, gN_ap, stR_ok, List.set_cons_succ, List.set_cons_zero, a2, a3]
  exact init_fin hM
theorem make0 {cl : Str} {g : List D → Mem → Res D} {S : Sl} (h : g [.ptr M.length, .lst []] (M ++ [MO.obj cl []]) = .ok .non (M ++ [MO.obj cl [("table", .dK [])]])) : eFrz (eMake cl g (aCons (eLst aNil) aNil)) S M = .ok (.obj cl [("table", .dK [])]) (M ++ [MO.gone]) := by
  have e1 : eMake cl g (aCons (eLst aNil) aNil) S M = .ok (.ptr M.length) (M ++ [MO.obj cl [("table", .dK [])]]) := by
    unfold eMake
    have ha : aCons (eLst aNil) aNil S M = .ok [.lst []] M := by simp only [aCons_ap, eLst_ap, aNil_ap, lsR_0, c1_ok, c2_ok]
    rw [ha]
    show (match g [.ptr M.length, .lst []] (M ++ [MO.obj cl []]) with | .ok .non M2 => _ | .rz x M2 => _ | _ => Res.bad) = _
    rw [h]
  unfold eFrz
  rw [e1]
  show (match frz (.ptr M.length) (M ++ [MO.obj cl [("table", .dK [])]]) with | some (d', M2) => Res.ok d' M2 | none => .bad) = _
  have e2' : frz (.ptr M.length) (M ++ [MO.obj cl [("table", .dK [])]]) = some (.obj cl [("table", .dK [])], M ++ [MO.gone]) := by
    simp [frz]
  rw [e2']
theorem sg_ok : ∀ n < 26, sgB (97 + n) = true := by decide +kernel
theorem wd_ok {x : Str} (h : NmOk x) : wdB x = true := by
  unfold wdB
  have h1 := h.1
  have h2 := h.2.1
  rw [decide_eq_true (by omega), decide_eq_true (by omega)]
  simp only [Bool.true_and, List.all_eq_true]
  intro c hc
  have := h.2.2 c hc
  have k := sg_ok (c - 97) (by omega)
  rwa [show 97 + (c - 97) = c by omega] at k
theorem obj_ty {n : Str} {fs : List (Str × D)} (h : n ∈ ISO) : Ty (.obj n fs) := ⟨.obj n fs h, fun ds e => by cases e⟩
theorem objs_eq (hM : NoP M) (hn : ∀ x ∈ ns, NmOk x) (hl : ns.length = 24) (h2 : S[2]? = some (some (.lst (ns.map D.str)))) : ∃ (o1 o2 o3 : D), Ty o1 ∧ Ty o2 ∧ Ty o3 ∧ (∀ o ∈ [o1, o2, o3], ansD o = .tup [.str "wrong", .int 0]) ∧
    eLst (aCons (eFrz (eMake "Purses" g_Purses___init__ (aCons (eLst aNil) aNil))) (aCons (eFrz (eMake "Purses" g_Purses___init__ (aCons (eLst (aCons (eTup (aCons (e2 fIxA (eVar 2) (eC (.int 0))) (aCons (eC (.int 1)) aNil))) aNil)) aNil))) (aCons (eFrz (eMake "Lot" g_Lot___init__ (aCons (eLst aNil) aNil))) aNil))) S M = .ok (.lst [o1, o2, o3]) (M ++ [MO.gone] ++ [MO.gone] ++ [MO.gone]) := by
  have n1 : NoP (M ++ [MO.gone]) := NoP.app hM NoP.gone
  have n2 : NoP (M ++ [MO.gone] ++ [MO.gone]) := NoP.app n1 NoP.gone
  have y0 : Ty (.lst []) := ⟨.lst _, fun ds e _ d hd => by cases e; cases hd⟩
  have h0 : 0 < ns.length := by omega
  have nm0 := hn _ (List.getElem_mem h0)
  let p0 : D := .tup [.str ns[0], .int 1]
  have tp0 : Th p0 := .tup _ (by show 2 ≤ 1000; omega) (memC (.str _ (by have := nm0.2.1; omega)) (memC (.int 1) memN))
  have y1 : Ty (.lst [p0]) := ⟨.lst _, fun ds e _ d hd => by cases e; rw [List.mem_singleton.mp hd]; exact tp0⟩
  obtain ⟨p, v, hv, _, e1⟩ := make_eq (S := S) (ar := aCons (eLst aNil) aNil) hM y0 (ac (ls an (Nat.zero_le _)) an)
  have er0 : errD (.lst []) = none := rfl
  rw [er0] at e1
  have ip0 : itB p0 = true := by
    show (nmB (.str ns[0]) && rgB 0 1000000000000000000000000000000 (.int 1)) = true
    rw [show nmB (.str ns[0]) = wdB ns[0] from rfl, wd_ok nm0]
    rfl
  have er1 : errD (.lst [p0]) = none := by
    show (if [p0].length ≤ 24 then errL [p0] else some XW) = none
    rw [if_pos (by show 1 ≤ 24; omega)]
    unfold errL
    have b : badAt [] [p0] 0 = none := by
      show (if itB p0 = true ∧ kyOf p0 ∉ ([] : List Str) then badAt _ [] 1 else some 0) = none
      rw [if_pos ⟨ip0, by simp⟩]
      rfl
    rw [b]
  obtain ⟨p', v', hv', _, e2'⟩ := make_eq (S := S) (M := M ++ [MO.gone]) (x := .lst [p0]) (ar := aCons (eLst (aCons (eTup (aCons (e2 fIxA (eVar 2) (eC (.int 0))) (aCons (eC (.int 1)) aNil))) aNil)) aNil) n1 y1 (by
    have ix : e2 fIxA (eVar 2) (eC (.int 0)) S (M ++ [MO.gone]) = .ok (.str ns[0]) (M ++ [MO.gone]) := by
      rw [e2_ap, eVar_ap, h2, vR_some, s2_ok, eC_ap, s3_ok]
      exact ixs (n := 0) h0
    exact ac (ls (ac (t2 ix eC_ap) an) (by show 1 ≤ 64; decide)) an)
  rw [er1] at e2'
  have e3' := make0 (M := M ++ [MO.gone] ++ [MO.gone]) (S := S) (initL n2)
  refine ⟨_, _, _, obj_ty (by decide +kernel), obj_ty (by decide +kernel), obj_ty (by decide +kernel), ?_, ls (ac e1 (ac e2' (ac e3' an))) (by show 3 ≤ 64; decide)⟩
  exact memC rfl (memC rfl (memC rfl memN))
abbrev WR : D := .tup [.str "wrong", .int 0]
theorem last_eq (hM : NoP M) (hn : ∀ x ∈ ns, NmOk x) (hl : ns.length = 24) {a5 : Option D} : ∃ M', kRet (e2 fEqA e_law_11 (e2 fRep (eLstP (aCons (eTup (aCons (eC (.str "wrong")) (aCons (eC (.int 0)) aNil))) aNil)) (eC (.int 3)))) (LS sc (.lst (ns.map D.str)) none none a5 none none none none none) M = .rt (.bl true) M' := by
  obtain ⟨o1, o2, o3, y1, y2, y3, ha, e1⟩ := objs_eq (S := LS sc (.lst (ns.map D.str)) none none a5 none none none none none) hM hn hl rfl
  let M3 : Mem := M ++ [MO.gone] ++ [MO.gone] ++ [MO.gone]
  have n3 : NoP M3 := NoP.app (NoP.app (NoP.app hM NoP.gone) NoP.gone) NoP.gone
  have c1' : e_law_11 (LS sc (.lst (ns.map D.str)) none none a5 none none none none none) M = .ok (.lst [WR, WR, WR]) M3 := by
    unfold e_law_11
    rw [eLc_ap, iSeq_ap, e1, isR_l, lcR_ok]
    have lc := lcM (gd := Its.gd ⟨[o1, o2, o3], none⟩) (g := gN 5) (b := bYes) (e := eCall g__law_told (aCons (eVar 5) aNil)) (S0 := LS sc (.lst (ns.map D.str)) none none none none none none none none) (M := M3) trivial (fun d : D => d) (fun _ => WR) [o1, o2, o3] [] (by show 0 + 3 ≤ sizeLine; rw [sizeLine_eq]; omega) fun x hx => ⟨LS sc (.lst (ns.map D.str)) none none (some x) none none none none none, rfl, rfl, by
      have yx : Ty x := by
        simp only [List.mem_cons, List.not_mem_nil, or_false] at hx
        rcases hx with rfl | rfl | rfl
        · exact y1
        · exact y2
        · exact y3
      rw [eCall_ap, ac (d := x) rfl an, cR_ok, told_eq n3 yx, ha x hx]⟩
    rw [List.map_id'] at lc
    show (lcL (Its.gd ⟨[o1, o2, o3], none⟩) (gN 5) bYes (eCall g__law_told (aCons (eVar 5) aNil)) (LS sc (.lst (ns.map D.str)) none none none none none none none none) [o1, o2, o3] [] M3).bind _ = _
    rw [lc]
    rfl
  have r3 : e2 fRep (eLstP (aCons (eTup (aCons (eC (.str "wrong")) (aCons (eC (.int 0)) aNil))) aNil)) (eC (.int 3)) (LS sc (.lst (ns.map D.str)) none none a5 none none none none none) M3 = .ok (.lst [WR, WR, WR]) (M3 ++ [MO.lst [WR]]) := by
    have z1 : eLstP (aCons (eTup (aCons (eC (.str "wrong")) (aCons (eC (.int 0)) aNil))) aNil) (LS sc (.lst (ns.map D.str)) none none a5 none none none none none) M3 = .ok (.ptr M3.length) (M3 ++ [MO.lst [WR]]) := by
      rw [eLstP_ap, ac (t2 eC_ap eC_ap) an, lpR_1]
    rw [e2_ap, z1, s2_ok, eC_ap, s3_ok]
    exact rep_at (c := 3) g0 (by omega)
  have q : fEqA (.lst [WR, WR, WR]) (.lst [WR, WR, WR]) (M3 ++ [MO.lst [WR]]) = .ok (.bl true) (M3 ++ [MO.lst [WR]]) := by
    have so : PyData.strOk ("wrong" : Str) = true := by decide +kernel
    have o : okD 64 (.lst [WR, WR, WR]) = true := by simp [okD, okDs, so]
    have q : fEq (.lst [WR, WR, WR]) (.lst [WR, WR, WR]) (M3 ++ [MO.lst [WR]]) = .ok (.bl true) (M3 ++ [MO.lst [WR]]) := by
      show (if okD 64 (der (M3 ++ [MO.lst [WR]]) (.lst [WR, WR, WR])) = true ∧ okD 64 (der (M3 ++ [MO.lst [WR]]) (.lst [WR, WR, WR])) = true then Res.ok (D.bl (PyData.eqv (toPy (der (M3 ++ [MO.lst [WR]]) (.lst [WR, WR, WR]))) (toPy (der (M3 ++ [MO.lst [WR]]) (.lst [WR, WR, WR]))))) (M3 ++ [MO.lst [WR]]) else .bad) = _
      have e : der (M3 ++ [MO.lst [WR]]) (.lst [WR, WR, WR]) = .lst [WR, WR, WR] := rfl
      rw [e, if_pos ⟨o, o⟩, PySem.SeqAt.eqv_refl _ (okD_lay o).1]
    show orR (fEq _ _ _) _ = _
    rw [q]
    rfl
  exact ⟨M3 ++ [MO.lst [WR]], by rw [kRet_ap, e2_ap, c1', s2_ok, r3, s3_ok, q, rtR_ok]⟩
theorem main_law (ns0 : List Int) (h : ns0.length ≤ 63) : ∃ M, g_law [.lst (ns0.map D.int)] [] = .ok (.bl true) M := by
  obtain ⟨mo, hm, eh⟩ := hand_eq ns0 h
  obtain ⟨ns, m1, hm1, ln, nd, hn, en⟩ := names_eq (M := [mo]) (h := 0) (by simp) hm (m := 24) (by decide)
  have en' : g__law_names [.ptr 0, .int 24] [mo] = .ok (.lst (ns.map D.str)) [m1] := en
  have turns : ∀ (l : List D) (mo : MO) (J : Mem) (a5 : Option D), Hand mo → NoP J → ∃ mo' J' a5', Hand mo' ∧ NoP J' ∧ forL (Its.gd ⟨rangeD 0 (12 : Int).toNat, none⟩) (gN 3) b_law_9 [3, 4, 6, 7, 8, 9, 10] l (LS (.lst (ns0.map D.int)) (.lst (ns.map D.str)) none none a5 none none none none none) (mo :: J) = .nx (LS (.lst (ns0.map D.int)) (.lst (ns.map D.str)) none none a5' none none none none none) (mo' :: J') := by
    intro l
    induction l with
    | nil => exact fun mo J a5 hm hJ => ⟨mo, J, a5, hm, hJ, forL_end trivial⟩
    | cons d r ih =>
      intro mo J a5 hm hJ
      obtain ⟨x, m1, J1, S2, h1, hJ1, e1, k1⟩ := turn_eq (sc := .lst (ns0.map D.int)) (tn := some d) (a5 := a5) hm hJ hn ln nd
      obtain ⟨m2, J2, a6, h2, hJ2, e2'⟩ := ih m1 J1 (some x) h1 hJ1
      refine ⟨m2, J2, a6, h2, hJ2, ?_⟩
      rw [forL_step (S1 := LS (.lst (ns0.map D.int)) (.lst (ns.map D.str)) (some d) none a5 none none none none none) (M1 := mo :: J) trivial rfl, e1]
      show forL (Its.gd ⟨rangeD 0 (12 : Int).toNat, none⟩) _ _ _ r (kl [3, 4, 6, 7, 8, 9, 10] S2) _ = _
      rw [k1, e2']
  obtain ⟨m2, J2, a6, h2, hJ2, e2'⟩ := turns (rangeD 0 (12 : Int).toNat) m1 [] none hm1 NoP.nil
  have t10 : t_law_10 (LS (.lst (ns0.map D.int)) (.lst (ns.map D.str)) none none none none none none none none) [m1] = .nx (LS (.lst (ns0.map D.int)) (.lst (ns.map D.str)) none none a6 none none none none none) (m2 :: J2) := by
    unfold t_law_10
    rw [kFor_ap, iRange1_ap]
    simp only [aCons_ap, eC_ap, c1_ok, aNil_ap, c2_ok]
    rw [i1R_ok (by decide) (by decide), foR_ok]
    exact e2'
  obtain ⟨M3, e8⟩ := last_eq (sc := .lst (ns0.map D.int)) (ns := ns) (a5 := a6) (show NoP ([m2] ++ J2) from NoP.app (nop1 h2) hJ2) hn ln
  have fin : ∀ (n : Nat) (N : Mem), ∃ M, settle n (.ok (.bl true) N) = .ok (.bl true) M := fun n N => by
    unfold settle
    simp only
    split
    · exact ⟨_, rfl⟩
    · split
      · exact ⟨_, rfl⟩
      · exact ⟨_, rfl⟩
  unfold g_law
  rw [runF_ap (show [D.lst (ns0.map D.int)].length = 1 from rfl)]
  unfold t_law
  have q1 : kAsg (eCall g__law_hand (aCons (eVar 0) aNil)) (gN 1) [some (.lst (ns0.map D.int)), none, none, none, none, none, none, none, none, none, none, none] [] = .nx [some (.lst (ns0.map D.int)), some (.ptr 0), none, none, none, none, none, none, none, none, none, none] [mo] := by
    rw [kAsg_ap, eCall_ap, ac (d := .lst (ns0.map D.int)) rfl an, cR_ok, eh, asR_ok, gN_ap, stR_ok]
    rfl
  have q2 : kAsg (eCall g__law_names (aCons (eVar 1) (aCons (eC (.int 24)) aNil))) (gN 2) [some (.lst (ns0.map D.int)), some (.ptr 0), none, none, none, none, none, none, none, none, none, none] [mo] = .nx (LS (.lst (ns0.map D.int)) (.lst (ns.map D.str)) none none none none none none none none) [m1] := by
    rw [kAsg_ap, eCall_ap, ac (d := .ptr 0) rfl (ac eC_ap an), cR_ok, en', asR_ok, gN_ap, stR_ok]
    rfl
  show ∃ M, fnR _ ((kSeq _ _) [some (.lst (ns0.map D.int)), none, none, none, none, none, none, none, none, none, none, none] []) = _
  rw [kSeq_ap, q1, thn_nx, kSeq_ap, q2, thn_nx, kSeq_ap, t10, thn_nx]
  have e9 : kRet (e2 fEqA e_law_11 (e2 fRep (eLstP (aCons (eTup (aCons (eC (.str "wrong")) (aCons (eC (.int 0)) aNil))) aNil)) (eC (.int 3)))) (LS (.lst (ns0.map D.int)) (.lst (ns.map D.str)) none none a6 none none none none none) (m2 :: J2) = .rt (.bl true) M3 := e8
  rw [e9, fnR_rt]
  exact fin _ _
end
end QL
end
section
set_option Elab.async false
set_option linter.all false
set_option maxRecDepth 100000
set_option maxHeartbeats 4000000
set_option autoImplicit false
namespace QL
open PySem PySem.Spec L2
open Classical
theorem ok_law {P : Program} {w : World} {K : PySem.W.Frag} {mg : Str → Option Value} {base : Heap} {f : Addr} {fd : FuncData} (T : Tx K mg) (F : Fun K "law" "law" s_law f fd) : FnOkG P w K mg base 6 f fd ["_law_script"] (spF ⟨K, mg⟩ g_law) :=
  okQ F sc_law rfl fun cdv A outer s H E hr => (qs_cons (qset (i := 1) sc_law.nd rfl (qcall (q__law_hand T) (hr.mono (by decide)) takesQ (by rfl) (qa_cons (qv 0) qa_nil)))
    (qs_cons (qset (i := 2) sc_law.nd rfl (qcall (q__law_names T) (hr.mono (by decide)) takesQ (by rfl) (qa_cons (qv 1) (qa_cons qint qa_nil))))
    (qs_cons (qfor (vs := [3, 4, 6, 7, 8, 9, 10]) passesQ rfl (qi_range1 (by rfl) T.b_range (qa_cons qint qa_nil)) (qg_name (i := 3) sc_law.nd rfl) (qs_cons (qset (i := 4) sc_law.nd rfl (qixA hr.units (qlst (qa_cons (qadd qint (qcall (q__law_draw T) (hr.mono (by decide)) takesQ (by rfl) (qa_cons (qv 1) (qa_cons qint qa_nil)))) (qa_cons (qadd qint (qcall (q__law_draw T) (hr.mono (by decide)) takesQ (by rfl) (qa_cons (qv 1) (qa_cons qint qa_nil)))) (qa_cons qint qa_nil)))) (qcall (q__law_draw T) (hr.mono (by decide)) takesQ (by rfl) (qa_cons (qv 1) (qa_cons qint qa_nil)))))
    (qs_cons (qsetLc (i := 5) (own := [("_law_name", 11)]) (.inr rfl) rfl sc_law.nd rfl rfl (by rfl) (qi_list (qsl (qcall (q__law_shuffled T) (hr.mono (by decide)) takesQ (by rfl) (qa_cons (qv 1) (qa_cons (qv 2) qa_nil))) qo_none (qo_some (qv 4)))) (blkOk_by (own := [("_law_name", 11)]) (N := N_law) (sc := defScope s_law) (by decide +kernel)) (fun _ _ _ _ _ => (qv_name (i := 11) sc_law.nd rfl (by decide))) (fun _ _ _ _ _ => qts_nil) (fun _ _ _ _ _ => (qtup (qa_cons (qv 11) (qa_cons (qcall (q__law_draw T) (hr.mono (by decide)) takesB (by rfl) (qa_cons (qv 1) (qa_cons (qadd (qpow qint qint) qint) qa_nil))) qa_nil)))))
    (qs_cons (qfor (vs := [6, 7]) passesQ rfl (qi_range1 (by rfl) T.b_range (qa_cons (qcall (q__law_draw T) (hr.mono (by decide)) takesQ (by rfl) (qa_cons (qv 1) (qa_cons qint qa_nil))) qa_nil)) (qg_name (i := 6) sc_law.nd rfl) (qs_cons (qset (i := 7) sc_law.nd rfl (qcall (q__law_draw T) (hr.mono (by decide)) takesQ (by rfl) (qa_cons (qv 1) (qa_cons (qlenA (by rfl) T.b_len (qa_cons (qv 5) qa_nil)) qa_nil))))
    (qs_one (qif (qt_val (qcall (q__law_is_item T) (hr.mono (by decide)) takesQ (by rfl) (qa_cons (qixA hr.units (qv 5) (qv 7)) qa_nil))) (qs_one (qasg (qcall (q__law_odd T) (hr.mono (by decide)) takesQ (by rfl) (qa_cons (qv 1) (qa_cons (qixA hr.units (qv 5) (qv 7)) (qa_cons (qv 2) qa_nil)))) (qg_subL (qv 5) (qv 7)))) qs_nil))))
    (qs_cons (qset (i := 8) sc_law.nd rfl (qcall (q__law_draw T) (hr.mono (by decide)) takesQ (by rfl) (qa_cons (qv 1) (qa_cons qint qa_nil))))
    (qs_cons (qif (tEqA hr.units (qv 8) qint) (qs_one (qset (i := 5) sc_law.nd rfl (qadd (qv 5) (qrep (qlstP (qa_cons (qtup (qa_cons qstr (qa_cons qint qa_nil))) qa_nil)) (qixA hr.units (qlst (qa_cons qint (qa_cons (qsub qint (qlenA (by rfl) T.b_len (qa_cons (qv 5) qa_nil))) qa_nil))) (qcall (q__law_draw T) (hr.mono (by decide)) takesQ (by rfl) (qa_cons (qv 1) (qa_cons qint qa_nil)))))))) qs_nil)
    (qs_cons (qif (tEqA hr.units (qv 8) qint) (qs_cons (qset (i := 9) sc_law.nd rfl (qlst (qa_cons (qtuple (by rfl) T.b_tuple (qa_cons (qv 5) qa_nil)) (qa_cons (qfrz (qdictP rfl (by rfl) T.b_dict (qa_cons (qlc (own := [("_law_name", 11)]) rfl sc_law.nd (qi_list (qv 2)) (blkOk_by (own := [("_law_name", 11)]) (N := N_law) (sc := defScope s_law) (by decide +kernel)) (fun _ _ _ _ _ => (qv_name (i := 11) sc_law.nd rfl (by decide))) (fun _ _ _ _ _ => qts_nil) (fun _ _ _ _ _ => (qtup (qa_cons (qv 11) (qa_cons qint qa_nil))))) qa_nil))) (qa_cons qnon (qa_cons qstr (qa_cons qint (qa_cons (qlst (qa_cons (qlst qa_nil) qa_nil)) (qa_cons (qlst qa_nil) qa_nil)))))))))
    (qs_one (qset (i := 5) sc_law.nd rfl (qixA hr.units (qadd (qadd (qv 9) (qlst (qa_cons (qrep (qslP (qv 5) qo_none (qo_some qint)) qint) qa_nil))) (qcall0 (q__law_great_things T) (hr.mono (by decide)) takesQ (by rfl))) (qcall (q__law_draw T) (hr.mono (by decide)) takesQ (by rfl) (qa_cons (qv 1) (qa_cons qint qa_nil))))))) qs_nil)
    (qs_cons (qfz (qset (i := 10) sc_law.nd rfl (qreprAK hr.gd hr.units (by rfl) T.b_repr (qa_cons (qv 5) qa_nil))))
    (qs_one (qif (qt_w (qw_or (qt_not (qt_val (qcall (q__law_alike T) (hr.mono (by decide)) takesQ (by rfl) (qa_cons (qcall (q__law_told T) (hr.mono (by decide)) takesQ (by rfl) (qa_cons (qv 5) qa_nil)) (qa_cons (qcall (q__law_due T) (hr.mono (by decide)) takesQ (by rfl) (qa_cons (qv 5) qa_nil)) qa_nil))))) (qw_or1 (tNe hr.units (qreprAK hr.gd hr.units (by rfl) T.b_repr (qa_cons (qv 5) qa_nil)) (qv 10))))) (qs_one (qret qbl)) qs_nil))))))))))
    (qs_one (qret (qeqA hr.units (qlc (own := [("_law_thing", 5)]) rfl sc_law.nd (qi_list (qlst (qa_cons (qfrz (qmake (q_Purses___init__ T) (hr.mono (by decide)) takesQ (by rfl) (qa_cons (qlst qa_nil) qa_nil))) (qa_cons (qfrz (qmake (q_Purses___init__ T) (hr.mono (by decide)) takesQ (by rfl) (qa_cons (qlst (qa_cons (qtup (qa_cons (qixA hr.units (qv 2) qint) (qa_cons qint qa_nil))) qa_nil)) qa_nil))) (qa_cons (qfrz (qmake (q_Lot___init__ T) (hr.mono (by decide)) takesQ (by rfl) (qa_cons (qlst qa_nil) qa_nil))) qa_nil))))) (blkOk_by (own := [("_law_thing", 5)]) (N := N_law) (sc := defScope s_law) (by decide +kernel)) (fun _ _ _ _ _ => (qv_name (i := 5) sc_law.nd rfl (by decide))) (fun _ _ _ _ _ => qts_nil) (fun _ _ _ _ _ => (qcall (q__law_told T) (hr.mono (by decide)) takesB (by rfl) (qa_cons (qv 5) qa_nil)))) (qrep (qlstP (qa_cons (qtup (qa_cons qstr (qa_cons qint qa_nil))) qa_nil)) qint)))))))
theorem all_mk {l : PySem.W.OpenLaw} {w : World} {K : PySem.W.Frag} {h : Heap} {mg : Str → Option Value} {fa f0 f1 f2 f3 f4 f5 f6 f7 f8 f9 f10 f11 f12 f13 f14 f15 f16 f17 f18 f19 f20 f21 f22 f23 f24 z_Wrong z_BadItem z_Known z_TooMany z_Purses z_Lot z_ClubError : Addr} (X : K.In h) (G : h.Ns mainGlobals mg) (hfa : mg "law" = some (.ref fa))
    {od0 an0 od1 an1 od2 an2 od3 an3 od4 an4 od5 an5 od6 an6 od7 an7 od8 an8 od9 an9 od10 an10 od11 an11 od12 an12 od13 an13 od14 an14 od15 an15 od16 an16 od17 an17 od18 an18 od19 an19 od20 an20 od21 an21 od22 an22 od23 an23 od24 an24 : Option Addr} {sl0 sl1 sl2 sl3 sl4 sl5 sl6 sl7 sl8 sl9 sl10 sl11 sl12 sl13 sl14 sl15 sl16 sl17 sl18 sl19 sl20 sl21 sl22 sl23 sl24 : Array (Option Value)} {oc0 kV0 dc0 pm0 cd0 ct0 oc1 kV1 dc1 pm1 cd1 ct1 oc2 kV2 dc2 pm2 cd2 ct2 oc3 kV3 dc3 pm3 cd3 ct3 oc4 kV4 dc4 pm4 cd4 ct4 oc5 kV5 dc5 pm5 cd5 ct5 oc6 kV6 dc6 pm6 cd6 ct6 oc7 kV7 dc7 pm7 cd7 ct7 oc8 kV8 dc8 pm8 cd8 ct8 oc9 kV9 dc9 pm9 cd9 ct9 oc10 kV10 dc10 pm10 cd10 ct10 oc11 kV11 dc11 pm11 cd11 ct11 oc12 kV12 dc12 pm12 cd12 ct12 oc13 kV13 dc13 pm13 cd13 ct13 oc14 kV14 dc14 pm14 cd14 ct14 oc15 kV15 dc15 pm15 cd15 ct15 oc16 kV16 dc16 pm16 cd16 ct16 oc17 kV17 dc17 pm17 cd17 ct17 oc18 kV18 dc18 pm18 cd18 ct18 oc19 kV19 dc19 pm19 cd19 ct19 oc20 kV20 dc20 pm20 cd20 ct20 oc21 kV21 dc21 pm21 cd21 ct21 oc22 kV22 dc22 pm22 cd22 ct22 oc23 kV23 dc23 pm23 cd23 ct23 oc24 kV24 dc24 pm24 cd24 ct24 : Value}
    (y_Wrong : PySem.W.nsIn K mainGlobals "Wrong" = some (some (.ref z_Wrong)))
    (y_BadItem : PySem.W.nsIn K mainGlobals "BadItem" = some (some (.ref z_BadItem)))
    (y_Known : PySem.W.nsIn K mainGlobals "Known" = some (some (.ref z_Known)))
    (y_TooMany : PySem.W.nsIn K mainGlobals "TooMany" = some (some (.ref z_TooMany)))
    (y_Purses : PySem.W.nsIn K mainGlobals "Purses" = some (some (.ref z_Purses)))
    (y_Lot : PySem.W.nsIn K mainGlobals "Lot" = some (some (.ref z_Lot)))
    (y_ClubError : PySem.W.nsIn K mainGlobals "ClubError" = some (some (.ref z_ClubError)))
    (pg_Purses : PySem.W.plainGet K z_Purses Str.empty = true)
    (hd_Purses : PySem.W.hasDictIn K z_Purses = true)
    (po_Purses : PySem.W.plainOver K z_Purses = true)
    (sa_Purses : PySem.W.findIn K (.ref z_Purses) "__setattr__" = some (some (.builtin "object.__setattr__")))
    (mk_Purses : PySem.W.makesIn K z_Purses = true)
    (kc_Purses : PySem.W.keepIn K (.ref z_Purses) = true)
    (pg_Lot : PySem.W.plainGet K z_Lot Str.empty = true)
    (hd_Lot : PySem.W.hasDictIn K z_Lot = true)
    (po_Lot : PySem.W.plainOver K z_Lot = true)
    (sa_Lot : PySem.W.findIn K (.ref z_Lot) "__setattr__" = some (some (.builtin "object.__setattr__")))
    (mk_Lot : PySem.W.makesIn K z_Lot = true)
    (kc_Lot : PySem.W.keepIn K (.ref z_Lot) = true)
    (cl_Purses : PySem.W.findIn K (.ref z_Purses) "__class__" = some (some (.builtin "object.__class__")))
    (mr_Purses : PySem.W.mroIn K z_Purses (.type "object") = some true)
    (kt_Purses_bool : PySem.W.kitOne K (.ref z_Purses) (.type "bool") = some false)
    (kt_Purses_int : PySem.W.kitOne K (.ref z_Purses) (.type "int") = some false)
    (kt_Purses_str : PySem.W.kitOne K (.ref z_Purses) (.type "str") = some false)
    (kt_Purses_tuple : PySem.W.kitOne K (.ref z_Purses) (.type "tuple") = some false)
    (kt_Purses_list : PySem.W.kitOne K (.ref z_Purses) (.type "list") = some false)
    (cl_Lot : PySem.W.findIn K (.ref z_Lot) "__class__" = some (some (.builtin "object.__class__")))
    (mr_Lot : PySem.W.mroIn K z_Lot (.type "object") = some true)
    (kt_Lot_bool : PySem.W.kitOne K (.ref z_Lot) (.type "bool") = some false)
    (kt_Lot_int : PySem.W.kitOne K (.ref z_Lot) (.type "int") = some false)
    (kt_Lot_str : PySem.W.kitOne K (.ref z_Lot) (.type "str") = some false)
    (kt_Lot_tuple : PySem.W.kitOne K (.ref z_Lot) (.type "tuple") = some false)
    (kt_Lot_list : PySem.W.kitOne K (.ref z_Lot) (.type "list") = some false)
    (na_Lot_table : PySem.W.findIn K (.ref z_Lot) "table" = some none)
    (na_Purses_table : PySem.W.findIn K (.ref z_Purses) "table" = some none)
    (a0 : PySem.W.nsIn K mainGlobals "_law_hand" = some (some (.ref f0)))
    (l0 : K.lookup f0 = some ⟨oc0, od0, .func (PySem.W.fnOf "_law_hand" "_law_hand" (defArgs s__law_hand) (defBody s__law_hand) (defScope s__law_hand) .none kV0 dc0 pm0 an0 cd0 ct0), sl0⟩)
    (c0 : PySem.W.codeIn K cd0 "_law_hand" = true)
    (k0 : PySem.W.keepIn K (.ref f0) = true)
    (a1 : PySem.W.nsIn K mainGlobals "_law_step" = some (some (.ref f1)))
    (l1 : K.lookup f1 = some ⟨oc1, od1, .func (PySem.W.fnOf "_law_step" "_law_step" (defArgs s__law_step) (defBody s__law_step) (defScope s__law_step) .none kV1 dc1 pm1 an1 cd1 ct1), sl1⟩)
    (c1 : PySem.W.codeIn K cd1 "_law_step" = true)
    (k1 : PySem.W.keepIn K (.ref f1) = true)
    (a2 : PySem.W.nsIn K mainGlobals "_law_take" = some (some (.ref f2)))
    (l2 : K.lookup f2 = some ⟨oc2, od2, .func (PySem.W.fnOf "_law_take" "_law_take" (defArgs s__law_take) (defBody s__law_take) (defScope s__law_take) .none kV2 dc2 pm2 an2 cd2 ct2), sl2⟩)
    (c2 : PySem.W.codeIn K cd2 "_law_take" = true)
    (k2 : PySem.W.keepIn K (.ref f2) = true)
    (a3 : PySem.W.nsIn K mainGlobals "_law_draw" = some (some (.ref f3)))
    (l3 : K.lookup f3 = some ⟨oc3, od3, .func (PySem.W.fnOf "_law_draw" "_law_draw" (defArgs s__law_draw) (defBody s__law_draw) (defScope s__law_draw) .none kV3 dc3 pm3 an3 cd3 ct3), sl3⟩)
    (c3 : PySem.W.codeIn K cd3 "_law_draw" = true)
    (k3 : PySem.W.keepIn K (.ref f3) = true)
    (a4 : PySem.W.nsIn K mainGlobals "_law_names" = some (some (.ref f4)))
    (l4 : K.lookup f4 = some ⟨oc4, od4, .func (PySem.W.fnOf "_law_names" "_law_names" (defArgs s__law_names) (defBody s__law_names) (defScope s__law_names) .none kV4 dc4 pm4 an4 cd4 ct4), sl4⟩)
    (c4 : PySem.W.codeIn K cd4 "_law_names" = true)
    (k4 : PySem.W.keepIn K (.ref f4) = true)
    (a5 : PySem.W.nsIn K mainGlobals "_law_word" = some (some (.ref f5)))
    (l5 : K.lookup f5 = some ⟨oc5, od5, .func (PySem.W.fnOf "_law_word" "_law_word" (defArgs s__law_word) (defBody s__law_word) (defScope s__law_word) .none kV5 dc5 pm5 an5 cd5 ct5), sl5⟩)
    (c5 : PySem.W.codeIn K cd5 "_law_word" = true)
    (k5 : PySem.W.keepIn K (.ref f5) = true)
    (a6 : PySem.W.nsIn K mainGlobals "_law_is_item" = some (some (.ref f6)))
    (l6 : K.lookup f6 = some ⟨oc6, od6, .func (PySem.W.fnOf "_law_is_item" "_law_is_item" (defArgs s__law_is_item) (defBody s__law_is_item) (defScope s__law_is_item) .none kV6 dc6 pm6 an6 cd6 ct6), sl6⟩)
    (c6 : PySem.W.codeIn K cd6 "_law_is_item" = true)
    (k6 : PySem.W.keepIn K (.ref f6) = true)
    (a7 : PySem.W.findIn K (.ref z_Purses) "__len__" = some (some (.ref f7)))
    (i7 : PySem.W.isFn K (.ref f7) = true)
    (l7 : K.lookup f7 = some ⟨oc7, od7, .func (PySem.W.fnOf "__len__" "Purses.__len__" (defArgs s_Purses___len__) (defBody s_Purses___len__) (defScope s_Purses___len__) .none kV7 dc7 pm7 an7 cd7 ct7), sl7⟩)
    (c7 : PySem.W.codeIn K cd7 "Purses.__len__" = true)
    (k7 : PySem.W.keepIn K (.ref f7) = true)
    (a8 : PySem.W.nsIn K mainGlobals "is_name" = some (some (.ref f8)))
    (l8 : K.lookup f8 = some ⟨oc8, od8, .func (PySem.W.fnOf "is_name" "is_name" (defArgs s_is_name) (defBody s_is_name) (defScope s_is_name) .none kV8 dc8 pm8 an8 cd8 ct8), sl8⟩)
    (c8 : PySem.W.codeIn K cd8 "is_name" = true)
    (k8 : PySem.W.keepIn K (.ref f8) = true)
    (a9 : PySem.W.nsIn K mainGlobals "is_integer" = some (some (.ref f9)))
    (l9 : K.lookup f9 = some ⟨oc9, od9, .func (PySem.W.fnOf "is_integer" "is_integer" (defArgs s_is_integer) (defBody s_is_integer) (defScope s_is_integer) .none kV9 dc9 pm9 an9 cd9 ct9), sl9⟩)
    (c9 : PySem.W.codeIn K cd9 "is_integer" = true)
    (k9 : PySem.W.keepIn K (.ref f9) = true)
    (a10 : PySem.W.nsIn K mainGlobals "is_amount" = some (some (.ref f10)))
    (l10 : K.lookup f10 = some ⟨oc10, od10, .func (PySem.W.fnOf "is_amount" "is_amount" (defArgs s_is_amount) (defBody s_is_amount) (defScope s_is_amount) .none kV10 dc10 pm10 an10 cd10 ct10), sl10⟩)
    (c10 : PySem.W.codeIn K cd10 "is_amount" = true)
    (k10 : PySem.W.keepIn K (.ref f10) = true)
    (a11 : PySem.W.findIn K (.ref z_Purses) "__init__" = some (some (.ref f11)))
    (i11 : PySem.W.isFn K (.ref f11) = true)
    (l11 : K.lookup f11 = some ⟨oc11, od11, .func (PySem.W.fnOf "__init__" "Purses.__init__" (defArgs s_Purses___init__) (defBody s_Purses___init__) (defScope s_Purses___init__) .none kV11 dc11 pm11 an11 cd11 ct11), sl11⟩)
    (c11 : PySem.W.codeIn K cd11 "Purses.__init__" = true)
    (k11 : PySem.W.keepIn K (.ref f11) = true)
    (a12 : PySem.W.nsIn K mainGlobals "_law_told" = some (some (.ref f12)))
    (l12 : K.lookup f12 = some ⟨oc12, od12, .func (PySem.W.fnOf "_law_told" "_law_told" (defArgs s__law_told) (defBody s__law_told) (defScope s__law_told) .none kV12 dc12 pm12 an12 cd12 ct12), sl12⟩)
    (c12 : PySem.W.codeIn K cd12 "_law_told" = true)
    (k12 : PySem.W.keepIn K (.ref f12) = true)
    (a13 : PySem.W.nsIn K mainGlobals "_law_odd" = some (some (.ref f13)))
    (l13 : K.lookup f13 = some ⟨oc13, od13, .func (PySem.W.fnOf "_law_odd" "_law_odd" (defArgs s__law_odd) (defBody s__law_odd) (defScope s__law_odd) .none kV13 dc13 pm13 an13 cd13 ct13), sl13⟩)
    (c13 : PySem.W.codeIn K cd13 "_law_odd" = true)
    (k13 : PySem.W.keepIn K (.ref f13) = true)
    (a14 : PySem.W.nsIn K mainGlobals "_law_alike" = some (some (.ref f14)))
    (l14 : K.lookup f14 = some ⟨oc14, od14, .func (PySem.W.fnOf "_law_alike" "_law_alike" (defArgs s__law_alike) (defBody s__law_alike) (defScope s__law_alike) .none kV14 dc14 pm14 an14 cd14 ct14), sl14⟩)
    (c14 : PySem.W.codeIn K cd14 "_law_alike" = true)
    (k14 : PySem.W.keepIn K (.ref f14) = true)
    (a15 : PySem.W.nsIn K mainGlobals "pair_of" = some (some (.ref f15)))
    (l15 : K.lookup f15 = some ⟨oc15, od15, .func (PySem.W.fnOf "pair_of" "pair_of" (defArgs s_pair_of) (defBody s_pair_of) (defScope s_pair_of) .none kV15 dc15 pm15 an15 cd15 ct15), sl15⟩)
    (c15 : PySem.W.codeIn K cd15 "pair_of" = true)
    (k15 : PySem.W.keepIn K (.ref f15) = true)
    (a16 : PySem.W.nsIn K mainGlobals "is_count" = some (some (.ref f16)))
    (l16 : K.lookup f16 = some ⟨oc16, od16, .func (PySem.W.fnOf "is_count" "is_count" (defArgs s_is_count) (defBody s_is_count) (defScope s_is_count) .none kV16 dc16 pm16 an16 cd16 ct16), sl16⟩)
    (c16 : PySem.W.codeIn K cd16 "is_count" = true)
    (k16 : PySem.W.keepIn K (.ref f16) = true)
    (a17 : PySem.W.nsIn K mainGlobals "is_run" = some (some (.ref f17)))
    (l17 : K.lookup f17 = some ⟨oc17, od17, .func (PySem.W.fnOf "is_run" "is_run" (defArgs s_is_run) (defBody s_is_run) (defScope s_is_run) .none kV17 dc17 pm17 an17 cd17 ct17), sl17⟩)
    (c17 : PySem.W.codeIn K cd17 "is_run" = true)
    (k17 : PySem.W.keepIn K (.ref f17) = true)
    (a18 : PySem.W.findIn K (.ref z_Lot) "__init__" = some (some (.ref f18)))
    (i18 : PySem.W.isFn K (.ref f18) = true)
    (l18 : K.lookup f18 = some ⟨oc18, od18, .func (PySem.W.fnOf "__init__" "Lot.__init__" (defArgs s_Lot___init__) (defBody s_Lot___init__) (defScope s_Lot___init__) .none kV18 dc18 pm18 an18 cd18 ct18), sl18⟩)
    (c18 : PySem.W.codeIn K cd18 "Lot.__init__" = true)
    (k18 : PySem.W.keepIn K (.ref f18) = true)
    (a19 : PySem.W.nsIn K mainGlobals "_law_shuffled" = some (some (.ref f19)))
    (l19 : K.lookup f19 = some ⟨oc19, od19, .func (PySem.W.fnOf "_law_shuffled" "_law_shuffled" (defArgs s__law_shuffled) (defBody s__law_shuffled) (defScope s__law_shuffled) .none kV19 dc19 pm19 an19 cd19 ct19), sl19⟩)
    (c19 : PySem.W.codeIn K cd19 "_law_shuffled" = true)
    (k19 : PySem.W.keepIn K (.ref f19) = true)
    (a20 : PySem.W.nsIn K mainGlobals "_law_great_things" = some (some (.ref f20)))
    (l20 : K.lookup f20 = some ⟨oc20, od20, .func (PySem.W.fnOf "_law_great_things" "_law_great_things" (defArgs s__law_great_things) (defBody s__law_great_things) (defScope s__law_great_things) .none kV20 dc20 pm20 an20 cd20 ct20), sl20⟩)
    (c20 : PySem.W.codeIn K cd20 "_law_great_things" = true)
    (k20 : PySem.W.keepIn K (.ref f20) = true)
    (a21 : PySem.W.nsIn K mainGlobals "_law_due" = some (some (.ref f21)))
    (l21 : K.lookup f21 = some ⟨oc21, od21, .func (PySem.W.fnOf "_law_due" "_law_due" (defArgs s__law_due) (defBody s__law_due) (defScope s__law_due) .none kV21 dc21 pm21 an21 cd21 ct21), sl21⟩)
    (c21 : PySem.W.codeIn K cd21 "_law_due" = true)
    (k21 : PySem.W.keepIn K (.ref f21) = true)
    (a22 : PySem.W.nsIn K mainGlobals "law" = some (some (.ref f22)))
    (l22 : K.lookup f22 = some ⟨oc22, od22, .func (PySem.W.fnOf "law" "law" (defArgs s_law) (defBody s_law) (defScope s_law) .none kV22 dc22 pm22 an22 cd22 ct22), sl22⟩)
    (c22 : PySem.W.codeIn K cd22 "law" = true)
    (k22 : PySem.W.keepIn K (.ref f22) = true)
    (u_Wrong : OexC K z_Wrong)
    (ga_Wrong : PySem.W.findIn K (.ref z_Wrong) "__getattribute__" = some (some (.builtin "BaseException.__getattribute__")))
    (gt_Wrong : PySem.W.findIn K (.ref z_Wrong) "__getattr__" = some none)
    (cl_Wrong : PySem.W.findIn K (.ref z_Wrong) "__class__" = some (some (.builtin "object.__class__")))
    (sb_Wrong : PySem.W.subIn K (.ref z_Wrong) (.type "BaseException") = some true)
    (dc_Wrong : PySem.W.hasDictIn K z_Wrong = true)
    (mr_Wrong : PySem.W.mroIn K z_Wrong (.type "object") = some true)
    (a23 : PySem.W.findIn K (.ref z_Wrong) "__init__" = some (some (.ref f23)))
    (t23 : PySem.W.typeIn K (.ref f23) = some (.type "function"))
    (l23 : K.lookup f23 = some ⟨oc23, od23, .func (PySem.W.fnOf "__init__" "Wrong.__init__" (defArgs (inClass (topQ 3) 0)) (defBody (inClass (topQ 3) 0)) (defScope (inClass (topQ 3) 0)) .none kV23 dc23 pm23 an23 cd23 ct23), sl23⟩)
    (c23 : PySem.W.codeIn K cd23 "Wrong.__init__" = true)
    (k23 : PySem.W.keepIn K (.ref f23) = true)
    (nf_Wrong_place : PySem.W.findIn K (.ref z_Wrong) "place" = some none)
    (nf_Wrong_at : PySem.W.findIn K (.ref z_Wrong) "at" = some none)
    (kt_Wrong_Known : PySem.W.kitOne K (.ref z_Wrong) (.ref z_Known) = some false)
    (kt_Wrong_TooMany : PySem.W.kitOne K (.ref z_Wrong) (.ref z_TooMany) = some false)
    (kt_Wrong_Wrong : PySem.W.kitOne K (.ref z_Wrong) (.ref z_Wrong) = some true)
    (kt_Wrong_BadItem : PySem.W.kitOne K (.ref z_Wrong) (.ref z_BadItem) = some false)
    (ex_Wrong : PySem.W.exmOne K (.ref z_Wrong) (.ref z_ClubError) = some true)
    (u_BadItem : OexC K z_BadItem)
    (ga_BadItem : PySem.W.findIn K (.ref z_BadItem) "__getattribute__" = some (some (.builtin "BaseException.__getattribute__")))
    (gt_BadItem : PySem.W.findIn K (.ref z_BadItem) "__getattr__" = some none)
    (cl_BadItem : PySem.W.findIn K (.ref z_BadItem) "__class__" = some (some (.builtin "object.__class__")))
    (sb_BadItem : PySem.W.subIn K (.ref z_BadItem) (.type "BaseException") = some true)
    (dc_BadItem : PySem.W.hasDictIn K z_BadItem = true)
    (mr_BadItem : PySem.W.mroIn K z_BadItem (.type "object") = some true)
    (a24 : PySem.W.findIn K (.ref z_BadItem) "__init__" = some (some (.ref f24)))
    (t24 : PySem.W.typeIn K (.ref f24) = some (.type "function"))
    (l24 : K.lookup f24 = some ⟨oc24, od24, .func (PySem.W.fnOf "__init__" "BadItem.__init__" (defArgs (inClass (topQ 4) 0)) (defBody (inClass (topQ 4) 0)) (defScope (inClass (topQ 4) 0)) .none kV24 dc24 pm24 an24 cd24 ct24), sl24⟩)
    (c24 : PySem.W.codeIn K cd24 "BadItem.__init__" = true)
    (k24 : PySem.W.keepIn K (.ref f24) = true)
    (nf_BadItem_place : PySem.W.findIn K (.ref z_BadItem) "place" = some none)
    (nf_BadItem_at : PySem.W.findIn K (.ref z_BadItem) "at" = some none)
    (kt_BadItem_Known : PySem.W.kitOne K (.ref z_BadItem) (.ref z_Known) = some false)
    (kt_BadItem_TooMany : PySem.W.kitOne K (.ref z_BadItem) (.ref z_TooMany) = some false)
    (kt_BadItem_Wrong : PySem.W.kitOne K (.ref z_BadItem) (.ref z_Wrong) = some false)
    (kt_BadItem_BadItem : PySem.W.kitOne K (.ref z_BadItem) (.ref z_BadItem) = some true)
    (ex_BadItem : PySem.W.exmOne K (.ref z_BadItem) (.ref z_ClubError) = some true)
    (cg_ : PySem.W.specialIn K (.builtin "object.__class__") "__get__" = some (some (.builtin "getset_descriptor.__get__")))
    (tk_ : PySem.W.takesIn K (.builtin "object.__class__") = some true)
    {tk_LETTERS : Tok}
    (v_LETTERS : PySem.W.nsIn K mainGlobals "LETTERS" = some (some (.str "abcdefghijklmnopqrstuvwxyz" tk_LETTERS)))
    {tk_LONGEST_NAME : Tok}
    (v_LONGEST_NAME : PySem.W.nsIn K mainGlobals "LONGEST_NAME" = some (some (.int 8 tk_LONGEST_NAME)))
    {tk_MOST_ITEMS : Tok}
    (v_MOST_ITEMS : PySem.W.nsIn K mainGlobals "MOST_ITEMS" = some (some (.int 500 tk_MOST_ITEMS)))
    {tk_MOST_PLAYERS : Tok}
    (v_MOST_PLAYERS : PySem.W.nsIn K mainGlobals "MOST_PLAYERS" = some (some (.int 24 tk_MOST_PLAYERS)))
    {tk_MOST_TICKETS : Tok}
    (v_MOST_TICKETS : PySem.W.nsIn K mainGlobals "MOST_TICKETS" = some (some (.int 1000000000000000000000000000000 tk_MOST_TICKETS)))
    {tk_MOST_TIMES : Tok}
    (v_MOST_TIMES : PySem.W.nsIn K mainGlobals "MOST_TIMES" = some (some (.int 1000000000000000000000000 tk_MOST_TIMES)))
    (z_abs : PySem.W.nsIn K mainGlobals "abs" = some none)
    (z_all : PySem.W.nsIn K mainGlobals "all" = some none)
    (z_bool : PySem.W.nsIn K mainGlobals "bool" = some none)
    (z_dict : PySem.W.nsIn K mainGlobals "dict" = some none)
    (z_enumerate : PySem.W.nsIn K mainGlobals "enumerate" = some none)
    (z_int : PySem.W.nsIn K mainGlobals "int" = some none)
    (z_isinstance : PySem.W.nsIn K mainGlobals "isinstance" = some none)
    (z_len : PySem.W.nsIn K mainGlobals "len" = some none)
    (z_list : PySem.W.nsIn K mainGlobals "list" = some none)
    (z_max : PySem.W.nsIn K mainGlobals "max" = some none)
    (z_min : PySem.W.nsIn K mainGlobals "min" = some none)
    (z_range : PySem.W.nsIn K mainGlobals "range" = some none)
    (z_repr : PySem.W.nsIn K mainGlobals "repr" = some none)
    (z_str : PySem.W.nsIn K mainGlobals "str" = some none)
    (z_tuple : PySem.W.nsIn K mainGlobals "tuple" = some none)
    : ∃ fd : FuncData, (∀ (s : Shared) (v : Value), BindsTo s fd ⟨[v], []⟩ [("_law_script", v)]) ∧ ∀ base : Heap, K.In base → base.Ns mainGlobals mg → FnOkG l.prog w K mg base 6 fa fd ["_law_script"] (spF ⟨K, mg⟩ g_law) := by
  have e := hfa.symm.trans (PySem.W.mg_of X G a22)
  have e2 : f22 = fa := by cases e; rfl
  subst e2
  have h_Wrong := PySem.W.mg_of X G y_Wrong
  have g_Wrong : adr mg "Wrong" = z_Wrong := adr_eq h_Wrong
  have h_BadItem := PySem.W.mg_of X G y_BadItem
  have g_BadItem : adr mg "BadItem" = z_BadItem := adr_eq h_BadItem
  have h_Known := PySem.W.mg_of X G y_Known
  have g_Known : adr mg "Known" = z_Known := adr_eq h_Known
  have h_TooMany := PySem.W.mg_of X G y_TooMany
  have g_TooMany : adr mg "TooMany" = z_TooMany := adr_eq h_TooMany
  have h_Purses := PySem.W.mg_of X G y_Purses
  have g_Purses : adr mg "Purses" = z_Purses := adr_eq h_Purses
  have h_Lot := PySem.W.mg_of X G y_Lot
  have g_Lot : adr mg "Lot" = z_Lot := adr_eq h_Lot
  have h_ClubError := PySem.W.mg_of X G y_ClubError
  have g_ClubError : adr mg "ClubError" = z_ClubError := adr_eq h_ClubError
  have E_Wrong : PySem.W.EcD K z_Wrong := ⟨ga_Wrong, gt_Wrong, sb_Wrong, dc_Wrong, cl_Wrong, cg_, tk_, mr_Wrong⟩
  have R_Wrong : ∀ (P : Program) (w : World) (base : Heap), ErC P w K mg base "Wrong" ["place"] := fun P w base => ErC.mk1 (ps := ["self", "place"]) h_Wrong u_Wrong E_Wrong a23 t23 (fun f hf => by simp only [List.mem_cons, List.not_mem_nil, or_false] at hf; subst hf; exact nf_Wrong_place) ((fun_mk (st := (inClass (topQ 3) 0)) l23 c23 k23).binds (ps := ["self", "place"]) fun _ _ _ _ _ _ us hl => match us, hl with | [_, _], _ => rfl) (init1 (fun_mk (st := (inClass (topQ 3) 0)) l23 c23 k23) ⟨rfl, rfl, rfl, by decide +kernel, rfl, by decide +kernel, by decide +kernel⟩ fun _ _ _ _ _ _ => pss_one (ps_ost (pe_var rfl (Or.inl rfl)) (pe_var rfl (Or.inl rfl))))
  have E_BadItem : PySem.W.EcD K z_BadItem := ⟨ga_BadItem, gt_BadItem, sb_BadItem, dc_BadItem, cl_BadItem, cg_, tk_, mr_BadItem⟩
  have R_BadItem : ∀ (P : Program) (w : World) (base : Heap), ErC P w K mg base "BadItem" ["at"] := fun P w base => ErC.mk1 (ps := ["self", "at"]) h_BadItem u_BadItem E_BadItem a24 t24 (fun f hf => by simp only [List.mem_cons, List.not_mem_nil, or_false] at hf; subst hf; exact nf_BadItem_at) ((fun_mk (st := (inClass (topQ 4) 0)) l24 c24 k24).binds (ps := ["self", "at"]) fun _ _ _ _ _ _ us hl => match us, hl with | [_, _], _ => rfl) (init1 (fun_mk (st := (inClass (topQ 4) 0)) l24 c24 k24) ⟨rfl, rfl, rfl, by decide +kernel, rfl, by decide +kernel, by decide +kernel⟩ fun _ _ _ _ _ _ => pss_one (ps_ost (pe_var rfl (Or.inl rfl)) (pe_var rfl (Or.inl rfl))))
  have T : Tx K mg := ⟨PySem.W.mg_none_of X G z_abs,
    PySem.W.mg_none_of X G z_all,
    PySem.W.mg_none_of X G z_bool,
    PySem.W.mg_none_of X G z_dict,
    PySem.W.mg_none_of X G z_enumerate,
    PySem.W.mg_none_of X G z_int,
    PySem.W.mg_none_of X G z_isinstance,
    PySem.W.mg_none_of X G z_len,
    PySem.W.mg_none_of X G z_list,
    PySem.W.mg_none_of X G z_max,
    PySem.W.mg_none_of X G z_min,
    PySem.W.mg_none_of X G z_range,
    PySem.W.mg_none_of X G z_repr,
    PySem.W.mg_none_of X G z_str,
    PySem.W.mg_none_of X G z_tuple,
    ⟨_, PySem.W.mg_of X G v_LETTERS⟩,
    ⟨_, PySem.W.mg_of X G v_LONGEST_NAME⟩,
    ⟨_, PySem.W.mg_of X G v_MOST_ITEMS⟩,
    ⟨_, PySem.W.mg_of X G v_MOST_PLAYERS⟩,
    ⟨_, PySem.W.mg_of X G v_MOST_TICKETS⟩,
    ⟨_, PySem.W.mg_of X G v_MOST_TIMES⟩,
    adr_at h_Wrong,
    adr_at h_BadItem,
    adr_at h_Known,
    adr_at h_TooMany,
    adr_at h_Purses,
    adr_at h_Lot,
    adr_at h_ClubError,
    by rw [g_Purses]; exact ⟨pg_Purses, hd_Purses, po_Purses, sa_Purses⟩,
    by rw [g_Lot]; exact ⟨pg_Lot, hd_Lot, po_Lot, sa_Lot⟩,
    fun n hn => by simp only [ISO, List.mem_cons, List.not_mem_nil, or_false] at hn; rcases hn with rfl | rfl; (rw [g_Purses]; exact ⟨h_Purses, ⟨pg_Purses, hd_Purses, po_Purses, sa_Purses⟩, cl_Purses, cg_, tk_, mr_Purses, fun t ht => by simp only [ISOT, List.mem_cons, List.not_mem_nil, or_false] at ht; rcases ht with rfl | rfl | rfl | rfl | rfl; exact kt_Purses_bool; exact kt_Purses_int; exact kt_Purses_str; exact kt_Purses_tuple; exact kt_Purses_list⟩); (rw [g_Lot]; exact ⟨h_Lot, ⟨pg_Lot, hd_Lot, po_Lot, sa_Lot⟩, cl_Lot, cg_, tk_, mr_Lot, fun t ht => by simp only [ISOT, List.mem_cons, List.not_mem_nil, or_false] at ht; rcases ht with rfl | rfl | rfl | rfl | rfl; exact kt_Lot_bool; exact kt_Lot_int; exact kt_Lot_str; exact kt_Lot_tuple; exact kt_Lot_list⟩),
    by rw [g_Lot]; exact na_Lot_table,
    by rw [g_Purses]; exact na_Purses_table,
    R_Wrong,
    R_BadItem,
    fun n hn => by simp only [RAISED, List.mem_cons, List.not_mem_nil, or_false] at hn; rcases hn with rfl | rfl; (rw [g_Wrong]; exact E_Wrong); (rw [g_BadItem]; exact E_BadItem),
    fun n hn f hf => by simp only [RAISED, FIELDS, List.mem_cons, List.not_mem_nil, or_false] at hn hf; rcases hn with rfl | rfl <;> rcases hf with rfl | rfl; (rw [g_Wrong]; exact nf_Wrong_place); (rw [g_Wrong]; exact nf_Wrong_at); (rw [g_BadItem]; exact nf_BadItem_place); (rw [g_BadItem]; exact nf_BadItem_at),
    fun n hn t ht => by simp only [RAISED, TESTED, List.mem_cons, List.not_mem_nil, or_false] at hn ht; rcases hn with rfl | rfl <;> rcases ht with rfl | rfl | rfl | rfl; (rw [g_Wrong, g_Known, kt_Wrong_Known]; decide +kernel); (rw [g_Wrong, g_TooMany, kt_Wrong_TooMany]; decide +kernel); (rw [g_Wrong, kt_Wrong_Wrong]; decide +kernel); (rw [g_Wrong, g_BadItem, kt_Wrong_BadItem]; decide +kernel); (rw [g_BadItem, g_Known, kt_BadItem_Known]; decide +kernel); (rw [g_BadItem, g_TooMany, kt_BadItem_TooMany]; decide +kernel); (rw [g_BadItem, g_Wrong, kt_BadItem_Wrong]; decide +kernel); (rw [g_BadItem, kt_BadItem_BadItem]; decide +kernel),
    fun n hn => by simp only [RAISED, List.mem_cons, List.not_mem_nil, or_false] at hn; rcases hn with rfl | rfl; (rw [g_Wrong, g_ClubError]; exact ex_Wrong); (rw [g_BadItem, g_ClubError]; exact ex_BadItem),
    ⟨f0, _, PySem.W.mg_of X G a0, fun_mk (st := s__law_hand) l0 c0 k0, (fun_mk (st := s__law_hand) l0 c0 k0).binds (ps := ["_law_script"]) fun _ _ _ _ _ _ us hl => match us, hl with | [_], _ => rfl⟩,
    ⟨f1, _, PySem.W.mg_of X G a1, fun_mk (st := s__law_step) l1 c1 k1, (fun_mk (st := s__law_step) l1 c1 k1).binds (ps := ["_law_hand_here"]) fun _ _ _ _ _ _ us hl => match us, hl with | [_], _ => rfl⟩,
    ⟨f2, _, PySem.W.mg_of X G a2, fun_mk (st := s__law_take) l2 c2 k2, (fun_mk (st := s__law_take) l2 c2 k2).binds (ps := ["_law_hand_here"]) fun _ _ _ _ _ _ us hl => match us, hl with | [_], _ => rfl⟩,
    ⟨f3, _, PySem.W.mg_of X G a3, fun_mk (st := s__law_draw) l3 c3 k3, (fun_mk (st := s__law_draw) l3 c3 k3).binds (ps := ["_law_hand_here", "_law_tally"]) fun _ _ _ _ _ _ us hl => match us, hl with | [_, _], _ => rfl⟩,
    ⟨f4, _, PySem.W.mg_of X G a4, fun_mk (st := s__law_names) l4 c4 k4, (fun_mk (st := s__law_names) l4 c4 k4).binds (ps := ["_law_hand_here", "_law_many"]) fun _ _ _ _ _ _ us hl => match us, hl with | [_, _], _ => rfl⟩,
    ⟨f5, _, PySem.W.mg_of X G a5, fun_mk (st := s__law_word) l5 c5 k5, (fun_mk (st := s__law_word) l5 c5 k5).binds (ps := ["_law_thing"]) fun _ _ _ _ _ _ us hl => match us, hl with | [_], _ => rfl⟩,
    ⟨f6, _, PySem.W.mg_of X G a6, fun_mk (st := s__law_is_item) l6 c6 k6, (fun_mk (st := s__law_is_item) l6 c6 k6).binds (ps := ["_law_thing"]) fun _ _ _ _ _ _ us hl => match us, hl with | [_], _ => rfl⟩,
    ⟨z_Purses, f7, _, h_Purses, ⟨a7, i7, k7⟩, fun_mk (st := s_Purses___len__) l7 c7 k7, (fun_mk (st := s_Purses___len__) l7 c7 k7).binds (ps := ["self"]) fun _ _ _ _ _ _ us hl => match us, hl with | [_], _ => rfl⟩,
    ⟨f8, _, PySem.W.mg_of X G a8, fun_mk (st := s_is_name) l8 c8 k8, (fun_mk (st := s_is_name) l8 c8 k8).binds (ps := ["thing"]) fun _ _ _ _ _ _ us hl => match us, hl with | [_], _ => rfl⟩,
    ⟨f9, _, PySem.W.mg_of X G a9, fun_mk (st := s_is_integer) l9 c9 k9, (fun_mk (st := s_is_integer) l9 c9 k9).binds (ps := ["thing"]) fun _ _ _ _ _ _ us hl => match us, hl with | [_], _ => rfl⟩,
    ⟨f10, _, PySem.W.mg_of X G a10, fun_mk (st := s_is_amount) l10 c10 k10, (fun_mk (st := s_is_amount) l10 c10 k10).binds (ps := ["thing"]) fun _ _ _ _ _ _ us hl => match us, hl with | [_], _ => rfl⟩,
    ⟨z_Purses, f11, _, h_Purses, ⟨mk_Purses, a11, i11, kc_Purses⟩, fun_mk (st := s_Purses___init__) l11 c11 k11, (fun_mk (st := s_Purses___init__) l11 c11 k11).binds (ps := ["self", "items"]) fun _ _ _ _ _ _ us hl => match us, hl with | [_, _], _ => rfl⟩,
    ⟨f12, _, PySem.W.mg_of X G a12, fun_mk (st := s__law_told) l12 c12 k12, (fun_mk (st := s__law_told) l12 c12 k12).binds (ps := ["_law_thing"]) fun _ _ _ _ _ _ us hl => match us, hl with | [_], _ => rfl⟩,
    ⟨f13, _, PySem.W.mg_of X G a13, fun_mk (st := s__law_odd) l13 c13 k13, (fun_mk (st := s__law_odd) l13 c13 k13).binds (ps := ["_law_hand_here", "_law_item", "_law_names_here"]) fun _ _ _ _ _ _ us hl => match us, hl with | [_, _, _], _ => rfl⟩,
    ⟨f14, _, PySem.W.mg_of X G a14, fun_mk (st := s__law_alike) l14 c14 k14, (fun_mk (st := s__law_alike) l14 c14 k14).binds (ps := ["_law_found", "_law_due_here"]) fun _ _ _ _ _ _ us hl => match us, hl with | [_, _], _ => rfl⟩,
    ⟨f15, _, PySem.W.mg_of X G a15, fun_mk (st := s_pair_of) l15 c15 k15, (fun_mk (st := s_pair_of) l15 c15 k15).binds (ps := ["one", "other"]) fun _ _ _ _ _ _ us hl => match us, hl with | [_, _], _ => rfl⟩,
    ⟨f16, _, PySem.W.mg_of X G a16, fun_mk (st := s_is_count) l16 c16 k16, (fun_mk (st := s_is_count) l16 c16 k16).binds (ps := ["thing"]) fun _ _ _ _ _ _ us hl => match us, hl with | [_], _ => rfl⟩,
    ⟨f17, _, PySem.W.mg_of X G a17, fun_mk (st := s_is_run) l17 c17 k17, (fun_mk (st := s_is_run) l17 c17 k17).binds (ps := ["thing"]) fun _ _ _ _ _ _ us hl => match us, hl with | [_], _ => rfl⟩,
    ⟨z_Lot, f18, _, h_Lot, ⟨mk_Lot, a18, i18, kc_Lot⟩, fun_mk (st := s_Lot___init__) l18 c18 k18, (fun_mk (st := s_Lot___init__) l18 c18 k18).binds (ps := ["self", "items"]) fun _ _ _ _ _ _ us hl => match us, hl with | [_, _], _ => rfl⟩,
    ⟨f19, _, PySem.W.mg_of X G a19, fun_mk (st := s__law_shuffled) l19 c19 k19, (fun_mk (st := s__law_shuffled) l19 c19 k19).binds (ps := ["_law_hand_here", "_law_some"]) fun _ _ _ _ _ _ us hl => match us, hl with | [_, _], _ => rfl⟩,
    ⟨f20, _, PySem.W.mg_of X G a20, fun_mk (st := s__law_great_things) l20 c20 k20, (fun_mk (st := s__law_great_things) l20 c20 k20).binds (ps := []) fun _ _ _ _ _ _ us hl => match us, hl with | [], _ => rfl⟩,
    ⟨f21, _, PySem.W.mg_of X G a21, fun_mk (st := s__law_due) l21 c21 k21, (fun_mk (st := s__law_due) l21 c21 k21).binds (ps := ["_law_thing"]) fun _ _ _ _ _ _ us hl => match us, hl with | [_], _ => rfl⟩,
    ⟨f22, _, PySem.W.mg_of X G a22, fun_mk (st := s_law) l22 c22 k22, (fun_mk (st := s_law) l22 c22 k22).binds (ps := ["_law_script"]) fun _ _ _ _ _ _ us hl => match us, hl with | [_], _ => rfl⟩⟩
  exact ⟨PySem.W.fnOf "law" "law" (defArgs s_law) (defBody s_law) (defScope s_law) .none kV22 dc22 pm22 an22 cd22 ct22, fun s v => .of_eq rfl, fun base _ _ => ok_law T (fun_mk (st := s_law) l22 c22 k22)⟩
/-- the start: the script stands in the heap, nothing else is known -/
theorem start_ok {K : PySem.W.Frag} {mg : Str → Option Value} {H : Hp} {a : Addr} {ns : List Int} (hS : SqL K H a (ns.map V.int)) {M : Mem} (e : g_law [.lst (ns.map D.int)] [] = .ok (.bl true) M) : spF ⟨K, mg⟩ g_law [.ref a] H (fun v _ => v = .bl true) fun _ _ _ => False := by
  have q : ∀ ms : List Int, DVs ⟨K, mg⟩ ⟨H, [], []⟩ (ms.map D.int) (ms.map V.int) := fun ms => by
    induction ms with
    | nil => exact rfl
    | cons m r ih => exact ⟨_, _, rfl, rfl, ih⟩
  refine ⟨⟨H, [], []⟩, [.lst (ns.map D.int)], [], ⟨fun _ _ h => .inl h, rfl, List.nodup_nil, fun k mo b h => by simp at h, fun k mo b h => by simp at h, fun b h => by simp at h, fun p h => by simp at h⟩, DVs.one ⟨a, _, rfl, hS, q ns⟩, ?_⟩
  rw [e]
  exact fun G v H2 _ _ z => z
theorem walk_law (main : ∀ ns : List Int, ns.length ≤ 63 → ∃ M, g_law [.lst (ns.map D.int)] [] = .ok (.bl true) M) {l : PySem.W.OpenLaw} {q : Program} {loose : List Str} {XP : (Str → Option Value) → Heap → Prop} {YP : World → Heap → Prop} {d : DefRec} {K : Params → PySem.W.Frag} (hn : l.most = some 63) (hdf : d.params.defaults = [])
    (hY : ∀ (w : World) (h : Heap), YP w h → (K w.params).In h)
    (F : ∀ (w : World) (mg : Str → Option Value) (fa : Addr) (h : Heap), (K w.params).In h → h.Ns mainGlobals mg → mg d.name = some (.ref fa) → ∃ fd : FuncData, (∀ (s : Shared) (u : Value), BindsTo s fd ⟨[u], []⟩ [("_law_script", u)]) ∧ ∀ base : Heap, (K w.params).In base → base.Ns mainGlobals mg → FnOkG l.prog w (K w.params) mg base 6 fa fd ["_law_script"] (spF ⟨K w.params, mg⟩ g_law)) :
    PySem.W.WalkO q loose XP YP l.row.toRowW d [] (fun f vs => PySem.call f vs) := by
  refine Att.attach_call hn hdf fun w s0 s1 mg mb fa o pm cd doc a vs ns G Y ho hd hcd hmg hobj hints hlen hg => ?_
  have KX := hY w _ Y
  obtain ⟨fd, hb, hF⟩ := F w mg fa _ KX G.T.g hmg
  obtain ⟨M, e⟩ := main ns hlen
  exact law_callG KX G.T.g G.T.b G.T.builtins G.T.nolimit hg hobj hints (Nat.le_trans hlen (by decide)) (⟨⟨rfl, by decide, by decide⟩, rfl⟩ : RoomG 6 callerA) hF hb (fun H hO hS => start_ok hS e) fun H u s2 ⟨_, _, _, _, _, _, _, _, _, _, _, _, z⟩ => z
end QL
open PySem PySem.W PyProof.Rows in
set_option maxRecDepth 100000 in
set_option maxHeartbeats 0 in
theorem PySem.Challenge.cw_eitherpays_k13_purses_refused_holds : PySem.Challenge.rw_eitherpays_k13_purses_refused.Holds := by
  w_on; o_law; k_head; (case hw => w_witness2)
  k_fill
  refine QL.walk_law QL.main_law (l := PySem.Challenge.rw_eitherpays_k13_purses_refused) rfl rfl (fun w h Y => PySem.W.kIn_of Y) ?F
  case F =>
    intro w mg fa h KX G hmg
    refine' QL.all_mk KX G hmg ?y_Wrong ?y_BadItem ?y_Known ?y_TooMany ?y_Purses ?y_Lot ?y_ClubError ?pg_Purses ?hd_Purses ?po_Purses ?sa_Purses ?mk_Purses ?kc_Purses ?pg_Lot ?hd_Lot ?po_Lot ?sa_Lot ?mk_Lot ?kc_Lot ?cl_Purses ?mr_Purses ?kt_Purses_bool ?kt_Purses_int ?kt_Purses_str ?kt_Purses_tuple ?kt_Purses_list ?cl_Lot ?mr_Lot ?kt_Lot_bool ?kt_Lot_int ?kt_Lot_str ?kt_Lot_tuple ?kt_Lot_list ?na_Lot_table ?na_Purses_table ?a0 ?l0 ?c0 ?k0 ?a1 ?l1 ?c1 ?k1 ?a2 ?l2 ?c2 ?k2 ?a3 ?l3 ?c3 ?k3 ?a4 ?l4 ?c4 ?k4 ?a5 ?l5 ?c5 ?k5 ?a6 ?l6 ?c6 ?k6 ?a7 ?i7 ?l7 ?c7 ?k7 ?a8 ?l8 ?c8 ?k8 ?a9 ?l9 ?c9 ?k9 ?a10 ?l10 ?c10 ?k10 ?a11 ?i11 ?l11 ?c11 ?k11 ?a12 ?l12 ?c12 ?k12 ?a13 ?l13 ?c13 ?k13 ?a14 ?l14 ?c14 ?k14 ?a15 ?l15 ?c15 ?k15 ?a16 ?l16 ?c16 ?k16 ?a17 ?l17 ?c17 ?k17 ?a18 ?i18 ?l18 ?c18 ?k18 ?a19 ?l19 ?c19 ?k19 ?a20 ?l20 ?c20 ?k20 ?a21 ?l21 ?c21 ?k21 ?a22 ?l22 ?c22 ?k22 ?u_Wrong ?ga_Wrong ?gt_Wrong ?cl_Wrong ?sb_Wrong ?dc_Wrong ?mr_Wrong ?a23 ?t23 ?l23 ?c23 ?k23 ?nf_Wrong_place ?nf_Wrong_at ?kt_Wrong_Known ?kt_Wrong_TooMany ?kt_Wrong_Wrong ?kt_Wrong_BadItem ?ex_Wrong ?u_BadItem ?ga_BadItem ?gt_BadItem ?cl_BadItem ?sb_BadItem ?dc_BadItem ?mr_BadItem ?a24 ?t24 ?l24 ?c24 ?k24 ?nf_BadItem_place ?nf_BadItem_at ?kt_BadItem_Known ?kt_BadItem_TooMany ?kt_BadItem_Wrong ?kt_BadItem_BadItem ?ex_BadItem ?cg_ ?tk_ ?v_LETTERS ?v_LONGEST_NAME ?v_MOST_ITEMS ?v_MOST_PLAYERS ?v_MOST_TICKETS ?v_MOST_TIMES ?z_abs ?z_all ?z_bool ?z_dict ?z_enumerate ?z_int ?z_isinstance ?z_len ?z_list ?z_max ?z_min ?z_range ?z_repr ?z_str ?z_tuple
    (case y_Wrong => k_is)
    (case y_BadItem => k_is)
    (case y_Known => k_is)
    (case y_TooMany => k_is)
    (case y_Purses => k_is)
    (case y_Lot => k_is)
    (case y_ClubError => k_is)
    (case pg_Purses => k_is)
    (case hd_Purses => k_is)
    (case po_Purses => k_is)
    (case sa_Purses => k_is)
    (case mk_Purses => k_is)
    (case kc_Purses => k_is)
    (case pg_Lot => k_is)
    (case hd_Lot => k_is)
    (case po_Lot => k_is)
    (case sa_Lot => k_is)
    (case mk_Lot => k_is)
    (case kc_Lot => k_is)
    (case cl_Purses => k_is)
    (case mr_Purses => k_is)
    (case kt_Purses_bool => first | kit_is | k_is)
    (case kt_Purses_int => first | kit_is | k_is)
    (case kt_Purses_str => first | kit_is | k_is)
    (case kt_Purses_tuple => first | kit_is | k_is)
    (case kt_Purses_list => first | kit_is | k_is)
    (case cl_Lot => k_is)
    (case mr_Lot => k_is)
    (case kt_Lot_bool => first | kit_is | k_is)
    (case kt_Lot_int => first | kit_is | k_is)
    (case kt_Lot_str => first | kit_is | k_is)
    (case kt_Lot_tuple => first | kit_is | k_is)
    (case kt_Lot_list => first | kit_is | k_is)
    (case na_Lot_table => k_is)
    (case na_Purses_table => k_is)
    (case a0 => k_is)
    (case l0 => k_is)
    (case c0 => k_is)
    (case k0 => k_is)
    (case a1 => k_is)
    (case l1 => k_is)
    (case c1 => k_is)
    (case k1 => k_is)
    (case a2 => k_is)
    (case l2 => k_is)
    (case c2 => k_is)
    (case k2 => k_is)
    (case a3 => k_is)
    (case l3 => k_is)
    (case c3 => k_is)
    (case k3 => k_is)
    (case a4 => k_is)
    (case l4 => k_is)
    (case c4 => k_is)
    (case k4 => k_is)
    (case a5 => k_is)
    (case l5 => k_is)
    (case c5 => k_is)
    (case k5 => k_is)
    (case a6 => k_is)
    (case l6 => k_is)
    (case c6 => k_is)
    (case k6 => k_is)
    (case a7 => k_is)
    (case i7 => k_is)
    (case l7 => k_is)
    (case c7 => k_is)
    (case k7 => k_is)
    (case a8 => k_is)
    (case l8 => k_is)
    (case c8 => k_is)
    (case k8 => k_is)
    (case a9 => k_is)
    (case l9 => k_is)
    (case c9 => k_is)
    (case k9 => k_is)
    (case a10 => k_is)
    (case l10 => k_is)
    (case c10 => k_is)
    (case k10 => k_is)
    (case a11 => k_is)
    (case i11 => k_is)
    (case l11 => k_is)
    (case c11 => k_is)
    (case k11 => k_is)
    (case a12 => k_is)
    (case l12 => k_is)
    (case c12 => k_is)
    (case k12 => k_is)
    (case a13 => k_is)
    (case l13 => k_is)
    (case c13 => k_is)
    (case k13 => k_is)
    (case a14 => k_is)
    (case l14 => k_is)
    (case c14 => k_is)
    (case k14 => k_is)
    (case a15 => k_is)
    (case l15 => k_is)
    (case c15 => k_is)
    (case k15 => k_is)
    (case a16 => k_is)
    (case l16 => k_is)
    (case c16 => k_is)
    (case k16 => k_is)
    (case a17 => k_is)
    (case l17 => k_is)
    (case c17 => k_is)
    (case k17 => k_is)
    (case a18 => k_is)
    (case i18 => k_is)
    (case l18 => k_is)
    (case c18 => k_is)
    (case k18 => k_is)
    (case a19 => k_is)
    (case l19 => k_is)
    (case c19 => k_is)
    (case k19 => k_is)
    (case a20 => k_is)
    (case l20 => k_is)
    (case c20 => k_is)
    (case k20 => k_is)
    (case a21 => k_is)
    (case l21 => k_is)
    (case c21 => k_is)
    (case k21 => k_is)
    (case a22 => k_is)
    (case l22 => k_is)
    (case c22 => k_is)
    (case k22 => k_is)
    (case u_Wrong => exact ⟨⟨_, _, _, _, _, _, _, _, _, _, _, _, _, _, _, by k_is, by first | exact rfl | decide⟩, by k_is, by k_is, by k_is, by k_is⟩)
    (case ga_Wrong => k_is)
    (case gt_Wrong => k_is)
    (case cl_Wrong => k_is)
    (case sb_Wrong => k_is)
    (case dc_Wrong => k_is)
    (case mr_Wrong => k_is)
    (case a23 => k_is)
    (case t23 => k_is)
    (case l23 => k_is)
    (case c23 => k_is)
    (case k23 => k_is)
    (case nf_Wrong_place => k_is)
    (case nf_Wrong_at => k_is)
    (case kt_Wrong_Known => first | kit_is | k_is)
    (case kt_Wrong_TooMany => first | kit_is | k_is)
    (case kt_Wrong_Wrong => first | kit_is | k_is)
    (case kt_Wrong_BadItem => first | kit_is | k_is)
    (case ex_Wrong => first | kts_exm | k_is)
    (case u_BadItem => exact ⟨⟨_, _, _, _, _, _, _, _, _, _, _, _, _, _, _, by k_is, by first | exact rfl | decide⟩, by k_is, by k_is, by k_is, by k_is⟩)
    (case ga_BadItem => k_is)
    (case gt_BadItem => k_is)
    (case cl_BadItem => k_is)
    (case sb_BadItem => k_is)
    (case dc_BadItem => k_is)
    (case mr_BadItem => k_is)
    (case a24 => k_is)
    (case t24 => k_is)
    (case l24 => k_is)
    (case c24 => k_is)
    (case k24 => k_is)
    (case nf_BadItem_place => k_is)
    (case nf_BadItem_at => k_is)
    (case kt_BadItem_Known => first | kit_is | k_is)
    (case kt_BadItem_TooMany => first | kit_is | k_is)
    (case kt_BadItem_Wrong => first | kit_is | k_is)
    (case kt_BadItem_BadItem => first | kit_is | k_is)
    (case ex_BadItem => first | kts_exm | k_is)
    (case cg_ => k_is)
    (case tk_ => k_is)
    (case v_LETTERS => k_is)
    (case v_LONGEST_NAME => k_is)
    (case v_MOST_ITEMS => k_is)
    (case v_MOST_PLAYERS => k_is)
    (case v_MOST_TICKETS => k_is)
    (case v_MOST_TIMES => k_is)
    (case z_abs => k_is)
    (case z_all => k_is)
    (case z_bool => k_is)
    (case z_dict => k_is)
    (case z_enumerate => k_is)
    (case z_int => k_is)
    (case z_isinstance => k_is)
    (case z_len => k_is)
    (case z_list => k_is)
    (case z_max => k_is)
    (case z_min => k_is)
    (case z_range => k_is)
    (case z_repr => k_is)
    (case z_str => k_is)
    (case z_tuple => k_is)
end
