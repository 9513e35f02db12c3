import PyProof.Rows.All
import Wide.All
import OpenK.AllK
import Wide.FinOn
import HandS.ForMost
import HandS.Exc
import HandS.ExcOwn
import HandS.WordsExc
import HandS.CallSlots
import HandS.Iter
import HandS.Wide
import HandS.Flow
import HandS.IsInst
import HandS.Deep
import HandS.DictComp
import HandS.RaiseMore
import HandS.Text
import HandS.More
import HandS.ExcIs
import HandS.ExcField
import HandS.ExcInit
import HandS.SetTxt0
import HandS.SetFor
import HandS.Strs
import PyProof.DictUpdate
import PyProof.EvalArms
import KE.KDictLaw
import PyProof.DictDisplay
import PyProof.ReprRoads
import PyProof.FitsInt
import PyProof.StrLawsRepr
import PyProof.Rows.DictTally
import HandS.Conv
import PyProof.NeKinds
import HandS.Style
import HandS.DictTup
import HandS.SortOrd
import HandS.SortRule
import HandS.DictEq
import HandS.TupLen
import KE.KDictPairs
import HandS.List
import HandS.SetBool
import HandS.OwnEq
import PyProof.SumAny
import HandS.TupAny
import PyProof.WalksMore
import HandS.Flt
import HandS.SortKw
import KE.DatumOrd
import HandS.TryOnly
import KE.SortData
import HandS.SortInts
import KE.KDictList
import PyProof.InstNe
import HandS.ListEq
import KE.KDictCopyH
import PySem.Challenge.RW_eitherpays_k95_texts_there_and_back
section
set_option Elab.async false
set_option linter.all false
set_option maxRecDepth 100000
set_option maxHeartbeats 4000000
/-! QBase: data without a heap, what a piece of program does to them as a plain function, and the tie of both to the layer's readings. -/
namespace QL
open PySem PySem.Spec L2

/-! ### data -/
inductive D where
  | non | bl (b : Bool) | int (i : Int) | str (x : Str) | ptr (k : Nat) | raw (v : V)
  | tup (ds : List D) | lst (ds : List D)
  | dK (kvs : List (Key × D)) | dT (kvs : List (List Key × D))
  | obj (c : Str) (fs : List (Str × D))
  /-- a caught exception: at a, its dict at dd -/
  | exc (a dd : Addr) (c : Str) (fs : List (Str × D))
/-- what stands at a place of the store of things that may change -/
inductive MO where
  | lst (ds : List D) | dK (kvs : List (Key × D)) | dT (kvs : List (List Key × D)) | obj (c : Str) (fs : List (Str × D))
  | lkK (kvs : List (Key × D)) | lkT (kvs : List (List Key × D)) | gone
  /-- a table while a loop walks it; ep is its epoch -/
  | wkT (kvs : List (List Key × D)) (ep : Nat)
  /-- the same of a dict -/
  | wkK (kvs : List (Key × D)) (ep : Nat)
abbrev Mem := List MO
abbrev Sl := List (Option D)
structure Ex where
  c : Str
  fs : List (Str × D)
inductive Res (α : Type) where
  | ok (a : α) (M : Mem) | rz (x : Ex) (M : Mem) | bad
def Res.bind {α β : Type} (r : Res α) (k : α → Mem → Res β) : Res β := match r with
  | .ok a M => k a M
  | .rz x M => .rz x M
  | .bad => .bad
abbrev EF := Sl → Mem → Res D
abbrev BF := Sl → Mem → Res Bool
abbrev AF := Sl → Mem → Res (List D)
inductive SR where
  | nx (S : Sl) (M : Mem) | rt (d : D) (M : Mem) | bk (S : Sl) (M : Mem) | ct (S : Sl) (M : Mem) | rz (x : Ex) (S : Sl) (M : Mem) | bad
abbrev TF := Sl → Mem → SR

/-! ### what data stand for -/
structure Cn where
  K : PySem.W.Frag
  mg : Str → Option Value
structure Gd where
  F : Hp
  θ : List Addr
  /-- things of the layer's own (a list that a comprehension makes) -/
  P : List (Addr × HO)
mutual
def DV (c : Cn) (G : Gd) : D → V → Prop
  | .non, v => v = .non
  | .bl b, v => v = .bl b
  | .int i, v => v = .int i
  | .str x, v => v = .str x
  | .ptr k, v => ∃ a, G.θ[k]? = some a ∧ v = .ref a
  | .raw u, v => v = u
  | .tup ds, v => ∃ a vs, v = .ref a ∧ G.F a = some (.tup vs) ∧ DVs c G ds vs
  | .lst ds, v => ∃ a vs, v = .ref a ∧ SqL c.K G.F a vs ∧ DVs c G ds vs
  | .dK kvs, v => ∃ a ws o, v = .ref a ∧ G.F a = some (.frz o (.dK ws)) ∧ DVk c G kvs ws
  | .dT kvs, v => ∃ a ws o, v = .ref a ∧ G.F a = some (.frz o (.dT ws)) ∧ DVt c G kvs ws
  | .obj n fs, v => ∃ a C dx ws, v = .ref a ∧ G.F a = some (.ins C dx ws) ∧ c.mg n = some (.ref C) ∧ DVf c G fs ws
  | .exc a dd n fs, v => v = .ref a ∧ (∃ C, c.mg n = some (.ref C)) ∧ ∃ ws, G.F dd = some (.xd ws) ∧ DVf c G fs ws
def DVs (c : Cn) (G : Gd) : List D → List V → Prop
  | [], vs => vs = []
  | d :: r, vs => ∃ v t, vs = v :: t ∧ DV c G d v ∧ DVs c G r t
def DVk (c : Cn) (G : Gd) : List (Key × D) → List (Key × V) → Prop
  | [], vs => vs = []
  | d :: r, vs => ∃ v t, vs = v :: t ∧ DVk1 c G d v ∧ DVk c G r t
def DVk1 (c : Cn) (G : Gd) : Key × D → Key × V → Prop
  | (k, d), v => v.1 = k ∧ DV c G d v.2
def DVt (c : Cn) (G : Gd) : List (List Key × D) → List (List Key × V) → Prop
  | [], vs => vs = []
  | d :: r, vs => ∃ v t, vs = v :: t ∧ DVt1 c G d v ∧ DVt c G r t
def DVt1 (c : Cn) (G : Gd) : List Key × D → List Key × V → Prop
  | (k, d), v => v.1 = k ∧ DV c G d v.2
def DVf (c : Cn) (G : Gd) : List (Str × D) → List (Str × V) → Prop
  | [], vs => vs = []
  | d :: r, vs => ∃ v t, vs = v :: t ∧ DVf1 c G d v ∧ DVf c G r t
def DVf1 (c : Cn) (G : Gd) : Str × D → Str × V → Prop
  | (k, d), v => v.1 = k ∧ DV c G d v.2
end
/-- the ground has grown -/
structure Gr0 (G G' : Gd) : Prop where
  F : ∀ a u, G.F a = some u → G'.F a = some u
  θ : ∃ more, G'.θ = G.θ ++ more
structure Gr (G G' : Gd) : Prop extends Gr0 G G' where
  P : G'.P = G.P
theorem Gr0.refl (G : Gd) : Gr0 G G := ⟨fun _ _ h => h, [], (List.append_nil _).symm⟩
theorem Gr0.trans {G G1 G2 : Gd} (a : Gr0 G G1) (b : Gr0 G1 G2) : Gr0 G G2 :=
  ⟨fun x u h => b.F x u (a.F x u h), let ⟨m, e⟩ := a.θ; let ⟨m', e'⟩ := b.θ; ⟨m ++ m', by rw [e', e, List.append_assoc]⟩⟩
theorem Gr.refl (G : Gd) : Gr G G := ⟨Gr0.refl G, rfl⟩
theorem Gr.trans {G G1 G2 : Gd} (a : Gr G G1) (b : Gr G1 G2) : Gr G G2 := ⟨a.toGr0.trans b.toGr0, b.P.trans a.P⟩
theorem Gr0.at {G G' : Gd} (g : Gr0 G G') {k : Nat} {a : Addr} (h : G.θ[k]? = some a) : G'.θ[k]? = some a := by
  obtain ⟨m, e⟩ := g.θ
  rw [e, List.getElem?_append_left (List.getElem?_eq_some_iff.mp h).1]
  exact h
theorem Gr0.rd {G G' : Gd} (g : Gr0 G G') {a : Addr} {u : HO} (h : Rd G.F a u) : Rd G'.F a u := by
  rcases h with h | ⟨o, h⟩
  · exact .inl (g.F _ _ h)
  · exact .inr ⟨o, g.F _ _ h⟩
theorem Gr0.sqL {c : Cn} {G G' : Gd} (g : Gr0 G G') {a : Addr} {xs : List V} (h : SqL c.K G.F a xs) : SqL c.K G'.F a xs := by
  rcases h with h | h
  · exact .inl (g.rd h)
  · exact .inr h
theorem Gr0.sqT {c : Cn} {G G' : Gd} (g : Gr0 G G') {a : Addr} {xs : List V} (h : SqT c.K G.F a xs) : SqT c.K G'.F a xs := by
  rcases h with h | h
  · exact .inl (g.rd h)
  · exact .inr h
theorem Gr.at {G G' : Gd} (g : Gr G G') {k : Nat} {a : Addr} (h : G.θ[k]? = some a) : G'.θ[k]? = some a := g.toGr0.at h
theorem Gr.sqL {c : Cn} {G G' : Gd} (g : Gr G G') {a : Addr} {xs : List V} (h : SqL c.K G.F a xs) : SqL c.K G'.F a xs := g.toGr0.sqL h
theorem Gr.sqT {c : Cn} {G G' : Gd} (g : Gr G G') {a : Addr} {xs : List V} (h : SqT c.K G.F a xs) : SqT c.K G'.F a xs := g.toGr0.sqT h
section
variable {c : Cn} {G G' : Gd}
mutual
theorem DV.mono0 (g : Gr0 G G') : ∀ {d : D} {v : V}, DV c G d v → DV c G' d v
  | .non, _, h => h
  | .bl _, _, h => h
  | .int _, _, h => h
  | .str _, _, h => h
  | .ptr _, _, h => let ⟨a, e, z⟩ := h; ⟨a, g.at e, z⟩
  | .raw _, _, h => h
  | .tup _, _, h => let ⟨a, vs, e, q, r⟩ := h; ⟨a, vs, e, g.F _ _ q, DVs.mono0 g r⟩
  | .lst _, _, h => let ⟨a, vs, e, q, r⟩ := h; ⟨a, vs, e, g.sqL q, DVs.mono0 g r⟩
  | .dK _, _, h => let ⟨a, vs, o, e, q, r⟩ := h; ⟨a, vs, o, e, g.F _ _ q, DVk.mono0 g r⟩
  | .dT _, _, h => let ⟨a, vs, o, e, q, r⟩ := h; ⟨a, vs, o, e, g.F _ _ q, DVt.mono0 g r⟩
  | .obj _ _, _, h => let ⟨a, C, dx, vs, e, q, m, r⟩ := h; ⟨a, C, dx, vs, e, g.F _ _ q, m, DVf.mono0 g r⟩
  | .exc _ _ _ _, _, h => let ⟨e, m, vs, q, r⟩ := h; ⟨e, m, vs, g.F _ _ q, DVf.mono0 g r⟩
theorem DVs.mono0 (g : Gr0 G G') : ∀ {ds : List D} {vs : List V}, DVs c G ds vs → DVs c G' ds vs
  | [], _, h => h
  | _ :: _, _, h => let ⟨v, t, e, q, r⟩ := h; ⟨v, t, e, DV.mono0 g q, DVs.mono0 g r⟩
theorem DVk.mono0 (g : Gr0 G G') : ∀ {ds : List (Key × D)} {vs : List (Key × V)}, DVk c G ds vs → DVk c G' ds vs
  | [], _, h => h
  | (_, _) :: _, _, h => let ⟨v, t, e, q, r⟩ := h; ⟨v, t, e, ⟨q.1, DV.mono0 g q.2⟩, DVk.mono0 g r⟩
theorem DVt.mono0 (g : Gr0 G G') : ∀ {ds : List (List Key × D)} {vs : List (List Key × V)}, DVt c G ds vs → DVt c G' ds vs
  | [], _, h => h
  | (_, _) :: _, _, h => let ⟨v, t, e, q, r⟩ := h; ⟨v, t, e, ⟨q.1, DV.mono0 g q.2⟩, DVt.mono0 g r⟩
theorem DVf.mono0 (g : Gr0 G G') : ∀ {ds : List (Str × D)} {vs : List (Str × V)}, DVf c G ds vs → DVf c G' ds vs
  | [], _, h => h
  | (_, _) :: _, _, h => let ⟨v, t, e, q, r⟩ := h; ⟨v, t, e, ⟨q.1, DV.mono0 g q.2⟩, DVf.mono0 g r⟩
end
theorem DV.mono (g : Gr G G') {d : D} {v : V} (h : DV c G d v) : DV c G' d v := h.mono0 g.toGr0
theorem DVs.mono (g : Gr G G') {d : List D} {v : List V} (h : DVs c G d v) : DVs c G' d v := h.mono0 g.toGr0
theorem DVk.mono (g : Gr G G') {d : List (Key × D)} {v : List (Key × V)} (h : DVk c G d v) : DVk c G' d v := h.mono0 g.toGr0
theorem DVt.mono (g : Gr G G') {d : List (List Key × D)} {v : List (List Key × V)} (h : DVt c G d v) : DVt c G' d v := h.mono0 g.toGr0
theorem DVf.mono (g : Gr G G') {d : List (Str × D)} {v : List (Str × V)} (h : DVf c G d v) : DVf c G' d v := h.mono0 g.toGr0
theorem DVs.length : ∀ {ds : List D} {vs : List V}, DVs c G ds vs → vs.length = ds.length
  | [], _, h => by
    cases (show _ = [] from h)
    rfl
  | _ :: _, _, h => by
    obtain ⟨v, t, e, q, r⟩ := h
    rw [e, List.length_cons, List.length_cons, DVs.length r]
theorem DVs.get : ∀ {ds : List D} {vs : List V} {i : Nat} {d : D}, DVs c G ds vs → ds[i]? = some d → ∃ v, vs[i]? = some v ∧ DV c G d v
  | [], _, _, _, _, h => by simp at h
  | _ :: _, _, 0, d, h, e => by
    obtain ⟨v, t, rfl, q, r⟩ := h
    have e' := Option.some.inj e
    subst e'
    exact ⟨v, rfl, q⟩
  | _ :: ds, _, i + 1, d, h, e => by
    obtain ⟨v, t, rfl, q, r⟩ := h
    exact DVs.get (ds := ds) (i := i) r e
theorem DVs.append : ∀ {ds es : List D} {vs us : List V}, DVs c G ds vs → DVs c G es us → DVs c G (ds ++ es) (vs ++ us)
  | [], _, _, _, h, k => by
    cases (show _ = [] from h)
    exact k
  | _ :: _, _, _, _, h, k => by
    obtain ⟨v, t, rfl, q, r⟩ := h
    exact ⟨v, t ++ _, rfl, q, DVs.append r k⟩
theorem DVs.one {d : D} {v : V} (h : DV c G d v) : DVs c G [d] [v] := ⟨v, [], rfl, h, rfl⟩
theorem DVs.cons {d : D} {v : V} {ds : List D} {vs : List V} (h : DV c G d v) (t : DVs c G ds vs) : DVs c G (d :: ds) (v :: vs) := ⟨v, vs, rfl, h, t⟩
end

/-! ### the store against the heap -/
def isD : HO → Bool
  | .dK _ => true
  | .dT _ => true
  | _ => false
def Fz (F H : Hp) : Prop := ∀ a u, F a = some u → H a = some u ∨ (isD u = true ∧ ∃ o, H a = some (.frz o u))
def MOk (c : Cn) (G : Gd) (H : Hp) : MO → Addr → Prop
  | .lst ds, a => ∃ vs, H a = some (.lst vs) ∧ DVs c G ds vs
  | .dK kvs, a => ∃ ws, H a = some (.dK ws) ∧ DVk c G kvs ws
  | .dT kvs, a => ∃ ws, H a = some (.dT ws) ∧ DVt c G kvs ws
  | .obj n fs, a => ∃ C dx ws, H a = some (.ins C dx ws) ∧ c.mg n = some (.ref C) ∧ DVf c G fs ws
  | .lkK kvs, a => ∃ ws o, G.F a = some (.frz o (.dK ws)) ∧ DVk c G kvs ws
  | .lkT kvs, a => ∃ ws o, G.F a = some (.frz o (.dT ws)) ∧ DVt c G kvs ws
  | .wkT kvs ep, a => ∃ ws o, H a = some (.frz o (.dT ws)) ∧ (∃ es, o.data = .dict es ep) ∧ DVt c G kvs ws
  | .wkK kvs ep, a => ∃ ws o, H a = some (.frz o (.dK ws)) ∧ (∃ es, o.data = .dict es ep) ∧ DVk c G kvs ws
  | .gone, _ => True
def MO.live : MO → Bool
  | .gone => false
  | .lkK _ => false
  | .lkT _ => false
  | _ => true
/-- no tuple -/
def noT : HO → Prop
  | .tup _ => False
  | _ => True
structure Rep (c : Cn) (G : Gd) (H : Hp) (M : Mem) : Prop where
  fz : Fz G.F H
  len : G.θ.length = M.length
  nd : G.θ.Nodup
  mem : ∀ (k : Nat) mo a, M[k]? = some mo → G.θ[k]? = some a → MOk c G H mo a
  sep : ∀ (k : Nat) mo a, M[k]? = some mo → G.θ[k]? = some a → mo.live = true → G.F a = none
  liv : ∀ a ∈ G.θ, ∃ u, H a = some u
  pin : ∀ p ∈ G.P, H p.1 = some p.2 ∧ G.F p.1 = none ∧ p.1 ∉ G.θ ∧ noT p.2
section
variable {c : Cn} {G G' : Gd} {H H' : Hp} {M : Mem}
theorem MOk.mono0 (g : Gr0 G G') {mo : MO} {a : Addr} (h : MOk c G H mo a) : MOk c G' H mo a := by
  cases mo with
  | lst ds => obtain ⟨vs, e, r⟩ := h; exact ⟨vs, e, r.mono0 g⟩
  | dK ds => obtain ⟨vs, e, r⟩ := h; exact ⟨vs, e, r.mono0 g⟩
  | dT ds => obtain ⟨vs, e, r⟩ := h; exact ⟨vs, e, r.mono0 g⟩
  | obj n fs => obtain ⟨C, dx, vs, e, m, r⟩ := h; exact ⟨C, dx, vs, e, m, r.mono0 g⟩
  | lkK ds => obtain ⟨vs, o, e, r⟩ := h; exact ⟨vs, o, g.F _ _ e, r.mono0 g⟩
  | lkT ds => obtain ⟨vs, o, e, r⟩ := h; exact ⟨vs, o, g.F _ _ e, r.mono0 g⟩
  | wkT ds ep => obtain ⟨vs, o, e, z, r⟩ := h; exact ⟨vs, o, e, z, r.mono0 g⟩
  | wkK ds ep => obtain ⟨vs, o, e, z, r⟩ := h; exact ⟨vs, o, e, z, r.mono0 g⟩
  | gone => exact h
theorem MOk.mono (g : Gr G G') {mo : MO} {a : Addr} (h : MOk c G H mo a) : MOk c G' H mo a := h.mono0 g.toGr0
/-- what stands at a is the same there -/
theorem MOk.at {mo : MO} {a : Addr} (h : MOk c G H mo a) (e : H' a = H a) : MOk c G H' mo a := by
  cases mo with
  | lst ds => obtain ⟨vs, q, r⟩ := h; exact ⟨vs, e.trans q, r⟩
  | dK ds => obtain ⟨vs, q, r⟩ := h; exact ⟨vs, e.trans q, r⟩
  | dT ds => obtain ⟨vs, q, r⟩ := h; exact ⟨vs, e.trans q, r⟩
  | obj n fs => obtain ⟨C, dx, vs, q, m, r⟩ := h; exact ⟨C, dx, vs, e.trans q, m, r⟩
  | lkK ds => obtain ⟨vs, o, q, r⟩ := h; exact ⟨vs, o, q, r⟩
  | lkT ds => obtain ⟨vs, o, q, r⟩ := h; exact ⟨vs, o, q, r⟩
  | wkT ds ep => obtain ⟨vs, o, q, z, r⟩ := h; exact ⟨vs, o, e.trans q, z, r⟩
  | wkK ds ep => obtain ⟨vs, o, q, z, r⟩ := h; exact ⟨vs, o, e.trans q, z, r⟩
  | gone => exact h
theorem Fz.sqL (z : Fz G.F H) {a : Addr} {xs : List V} (h : SqL c.K G.F a xs) : SqL c.K H a xs := by
  rcases h with (h | ⟨o, h⟩) | h
  · rcases z _ _ h with q | ⟨q, _⟩
    · exact .inl (.inl q)
    · exact absurd q (by simp [isD])
  · rcases z _ _ h with q | ⟨q, _⟩
    · exact .inl (.inr ⟨o, q⟩)
    · exact absurd q (by simp [isD])
  · exact .inr h
theorem Fz.sqT (z : Fz G.F H) {a : Addr} {xs : List V} (h : SqT c.K G.F a xs) : SqT c.K H a xs := by
  rcases h with (h | ⟨o, h⟩) | h
  · rcases z _ _ h with q | ⟨q, _⟩
    · exact .inl (.inl q)
    · exact absurd q (by simp [isD])
  · rcases z _ _ h with q | ⟨q, _⟩
    · exact .inl (.inr ⟨o, q⟩)
    · exact absurd q (by simp [isD])
  · exact .inr h
theorem Fz.tup (z : Fz G.F H) {a : Addr} {xs : List V} (h : G.F a = some (.tup xs)) : H a = some (.tup xs) := by
  rcases z _ _ h with q | ⟨q, _⟩
  · exact q
  · exact absurd q (by simp [isD])
theorem Fz.rd (z : Fz G.F H) {a : Addr} {u : HO} (h : G.F a = some u) : Rd H a u := by
  rcases z _ _ h with q | ⟨_, o, q⟩
  · exact .inl q
  · exact .inr ⟨o, q⟩
theorem Fz.ins (z : Fz G.F H) {a C dx : Addr} {fs : List (Str × V)} (h : G.F a = some (.ins C dx fs)) : H a = some (.ins C dx fs) := by
  rcases z _ _ h with q | ⟨q, _⟩
  · exact q
  · exact absurd q (by simp [isD])
theorem Fz.free (z : Fz G.F H) {a : Addr} (h : H a = none) : G.F a = none := by
  cases q : G.F a with
  | none => rfl
  | some u =>
    rcases z _ _ q with e | ⟨_, o, e⟩
    · rw [h] at e; cases e
    · rw [h] at e; cases e
/-- a new thing that will not change -/
theorem Gr.newF {p : Addr} {o : HO} (h : G.F p = none) : Gr G { G with F := upd G.F p o } :=
  ⟨⟨fun a u e => by show upd G.F p o a = some u; rw [upd_ne (ne_of_none e h)]; exact e, [], (List.append_nil _).symm⟩, rfl⟩
theorem Rep.newF (r : Rep c G H M) {p : Addr} {o : HO} (hp : H p = none) : Rep c { G with F := upd G.F p o } (upd H p o) M := by
  have g : Gr G { G with F := upd G.F p o } := Gr.newF (r.fz.free hp)
  have np : ∀ a ∈ G.θ, a ≠ p := fun a ha e => by
    obtain ⟨u, q⟩ := r.liv a ha
    rw [e, hp] at q
    cases q
  refine ⟨fun a u e => ?_, r.len, r.nd, fun k mo a e1 e2 => ?_, fun k mo a e1 e2 l => ?_, fun a ha => ?_, fun q hq => ?_⟩
  · by_cases z : a = p
    · subst z
      have e' : upd G.F a o a = some u := e
      rw [upd_same] at e'
      exact .inl (by rw [upd_same]; exact e')
    · have e' : upd G.F p o a = some u := e
      rw [upd_ne z] at e'
      rw [upd_ne z]
      exact r.fz a u e'
  · exact ((r.mem k mo a e1 e2).mono g).at (upd_ne (np a (List.mem_of_getElem? e2)))
  · show upd G.F p o a = none
    rw [upd_ne (np a (List.mem_of_getElem? e2))]
    exact r.sep k mo a e1 e2 l
  · obtain ⟨u, q⟩ := r.liv a ha
    exact ⟨u, by rw [upd_ne (np a ha)]; exact q⟩
  · obtain ⟨h1, h2, h3⟩ := r.pin q hq
    have nq : q.1 ≠ p := ne_of_none h1 hp
    exact ⟨by rw [upd_ne nq]; exact h1, by show upd G.F p o q.1 = none; rw [upd_ne nq]; exact h2, h3⟩
/-- a new thing that may change -/
theorem Gr.newP (p : Addr) : Gr G { G with θ := G.θ ++ [p] } := ⟨⟨fun _ _ e => e, [p], rfl⟩, rfl⟩
theorem Rep.newP (r : Rep c G H M) {p : Addr} {o : HO} {mo : MO} (hp : H p = none) (hm : MOk c { G with θ := G.θ ++ [p] } (upd H p o) mo p) : Rep c { G with θ := G.θ ++ [p] } (upd H p o) (M ++ [mo]) := by
  have np : ∀ a ∈ G.θ, a ≠ p := fun a ha e => by
    obtain ⟨u, q⟩ := r.liv a ha
    rw [e, hp] at q
    cases q
  have gt : ∀ {k : Nat} {a : Addr} {x : MO}, (M ++ [mo])[k]? = some x → (G.θ ++ [p])[k]? = some a → (M[k]? = some x ∧ G.θ[k]? = some a) ∨ (x = mo ∧ a = p) := fun {k a x} e1 e2 => by
    by_cases hk : k < M.length
    · rw [List.getElem?_append_left hk] at e1
      rw [List.getElem?_append_left (by rw [r.len]; exact hk)] at e2
      exact .inl ⟨e1, e2⟩
    · have hk1 : M.length ≤ k := Nat.le_of_not_lt hk
      rw [List.getElem?_append_right hk1] at e1
      rw [List.getElem?_append_right (by rw [r.len]; exact hk1), r.len] at e2
      cases q : k - M.length with
      | zero =>
        rw [q] at e1 e2
        exact .inr ⟨(Option.some.inj e1).symm, (Option.some.inj e2).symm⟩
      | succ n =>
        rw [q] at e1
        simp at e1
  refine ⟨fun a u e => ?_, by simp [r.len], ?_, fun k x a e1 e2 => ?_, fun k x a e1 e2 l => ?_, fun a ha => ?_, fun q hq => ?_⟩
  · have e' : G.F a = some u := e
    have hn : a ≠ p := fun z => by
      rw [z, r.fz.free hp] at e'
      cases e'
    rw [upd_ne hn]
    exact r.fz a u e'
  · show (G.θ ++ [p]).Nodup
    rw [List.nodup_append]
    exact ⟨r.nd, by simp, fun a ha b hb => by rw [List.mem_singleton.mp hb]; exact np a ha⟩
  · rcases gt e1 e2 with ⟨q1, q2⟩ | ⟨rfl, rfl⟩
    · exact ((r.mem k x a q1 q2).mono (Gr.newP p)).at (upd_ne (np a (List.mem_of_getElem? q2)))
    · exact hm
  · rcases gt e1 e2 with ⟨q1, q2⟩ | ⟨rfl, rfl⟩
    · exact r.sep k x a q1 q2 l
    · exact r.fz.free hp
  · rcases List.mem_append.mp ha with q | q
    · obtain ⟨u, e⟩ := r.liv a q
      exact ⟨u, by rw [upd_ne (np a q)]; exact e⟩
    · rw [List.mem_singleton.mp q]
      exact ⟨o, upd_same⟩
  · obtain ⟨h1, h2, h3⟩ := r.pin q hq
    have nq : q.1 ≠ p := ne_of_none h1 hp
    refine ⟨by rw [upd_ne nq]; exact h1, h2, fun z => ?_, h3.2⟩
    rcases List.mem_append.mp z with y | y
    · exact h3.1 y
    · exact nq (List.mem_singleton.mp y)
theorem nodup_at {l : List Addr} (h : l.Nodup) {i j : Nat} {a : Addr} (e1 : l[i]? = some a) (e2 : l[j]? = some a) : i = j := by
  obtain ⟨h1, q1⟩ := List.getElem?_eq_some_iff.mp e1
  obtain ⟨h2, q2⟩ := List.getElem?_eq_some_iff.mp e2
  exact (List.getElem_inj h).mp (q1.trans q2.symm)
/-- a thing is changed -/
theorem Rep.write (r : Rep c G H M) {k : Nat} {a : Addr} {mo mo' : MO} {o : HO} (e1 : M[k]? = some mo) (e2 : G.θ[k]? = some a) (l : mo.live = true) (hm : MOk c G (upd H a o) mo' a) : Rep c G (upd H a o) (M.set k mo') := by
  have hF := r.sep k mo a e1 e2 l
  have gt : ∀ {j : Nat} {b : Addr} {x : MO}, (M.set k mo')[j]? = some x → G.θ[j]? = some b → (j ≠ k ∧ M[j]? = some x ∧ b ≠ a) ∨ (j = k ∧ x = mo' ∧ b = a) := fun {j b x} q1 q2 => by
    by_cases hj : j = k
    · subst hj
      rw [List.getElem?_set_self (List.getElem?_eq_some_iff.mp e1).1] at q1
      rw [e2] at q2
      exact .inr ⟨rfl, (Option.some.inj q1).symm, (Option.some.inj q2).symm⟩
    · rw [List.getElem?_set_ne (Ne.symm hj)] at q1
      exact .inl ⟨hj, q1, fun z => hj (nodup_at r.nd (z ▸ q2) e2)⟩
  refine ⟨fun b u e => ?_, by rw [List.length_set]; exact r.len, r.nd, fun j x b q1 q2 => ?_, fun j x b q1 q2 lx => ?_, fun b hb => ?_, fun q hq => ?_⟩
  · rw [upd_ne (fun z => by rw [z, hF] at e; cases e)]
    exact r.fz b u e
  · rcases gt q1 q2 with ⟨_, m, n⟩ | ⟨_, rfl, rfl⟩
    · exact (r.mem j x b m q2).at (upd_ne n)
    · exact hm
  · rcases gt q1 q2 with ⟨_, m, n⟩ | ⟨rfl, _, rfl⟩
    · exact r.sep j x b m q2 lx
    · exact hF
  · by_cases z : b = a
    · exact ⟨o, by rw [z, upd_same]⟩
    · obtain ⟨u, e⟩ := r.liv b hb
      exact ⟨u, by rw [upd_ne z]; exact e⟩
  · obtain ⟨h1, h2, h3⟩ := r.pin q hq
    have nq : q.1 ≠ a := fun z => h3.1 (z ▸ List.mem_of_getElem? e2)
    exact ⟨by rw [upd_ne nq]; exact h1, h2, h3⟩
/-- a thing will not change any more -/
theorem Rep.freeze (r : Rep c G H M) {k : Nat} {a : Addr} {mo : MO} {u : HO} (e1 : M[k]? = some mo) (e2 : G.θ[k]? = some a) (l : mo.live = true) (hu : H a = some u) :
    Gr G { G with F := upd G.F a u } ∧ Rep c { G with F := upd G.F a u } H (M.set k .gone) := by
  have g : Gr G { G with F := upd G.F a u } := Gr.newF (r.sep k mo a e1 e2 l)
  have gt : ∀ {j : Nat} {b : Addr} {x : MO}, (M.set k .gone)[j]? = some x → G.θ[j]? = some b → (j ≠ k ∧ M[j]? = some x ∧ b ≠ a) ∨ (j = k ∧ x = .gone ∧ b = a) := fun {j b x} q1 q2 => by
    by_cases hj : j = k
    · subst hj
      rw [List.getElem?_set_self (List.getElem?_eq_some_iff.mp e1).1] at q1
      rw [e2] at q2
      exact .inr ⟨rfl, (Option.some.inj q1).symm, (Option.some.inj q2).symm⟩
    · rw [List.getElem?_set_ne (Ne.symm hj)] at q1
      exact .inl ⟨hj, q1, fun z => hj (nodup_at r.nd (z ▸ q2) e2)⟩
  refine ⟨g, fun b v e => ?_, by rw [List.length_set]; exact r.len, r.nd, fun j x b q1 q2 => ?_, fun j x b q1 q2 lx => ?_, r.liv, fun q hq => ?_⟩
  · by_cases z : b = a
    · subst z
      have e' : upd G.F b u b = some v := e
      rw [upd_same] at e'
      cases e'
      exact .inl hu
    · have e' : upd G.F a u b = some v := e
      rw [upd_ne z] at e'
      exact r.fz b v e'
  · rcases gt q1 q2 with ⟨_, m, n⟩ | ⟨_, rfl, rfl⟩
    · exact (r.mem j x b m q2).mono g
    · trivial
  · rcases gt q1 q2 with ⟨_, m, n⟩ | ⟨_, rfl, _⟩
    · show upd G.F a u b = none
      rw [upd_ne n]
      exact r.sep j x b m q2 lx
    · cases lx
  · obtain ⟨h1, h2, h3⟩ := r.pin q hq
    have nq : q.1 ≠ a := fun z => h3.1 (z ▸ List.mem_of_getElem? e2)
    exact ⟨h1, by show upd G.F a u q.1 = none; rw [upd_ne nq]; exact h2, h3⟩
/-- a thing will not change any more, and stands otherwise in the heap (locked) -/
theorem Rep.freezeX (r : Rep c G H M) {k : Nat} {a : Addr} {mo : MO} {o : HO} (e1 : M[k]? = some mo) (e2 : G.θ[k]? = some a) (l : mo.live = true) :
    Gr G { G with F := upd G.F a o } ∧ Rep c { G with F := upd G.F a o } (upd H a o) (M.set k .gone) := by
  have hF := r.sep k mo a e1 e2 l
  have g : Gr G { G with F := upd G.F a o } := Gr.newF hF
  have gt : ∀ {j : Nat} {b : Addr} {x : MO}, (M.set k .gone)[j]? = some x → G.θ[j]? = some b → (j ≠ k ∧ M[j]? = some x ∧ b ≠ a) ∨ (j = k ∧ x = .gone ∧ b = a) := fun {j b x} q1 q2 => by
    by_cases hj : j = k
    · subst hj
      rw [List.getElem?_set_self (List.getElem?_eq_some_iff.mp e1).1] at q1
      rw [e2] at q2
      exact .inr ⟨rfl, (Option.some.inj q1).symm, (Option.some.inj q2).symm⟩
    · rw [List.getElem?_set_ne (Ne.symm hj)] at q1
      exact .inl ⟨hj, q1, fun z => hj (nodup_at r.nd (z ▸ q2) e2)⟩
  refine ⟨g, fun b v e => ?_, by rw [List.length_set]; exact r.len, r.nd, fun j x b q1 q2 => ?_, fun j x b q1 q2 lx => ?_, fun b hb => ?_, fun q hq => ?_⟩
  · by_cases z : b = a
    · subst z
      have e' : upd G.F b o b = some v := e
      rw [upd_same] at e'
      cases e'
      exact .inl upd_same
    · have e' : upd G.F a o b = some v := e
      rw [upd_ne z] at e'
      rw [upd_ne z]
      exact r.fz b v e'
  · rcases gt q1 q2 with ⟨_, m, n⟩ | ⟨_, rfl, rfl⟩
    · exact ((r.mem j x b m q2).mono g).at (upd_ne n)
    · trivial
  · rcases gt q1 q2 with ⟨_, m, n⟩ | ⟨_, rfl, _⟩
    · show upd G.F a o b = none
      rw [upd_ne n]
      exact r.sep j x b m q2 lx
    · cases lx
  · by_cases z : b = a
    · exact ⟨o, by rw [z, upd_same]⟩
    · obtain ⟨u, e⟩ := r.liv b hb
      exact ⟨u, by rw [upd_ne z]; exact e⟩
  · obtain ⟨h1, h2, h3⟩ := r.pin q hq
    have nq : q.1 ≠ a := fun z => h3.1 (z ▸ List.mem_of_getElem? e2)
    exact ⟨by rw [upd_ne nq]; exact h1, by show upd G.F a o q.1 = none; rw [upd_ne nq]; exact h2, h3⟩
/-- a thing of the layer's own: begun, changed, given over -/
theorem Rep.pinNew (r : Rep c G H M) {p : Addr} {o : HO} (hp : H p = none) (hT : noT o := by trivial) : Rep c { G with P := (p, o) :: G.P } (upd H p o) M := by
  have np : ∀ {a : Addr} {u : HO}, H a = some u → a ≠ p := fun e => ne_of_none e hp
  refine ⟨fun a u e => ?_, r.len, r.nd, fun k mo a e1 e2 => ?_, r.sep, fun a ha => ?_, fun q hq => ?_⟩
  · have e' : G.F a = some u := e
    rw [upd_ne (fun z => by rw [z, r.fz.free hp] at e'; cases e')]
    exact r.fz a u e'
  · obtain ⟨u, z⟩ := r.liv a (List.mem_of_getElem? e2)
    have g0 : Gr0 G { G with P := (p, o) :: G.P } := ⟨fun _ _ h => h, [], (List.append_nil _).symm⟩
    exact (MOk.mono0 g0 (r.mem k mo a e1 e2)).at (upd_ne (np z))
  · obtain ⟨u, z⟩ := r.liv a ha
    exact ⟨u, by rw [upd_ne (np z)]; exact z⟩
  · rcases List.mem_cons.mp hq with rfl | hq
    · refine ⟨upd_same, r.fz.free hp, fun z => ?_, hT⟩
      obtain ⟨u, y⟩ := r.liv _ z
      rw [hp] at y
      cases y
    · obtain ⟨h1, h2, h3⟩ := r.pin q hq
      exact ⟨by rw [upd_ne (np h1)]; exact h1, h2, h3⟩
theorem Rep.pinSet {p : Addr} {o o' : HO} {P : List (Addr × HO)} (r : Rep c { G with P := (p, o) :: P } H M) (hP : ∀ q ∈ P, q.1 ≠ p) (hT : noT o' := by trivial) : Rep c { G with P := (p, o') :: P } (upd H p o') M := by
  obtain ⟨h1, h2, h3⟩ := r.pin (p, o) List.mem_cons_self
  refine ⟨fun a u e => ?_, r.len, r.nd, fun k mo a e1 e2 => ?_, r.sep, fun a ha => ?_, fun q hq => ?_⟩
  · have e' : G.F a = some u := e
    rw [upd_ne (fun z => by rw [z] at e'; exact absurd (e'.symm.trans h2) (by simp))]
    exact r.fz a u e'
  · have na : a ≠ p := fun z => h3.1 (z ▸ List.mem_of_getElem? e2)
    have g0 : Gr0 { G with P := (p, o) :: P } { G with P := (p, o') :: P } := ⟨fun _ _ h => h, [], (List.append_nil _).symm⟩
    exact (MOk.mono0 g0 (r.mem k mo a e1 e2)).at (upd_ne na)
  · obtain ⟨u, z⟩ := r.liv a ha
    have na : a ≠ p := fun y => h3.1 (y ▸ ha)
    exact ⟨u, by rw [upd_ne na]; exact z⟩
  · rcases List.mem_cons.mp hq with rfl | hq
    · exact ⟨upd_same, h2, h3.1, hT⟩
    · obtain ⟨q1, q2, q3⟩ := r.pin q (List.mem_cons_of_mem _ hq)
      exact ⟨by rw [upd_ne (hP q hq)]; exact q1, q2, q3⟩
/-- .. as a thing that will not change any more -/
theorem Rep.pinF {p : Addr} {o : HO} {P : List (Addr × HO)} (r : Rep c { G with P := (p, o) :: P } H M) (hP : ∀ q ∈ P, q.1 ≠ p) : Rep c { G with F := upd G.F p o, P := P } H M := by
  obtain ⟨h1, h2, h3⟩ := r.pin (p, o) List.mem_cons_self
  have hF : G.F p = none := h2
  have g : Gr0 { G with P := (p, o) :: P } { G with F := upd G.F p o, P := P } := ⟨fun a u e => by show upd G.F p o a = some u; rw [upd_ne (ne_of_none e hF)]; exact e, [], (List.append_nil _).symm⟩
  refine ⟨fun a u e => ?_, r.len, r.nd, fun k mo a e1 e2 => (r.mem k mo a e1 e2).mono0 g, fun k mo a e1 e2 l => ?_, r.liv, fun q hq => ?_⟩
  · by_cases z : a = p
    · subst z
      have e' : upd G.F a o a = some u := e
      rw [upd_same] at e'
      exact .inl (h1.trans e')
    · have e' : upd G.F p o a = some u := e
      rw [upd_ne z] at e'
      exact r.fz a u e'
  · show upd G.F p o a = none
    have na : a ≠ p := fun z => h3.1 (z ▸ List.mem_of_getElem? e2)
    rw [upd_ne na]
    exact r.sep k mo a e1 e2 l
  · obtain ⟨q1, q2, q3⟩ := r.pin q (List.mem_cons_of_mem _ hq)
    exact ⟨q1, by show upd G.F p o q.1 = none; rw [upd_ne (hP q hq)]; exact q2, q3⟩
/-- .. as a thing that may change -/
theorem Rep.pinP {p : Addr} {o : HO} {P : List (Addr × HO)} {mo : MO} (r : Rep c { G with P := (p, o) :: P } H M) (hP : ∀ q ∈ P, q.1 ≠ p) (hm : MOk c { G with θ := G.θ ++ [p], P := P } H mo p) : Rep c { G with θ := G.θ ++ [p], P := P } H (M ++ [mo]) := by
  obtain ⟨h1, h2, h3⟩ := r.pin (p, o) List.mem_cons_self
  have hl : G.θ.length = M.length := r.len
  have gt : ∀ {k : Nat} {a : Addr} {x : MO}, (M ++ [mo])[k]? = some x → (G.θ ++ [p])[k]? = some a → (M[k]? = some x ∧ G.θ[k]? = some a) ∨ (x = mo ∧ a = p) := fun {k a x} e1 e2 => by
    by_cases hk : k < M.length
    · rw [List.getElem?_append_left hk] at e1
      rw [List.getElem?_append_left (by rw [hl]; exact hk)] at e2
      exact .inl ⟨e1, e2⟩
    · have hk1 : M.length ≤ k := Nat.le_of_not_lt hk
      rw [List.getElem?_append_right hk1] at e1
      rw [List.getElem?_append_right (by rw [hl]; exact hk1), hl] at e2
      cases q : k - M.length with
      | zero =>
        rw [q] at e1 e2
        exact .inr ⟨(Option.some.inj e1).symm, (Option.some.inj e2).symm⟩
      | succ n =>
        rw [q] at e1
        simp at e1
  refine ⟨r.fz, by simp [hl], ?_, fun k x a e1 e2 => ?_, fun k x a e1 e2 l => ?_, fun a ha => ?_, fun q hq => ?_⟩
  · show (G.θ ++ [p]).Nodup
    rw [List.nodup_append]
    exact ⟨r.nd, by simp, fun a ha b hb => by rw [List.mem_singleton.mp hb]; exact fun z => h3.1 (z ▸ ha)⟩
  · rcases gt e1 e2 with ⟨q1, q2⟩ | ⟨rfl, rfl⟩
    · have g0 : Gr0 { G with P := (p, o) :: P } { G with θ := G.θ ++ [p], P := P } := ⟨fun _ _ h => h, [p], rfl⟩
      exact MOk.mono0 g0 (r.mem k x a q1 q2)
    · exact hm
  · rcases gt e1 e2 with ⟨q1, q2⟩ | ⟨rfl, rfl⟩
    · exact r.sep k x a q1 q2 l
    · exact h2
  · rcases List.mem_append.mp ha with q | q
    · exact r.liv a q
    · rw [List.mem_singleton.mp q]
      exact ⟨o, h1⟩
  · obtain ⟨q1, q2, q3⟩ := r.pin q (List.mem_cons_of_mem _ hq)
    refine ⟨q1, q2, fun z => ?_, q3.2⟩
    rcases List.mem_append.mp z with y | y
    · exact q3.1 y
    · exact hP q hq (List.mem_singleton.mp y)
end

/-! ### slots -/
def SlR (c : Cn) (G : Gd) (S : Sl) (σ : St) : Prop := σ.length = S.length ∧ ∀ (i : Nat) d, S[i]? = some (some d) → ∃ v, σ[i]? = some (some v) ∧ DV c G d v
section
variable {c : Cn} {G G' : Gd} {S : Sl} {σ : St}
theorem SlR.mono (g : Gr G G') (h : SlR c G S σ) : SlR c G' S σ := ⟨h.1, fun i d e => let ⟨v, q, r⟩ := h.2 i d e; ⟨v, q, r.mono g⟩⟩
theorem SlR.set (h : SlR c G S σ) {i : Nat} {d : D} {v : V} (r : DV c G d v) : SlR c G (S.set i (some d)) (σ.set i (some v)) := by
  refine ⟨by rw [List.length_set, List.length_set]; exact h.1, fun j e q => ?_⟩
  by_cases z : i = j
  · subst z
    have hl : i < S.length := by
      have := (List.getElem?_eq_some_iff.mp q).1
      rwa [List.length_set] at this
    rw [List.getElem?_set_self hl] at q
    have q' := Option.some.inj (Option.some.inj q)
    subst q'
    exact ⟨v, by rw [List.getElem?_set_self (by rw [h.1]; exact hl)], r⟩
  · rw [List.getElem?_set_ne z] at q
    rw [List.getElem?_set_ne z]
    exact h.2 j e q
theorem SlR.off (h : SlR c G S σ) (i : Nat) : SlR c G (S.set i none) σ := by
  refine ⟨by rw [List.length_set]; exact h.1, fun j e q => ?_⟩
  by_cases z : i = j
  · subst z
    have hl : i < S.length := by
      have := (List.getElem?_eq_some_iff.mp q).1
      rwa [List.length_set] at this
    rw [List.getElem?_set_self hl] at q
    cases Option.some.inj q
  · rw [List.getElem?_set_ne z] at q
    exact h.2 j e q
/-- slots are forgotten -/
def kl (vs : List Nat) (S : Sl) : Sl := match vs with
  | [] => S
  | i :: r => kl r (S.set i none)
theorem SlR.kl : ∀ {vs : List Nat} {S : Sl}, SlR c G S σ → SlR c G (kl vs S) σ
  | [], _, h => h
  | i :: r, _, h => SlR.kl (vs := r) (h.off i)
end

/-! ### exceptions -/
def ExV (c : Cn) (G : Gd) (x : Ex) (cls : Value) (d : Option Addr) : Prop := ∃ C, c.mg x.c = some (.ref C) ∧ cls = .ref C ∧ (x.fs = [] ∧ d = none ∨ x.fs ≠ [] ∧ ∃ a ws, d = some a ∧ G.F a = some (.xd ws) ∧ DVf c G x.fs ws)
theorem ExV.mono {c : Cn} {G G' : Gd} (g : Gr G G') {x : Ex} {cls : Value} {d : Option Addr} (h : ExV c G x cls d) : ExV c G' x cls d := by
  obtain ⟨C, m, e, h⟩ := h
  rcases h with h | ⟨nn, a, ws, e1, e2, r⟩
  · exact ⟨C, m, e, .inl h⟩
  · exact ⟨C, m, e, .inr ⟨nn, a, ws, e1, g.F _ _ e2, r.mono g⟩⟩

/-! ### what is wanted behind -/
section
variable {α β α' β' : Type}
def Post (c : Cn) (W : WX) (σ : St) (G : Gd) (rel : Gd → α → β → Prop) (r : Res α) (Q : β → Hp → Prop) : Prop := match r with
  | .ok d M => ∀ G' v H, Gr G G' → Rep c G' H M → rel G' d v → Q v H
  | .rz x M => ∀ G' cls dd H, Gr G G' → Rep c G' H M → ExV c G' x cls dd → W cls dd σ H
  | .bad => False
def Up (c : Cn) (W : WX) (rel : Gd → α → β → Prop) (e : Sl → Mem → Res α) : St → Hp → (β → Hp → Prop) → Prop := fun σ H Q =>
  ∃ G S M, Rep c G H M ∧ SlR c G S σ ∧ Post c W σ G rel (e S M) Q
variable {c : Cn} {W : WX} {σ : St} {G G' : Gd} {H : Hp} {rel : Gd → α → β → Prop} {rel' : Gd → α' → β' → Prop}
theorem Post.mono {r : Res α} {Q : β → Hp → Prop} (g : Gr G G') (h : Post c W σ G rel r Q) : Post c W σ G' rel r Q := by
  cases r with
  | ok d M => exact fun G2 v H g2 r q => h G2 v H (g.trans g2) r q
  | rz x M => exact fun G2 cls dd H g2 r q => h G2 cls dd H (g.trans g2) r q
  | bad => exact h
theorem Post.imp {r : Res α} {Q Q' : β → Hp → Prop} (h : Post c W σ G rel r Q) (k : ∀ v H, Q v H → Q' v H) : Post c W σ G rel r Q' := by
  cases r with
  | ok d M => exact fun G2 v H g2 r q => k _ _ (h G2 v H g2 r q)
  | rz x M => exact h
  | bad => exact h
theorem Post.bind {r : Res α} {k : α → Mem → Res α'} {Q : β' → Hp → Prop} (h : Post c W σ G rel' (r.bind k) Q) :
    Post c W σ G rel r (fun v H => ∃ G' d M, Gr G G' ∧ Rep c G' H M ∧ rel G' d v ∧ Post c W σ G' rel' (k d M) Q) := by
  cases r with
  | ok d M => exact fun G2 v H g2 r q => ⟨G2, d, M, g2, r, q, Post.mono g2 h⟩
  | rz x M => exact h
  | bad => exact h
theorem Up.imp {e : Sl → Mem → Res α} {Q Q' : β → Hp → Prop} (h : Up c W rel e σ H Q) (k : ∀ v H, Q v H → Q' v H) : Up c W rel e σ H Q' :=
  let ⟨G, S, M, r, s, p⟩ := h; ⟨G, S, M, r, s, p.imp k⟩
/-- one part, then the rest -/
theorem Up.bind {e : Sl → Mem → Res α} {k : Sl → α → Mem → Res α'} {Q : β' → Hp → Prop} (h : Up c W rel' (fun S M => (e S M).bind (k S)) σ H Q) :
    Up c W rel e σ H (fun v H' => ∃ G S d M, Rep c G H' M ∧ SlR c G S σ ∧ rel G d v ∧ Post c W σ G rel' (k S d M) Q) := by
  obtain ⟨G, S, M, r, s, p⟩ := h
  exact ⟨G, S, M, r, s, (Post.bind p).imp fun v H' ⟨G', d, M', g, r', q, p'⟩ => ⟨G', S, d, M', r', s.mono g, q, p'⟩⟩
end

/-! ### the judgements -/
abbrev cn (X : Cx) : Cn := ⟨X.K, X.mg⟩
def QE (X : Cx) (W : WX) (e : Expr) (f : EF) : Prop := PE X e (Up (cn X) W (DV (cn X)) f)
def QT (X : Cx) (W : WX) (e : Expr) (f : BF) : Prop := PT X e (Up (cn X) W (fun _ (a b : Bool) => a = b) f)
def QW (X : Cx) (W : WX) (e : Expr) (f : BF) : Prop := PW X e (Up (cn X) W (fun _ (a b : Bool) => a = b) f)
def QA (X : Cx) (W : WX) (es : List Expr) (f : AF) : Prop := PA X es (Up (cn X) W (DVs (cn X)) f)
theorem PE.imp {X : Cx} {e : Expr} {t t' : TE} (h : PE X e t) (k : ∀ σ H Q, t' σ H Q → t σ H Q) : PE X e t' := ⟨fun pins s σ H Q I z => h.run pins s σ H Q I (k σ H Q z)⟩
theorem PT.imp {X : Cx} {e : Expr} {t t' : TT} (h : PT X e t) (k : ∀ σ H Q, t' σ H Q → t σ H Q) : PT X e t' := ⟨fun pins s σ H Q I z => h.run pins s σ H Q I (k σ H Q z)⟩
theorem PW.imp {X : Cx} {e : Expr} {t t' : TT} (h : PW X e t) (k : ∀ σ H Q, t' σ H Q → t σ H Q) : PW X e t' := ⟨fun wh pins s σ H Q I z => h.run wh pins s σ H Q I (k σ H Q z)⟩
theorem PA.imp {X : Cx} {e : List Expr} {t t' : TA} (h : PA X e t) (k : ∀ σ H Q, t' σ H Q → t σ H Q) : PA X e t' := ⟨fun p pins s σ H Q I z => h.run p pins s σ H Q I (k σ H Q z)⟩
theorem PS.imp {X : Cx} {e : Stmt} {t t' : TS} (h : PS X e t) (k : ∀ D σ H, t' D σ H → t D σ H) : PS X e t' := ⟨fun pins s σ H D I z => h.run pins s σ H D I (k D σ H z)⟩
theorem PSs.imp {X : Cx} {e : List Stmt} {t t' : TS} (h : PSs X e t) (k : ∀ D σ H, t' D σ H → t D σ H) : PSs X e t' := ⟨fun pins s σ H D I z => h.run pins s σ H D I (k D σ H z)⟩

/-- the thing that e gives is locked, if that is wanted -/
def tLkO (t : TE) : TE := fun σ H Q => t σ H fun v H1 => Q v H1 ∨ ∃ d u, H1 d = some u ∧ Mut (some u) ∧ ∀ od, Q v (upd H1 d (.frz od u))
theorem pe_lkO {X : Cx} {e : Expr} {t : TE} (h : PE X e t) : PE X e (tLkO t) := ⟨fun pins s σ H Q I z => thn (h.run pins s σ H _ I z) fun u s1 ⟨v, H1, I1, r, q⟩ => by
  rcases q with q | ⟨d, w, e1, mu, q⟩
  · exact ⟨v, H1, I1, r, q⟩
  · obtain ⟨od, I2⟩ := I1.lock e1 mu
    exact ⟨v, _, I2, r, q od⟩⟩

/-! ### names, constants -/
def eVar (i : Nat) : EF := fun S M => match S[i]? with
  | some (some d) => .ok d M
  | _ => .bad
def eC (d : D) : EF := fun _ M => .ok d M
section
variable {X : Cx} {W : WX} {pos : Pos}
theorem qv (i : Nat) {x : Str} (hN : X.N[i]? = some x := by rfl) (hv : Vis X.env.scope x := by first | exact Or.inl rfl | exact Or.inr (Or.inl rfl) | exact Or.inr (Or.inr rfl)) (hd : (x == ("__debug__" : Str)) = false := by decide)
    (hcd : (x == ("__classdict__" : Str)) = false := by decide) : QE X W (.Name x pos) (eVar i) := by
  refine PE.imp (pe_var hN hv hd hcd) fun σ H Q h => ?_
  obtain ⟨G, S, M, r, s, p⟩ := h
  unfold eVar at p
  split at p
  · rename_i d hd
    obtain ⟨v, e, q⟩ := s.2 i d hd
    exact ⟨v, e, p G v H (Gr.refl G) r q⟩
  · exact p.elim
theorem up_c {c : Cn} {d : D} {v : V} {σ : St} {H : Hp} {Q : VK} (h : Up c W (DV c) (eC d) σ H Q) (hd : ∀ G, DV c G d v) : tC v σ H Q := by
  obtain ⟨G, S, M, r, s, p⟩ := h
  exact p G v H (Gr.refl G) r (hd G)
theorem qint {i : Int} {j} : QE X W (.Constant (.int i) j pos) (eC (.int i)) := PE.imp pe_int fun σ H Q h => up_c h fun _ => rfl
theorem qbl {b j} : QE X W (.Constant (.bool b) j pos) (eC (.bl b)) := PE.imp pe_bl fun σ H Q h => up_c h fun _ => rfl
theorem qnon {j} : QE X W (.Constant .none j pos) (eC .non) := PE.imp pe_non fun σ H Q h => up_c h fun _ => rfl
theorem qstr {x j} : QE X W (.Constant (.str x) j pos) (eC (.str x)) := PE.imp pe_str fun σ H Q h => up_c h fun _ => rfl
/-- a module's constant -/
theorem qglobI {x : Str} {i : Int} {t : Tok} (hg : Gl X x) (hm : X.mg x = some (.int i t)) (hd : (x == ("__debug__" : Str)) = false := by decide) : QE X W (.Name x pos) (eC (.int i)) :=
  PE.imp (pe_glob (v := .int i) hg hm ⟨t, rfl⟩ hd) fun σ H Q h => up_c h fun _ => rfl
theorem qglobS {x : Str} {i : Str} {t : Tok} (hg : Gl X x) (hm : X.mg x = some (.str i t)) (hd : (x == ("__debug__" : Str)) = false := by decide) : QE X W (.Name x pos) (eC (.str i)) :=
  PE.imp (pe_glob (v := .str i) hg hm ⟨t, rfl⟩ hd) fun σ H Q h => up_c h fun _ => rfl
end

/-! ### argument lists, tuples, lists -/
def aNil : AF := fun _ M => .ok [] M
def aCons (e : EF) (r : AF) : AF := fun S M => (e S M).bind fun d M1 => (r S M1).bind fun ds M2 => .ok (d :: ds) M2
def eTup (a : AF) : EF := fun S M => (a S M).bind fun ds M1 => if ds.length ≤ sizeLine then .ok (.tup ds) M1 else .bad
/-- a list that will not change -/
def eLst (a : AF) : EF := fun S M => (a S M).bind fun ds M1 => if ds.length ≤ sizeLine then .ok (.lst ds) M1 else .bad
/-- a list that may change -/
def eLstP (a : AF) : EF := fun S M => (a S M).bind fun ds M1 => if ds.length ≤ sizeLine then .ok (.ptr M1.length) (M1 ++ [.lst ds]) else .bad
section
variable {X : Cx} {W : WX} {pos : Pos} {e : Expr} {es : List Expr} {f : EF} {a : AF}
theorem qa_nil : QA X W [] aNil := PA.imp pa_nil fun σ H Q h => by
  obtain ⟨G, S, M, r, s, p⟩ := h
  exact p G [] H (Gr.refl G) r rfl
theorem qa_cons (h1 : QE X W e f) (h2 : QA X W es a) (hs : starEach (e :: es) X.env = (false, eval e X.env) :: starEach es X.env := by rfl) : QA X W (e :: es) (aCons f a) := PA.imp (pa_cons h1 h2 hs) fun σ H Q h => by
  refine Up.imp (Up.bind h) fun v H1 ⟨G, S, d, M, r, s, q, p⟩ => ?_
  refine ⟨G, S, M, r, s, (Post.bind (rel := DVs (cn X)) p).imp fun vs H2 ⟨G2, ds, M2, g2, r2, q2, p2⟩ => ?_⟩
  exact p2 G2 _ H2 (Gr.refl _) r2 (DVs.cons (q.mono g2) q2)
theorem qtup {x1} (h : QA X W es a) : QE X W (.Tuple es x1 pos) (eTup a) := PE.imp (pe_tup h) fun σ H Q h => by
  refine Up.imp (Up.bind h) fun vs H1 ⟨G, S, ds, M, r, s, q, p⟩ => ?_
  split at p
  · rename_i hz
    refine ⟨by rw [q.length]; exact hz, fun a ha => ?_⟩
    have g : Gr G { G with F := upd G.F a (.tup vs) } := Gr.newF (r.fz.free ha)
    exact p _ _ _ g (r.newF ha) ⟨a, vs, rfl, upd_same, q.mono g⟩
  · exact p.elim
theorem qlst (h : QA X W es a) : QE X W (.List es pos) (eLst a) := PE.imp (pe_lst h) fun σ H Q h => by
  refine Up.imp (Up.bind h) fun vs H1 ⟨G, S, ds, M, r, s, q, p⟩ => ?_
  split at p
  · rename_i hz
    refine ⟨by rw [q.length]; exact hz, fun a ha => ?_⟩
    have g : Gr G { G with F := upd G.F a (.lst vs) } := Gr.newF (r.fz.free ha)
    exact p _ _ _ g (r.newF ha) ⟨a, vs, rfl, .inl (.inl upd_same), q.mono g⟩
  · exact p.elim
theorem qlstP (h : QA X W es a) : QE X W (.List es pos) (eLstP a) := PE.imp (pe_lst h) fun σ H Q h => by
  refine Up.imp (Up.bind h) fun vs H1 ⟨G, S, ds, M, r, s, q, p⟩ => ?_
  split at p
  · rename_i hz
    refine ⟨by rw [q.length]; exact hz, fun a ha => ?_⟩
    have g := Gr.newP (G := G) a
    refine p _ _ _ g (r.newP ha (mo := .lst ds) ⟨vs, upd_same, q.mono g⟩) ⟨a, ?_, rfl⟩
    show (G.θ ++ [a])[M.length]? = some a
    rw [List.getElem?_append_right (by rw [r.len]; exact Nat.le_refl _), r.len, Nat.sub_self]
    rfl
  · exact p.elim
end

/-! ### operators, by values -/
/-- f, on data, is what r asks on values -/
def R2s (c : Cn) (f : D → D → Mem → Res D) (r : R2) : Prop := ∀ (W : WX) (σ : St) (G : Gd) (H : Hp) (M : Mem) (x y : V) (dx dy : D) (Q : VK), Rep c G H M → DV c G dx x → DV c G dy y → Post c W σ G (DV c) (f dx dy M) Q → r x y H Q
def e2 (f : D → D → Mem → Res D) (a b : EF) : EF := fun S M => (a S M).bind fun x M1 => (b S M1).bind fun y M2 => f x y M2
theorem up_op {c : Cn} {W : WX} {f : D → D → Mem → Res D} {r : R2} {a b : EF} {σ : St} {H : Hp} {Q : VK} (hr : R2s c f r) (h : Up c W (DV c) (e2 f a b) σ H Q) : tOp r (Up c W (DV c) a) (Up c W (DV c) b) σ H Q := by
  refine Up.imp (Up.bind h) fun v H1 ⟨G, S, d, M, r1, s, q, p⟩ => ?_
  refine ⟨G, S, M, r1, s, (Post.bind (rel := DV c) p).imp fun u H2 ⟨G2, d2, M2, g2, r2, q2, p2⟩ => ?_⟩
  exact hr W σ G2 H2 M2 v u d d2 Q r2 (q.mono g2) q2 p2
section
variable {X : Cx} {W : WX} {pos : Pos} {a b : Expr} {fa fb : EF} {f : D → D → Mem → Res D} {r : R2}
theorem q_op {op : Operator} (ho : OpR X (binaryOp op) r) (hr : R2s (cn X) f r) (ha : QE X W a fa) (hb : QE X W b fb) : QE X W (.BinOp a op b pos) (e2 f fa fb) :=
  PE.imp (pe_op ho ha hb) fun _ _ _ h => up_op hr h
theorem q_cmp {op : CmpOp} (ho : OpR X (compareOp op) r) (hr : R2s (cn X) f r) (hm : behindInMarks op b = false) (ha : QE X W a fa) (hb : QE X W b fb) : QE X W (.Compare a [op] [b] pos) (e2 f fa fb) :=
  PE.imp (pe_cmpR ho ha hb hm) fun _ _ _ h => up_op hr h
theorem q_ix (ho : IxR X r) (hr : R2s (cn X) f r) (ha : QE X W a fa) (hb : QE X W b fb) (hs : PlainIx b := by exact fun _ _ => rfl) : QE X W (.Subscript a b pos) (e2 f fa fb) :=
  PE.imp (pe_ix ho ha hb hs) fun _ _ _ h => up_op hr h
end
/-- a value as a test -/
def bV (a : EF) : BF := fun S M => (a S M).bind fun x M1 => match x with
  | .bl b => .ok b M1
  | _ => .bad
def bNot (a : BF) : BF := fun S M => (a S M).bind fun x M1 => .ok (!x) M1
def bAnd (a b : BF) : BF := fun S M => (a S M).bind fun x M1 => if x = true then b S M1 else .ok false M1
def bOr (a b : BF) : BF := fun S M => (a S M).bind fun x M1 => if x = true then .ok true M1 else b S M1
def eNot (a : EF) : EF := fun S M => (a S M).bind fun x M1 => match x with
  | .bl b => .ok (.bl (!b)) M1
  | _ => .bad
def eAnd (a b : EF) : EF := fun S M => (a S M).bind fun x M1 => match x with
  | .bl true => b S M1
  | .bl false => .ok (.bl false) M1
  | _ => .bad
def eOr (a b : EF) : EF := fun S M => (a S M).bind fun x M1 => match x with
  | .bl true => .ok (.bl true) M1
  | .bl false => b S M1
  | _ => .bad
def eIf (t : BF) (a b : EF) : EF := fun S M => (t S M).bind fun x M1 => if x = true then a S M1 else b S M1
section
variable {X : Cx} {W : WX} {pos : Pos} {a b c : Expr} {rest : List Expr} {fa fb : EF} {ta tb : BF}
theorem qt_val (h : QE X W a fa) (he : ∀ whole, isTrue a X.env whole = (do let v ← whole; standAt a.pos; holding [v] (truthy v)) := by intro _; rfl) : QT X W a (bV fa) := PT.imp (pt_val h he) fun σ H Q h => by
  refine Up.imp (Up.bind h) fun v H1 ⟨G, S, d, M, r1, s, q, p⟩ => ?_
  split at p
  · cases (show v = _ from q)
    exact ⟨_, rfl, p G _ H1 (Gr.refl _) r1 rfl⟩
  · exact p.elim
theorem qt_cmp {op : CmpOp} {f : D → D → Mem → Res D} {r : R2} (ho : OpR X (compareOp op) r) (hr : R2s (cn X) f r) (hm : behindInMarks op b = false) (ha : QE X W a fa) (hb : QE X W b fb) : QT X W (.Compare a [op] [b] pos) (bV (e2 f fa fb)) :=
  PT.imp (pt_cmpR ho ha hb hm) fun σ H Q h => by
    have h2 := Up.bind (rel := DV (cn X)) h
    refine up_op hr (Up.imp h2 fun v H1 ⟨G, S, d, M, r1, s, q, p⟩ => ?_)
    split at p
    · cases (show v = _ from q)
      exact ⟨_, rfl, p G _ H1 (Gr.refl _) r1 rfl⟩
    · exact p.elim
theorem qt_not (h : QT X W a ta) : QT X W (.UnaryOp .Not a pos) (bNot ta) := PT.imp (pt_not h) fun σ H Q h => by
  refine Up.imp (Up.bind h) fun v H1 ⟨G, S, d, M, r1, s, q, p⟩ => ?_
  subst q
  exact p G _ H1 (Gr.refl _) r1 rfl
theorem qw_and1 (h : QT X W a ta) : QW X W (.BoolOp .And [a] pos) ta := pw_and1 h
theorem qw_or1 (h : QT X W a ta) : QW X W (.BoolOp .Or [a] pos) ta := pw_or1 h
theorem qw_and (ha : QT X W a ta) (hb : QW X W (.BoolOp .And (b :: rest) pos) tb) : QW X W (.BoolOp .And (a :: b :: rest) pos) (bAnd ta tb) := PW.imp (pw_and ha hb) fun σ H Q h => by
  refine Up.imp (Up.bind h) fun v H1 ⟨G, S, d, M, r1, s, q, p⟩ => ?_
  subst q
  cases d with
  | true => exact ⟨G, S, M, r1, s, p⟩
  | false => exact p G _ H1 (Gr.refl _) r1 rfl
theorem qw_or (ha : QT X W a ta) (hb : QW X W (.BoolOp .Or (b :: rest) pos) tb) : QW X W (.BoolOp .Or (a :: b :: rest) pos) (bOr ta tb) := PW.imp (pw_or ha hb) fun σ H Q h => by
  refine Up.imp (Up.bind h) fun v H1 ⟨G, S, d, M, r1, s, q, p⟩ => ?_
  subst q
  cases d with
  | true => exact p G _ H1 (Gr.refl _) r1 rfl
  | false => exact ⟨G, S, M, r1, s, p⟩
theorem qt_w (h : QW X W a ta) : QT X W a ta := PW.pt h
theorem q_one {op} (h : QE X W a fa) : QE X W (.BoolOp op [a] pos) fa := pe_one h
theorem q_and (ha : QE X W a fa) (hb : QE X W (.BoolOp .And (b :: rest) pos) fb) : QE X W (.BoolOp .And (a :: b :: rest) pos) (eAnd fa fb) := PE.imp (pe_and ha hb) fun σ H Q h => by
  refine Up.imp (Up.bind h) fun v H1 ⟨G, S, d, M, r1, s, q, p⟩ => ?_
  split at p
  · cases (show v = _ from q)
    exact ⟨true, rfl, ⟨G, S, M, r1, s, p⟩⟩
  · cases (show v = _ from q)
    exact ⟨false, rfl, p G _ H1 (Gr.refl _) r1 rfl⟩
  · exact p.elim
theorem q_not (ha : QE X W a fa) : QE X W (.UnaryOp .Not a pos) (eNot fa) := PE.imp (pe_not ha) fun σ H Q h => by
  refine Up.imp (Up.bind h) fun v H1 ⟨G, S, d, M, r1, s, q, p⟩ => ?_
  split at p
  · cases (show v = _ from q)
    exact ⟨_, rfl, p G _ H1 (Gr.refl _) r1 rfl⟩
  · exact p.elim
theorem q_if (ht : QT X W c ta) (ha : QE X W a fa) (hb : QE X W b fb) : QE X W (.IfExp c a b pos) (eIf ta fa fb) := PE.imp (pe_ifExp ht ha hb) fun σ H Q h => by
  refine Up.imp (Up.bind h) fun v H1 ⟨G, S, d, M, r1, s, q, p⟩ => ?_
  subst q
  cases d with
  | true => exact ⟨G, S, M, r1, s, p⟩
  | false => exact ⟨G, S, M, r1, s, p⟩
end
end QL
end
section
set_option Elab.async false
set_option linter.all false
set_option maxRecDepth 100000
set_option maxHeartbeats 4000000
/-! QStmt: statements, calls, defs. -/
namespace QL
open PySem PySem.Spec L2

def PostS (c : Cn) (W : WX) (G : Gd) (D : Ends) (r : SR) : Prop := match r with
  | .nx S M => ∀ G' σ H, Gr G G' → Rep c G' H M → SlR c G' S σ → D.nx σ H
  | .rt d M => ∀ G' v H, Gr G G' → Rep c G' H M → DV c G' d v → D.rt v H
  | .bk S M => ∀ G' σ H, Gr G G' → Rep c G' H M → SlR c G' S σ → D.bk σ H
  | .ct S M => ∀ G' σ H, Gr G G' → Rep c G' H M → SlR c G' S σ → D.ct σ H
  | .rz x S M => ∀ G' cls dd σ H, Gr G G' → Rep c G' H M → SlR c G' S σ → ExV c G' x cls dd → W cls dd σ H
  | .bad => False
def UpS (c : Cn) (W : WX) (t : TF) : TS := fun D σ H => ∃ G S M, Rep c G H M ∧ SlR c G S σ ∧ PostS c W G D (t S M)
def QS (X : Cx) (W : WX) (st : Stmt) (t : TF) : Prop := PS X st (UpS (cn X) W t)
def QSs (X : Cx) (W : WX) (st : List Stmt) (t : TF) : Prop := PSs X st (UpS (cn X) W t)
/-- behind a part: what the part raises is raised -/
def Res.thn {α : Type} (r : Res α) (S : Sl) (k : α → Mem → SR) : SR := match r with
  | .ok a M => k a M
  | .rz x M => .rz x S M
  | .bad => .bad
def SR.thn (r : SR) (k : Sl → Mem → SR) : SR := match r with
  | .nx S M => k S M
  | r => r
section
variable {c : Cn} {W : WX} {G G' : Gd} {σ : St} {H : Hp} {D : Ends} {S : Sl} {M : Mem}
theorem PostS.mono {r : SR} (g : Gr G G') (h : PostS c W G D r) : PostS c W G' D r := by
  cases r with
  | nx S M => exact fun G2 σ H g2 r s => h G2 σ H (g.trans g2) r s
  | rt d M => exact fun G2 σ H g2 r s => h G2 σ H (g.trans g2) r s
  | bk S M => exact fun G2 σ H g2 r s => h G2 σ H (g.trans g2) r s
  | ct S M => exact fun G2 σ H g2 r s => h G2 σ H (g.trans g2) r s
  | rz x S M => exact fun G2 cls dd σ H g2 r s => h G2 cls dd σ H (g.trans g2) r s
  | bad => exact h
theorem PostS.thnE {α β : Type} {rel : Gd → α → β → Prop} {r : Res α} {k : α → Mem → SR} (s : SlR c G S σ) (h : PostS c W G D (r.thn S k)) :
    Post c W σ G rel r (fun v H => ∃ G' d M, Gr G G' ∧ Rep c G' H M ∧ rel G' d v ∧ PostS c W G' D (k d M)) := by
  cases r with
  | ok d M => exact fun G2 v H g2 r q => ⟨G2, d, M, g2, r, q, PostS.mono g2 h⟩
  | rz x M => exact fun G2 cls dd H g2 r q => h G2 cls dd σ H g2 r (s.mono g2) q
  | bad => exact h
theorem PostS.thnS {r : SR} {k : Sl → Mem → SR} (h : PostS c W G D (r.thn k)) : PostS c W G { D with nx := fun σ H => ∃ G' S M, Gr G G' ∧ Rep c G' H M ∧ SlR c G' S σ ∧ PostS c W G' D (k S M) } r := by
  cases r with
  | nx S M => exact fun G2 σ H g2 r s => ⟨G2, S, M, g2, r, s, PostS.mono g2 h⟩
  | rt d M => exact h
  | bk S M => exact h
  | ct S M => exact h
  | rz x S M => exact h
  | bad => exact h
theorem PostS.ends {r : SR} {D' : Ends} (h : PostS c W G D r) (h1 : ∀ σ H, D.nx σ H → D'.nx σ H) (h2 : ∀ σ H, D.rt σ H → D'.rt σ H) (h3 : ∀ σ H, D.bk σ H → D'.bk σ H) (h4 : ∀ σ H, D.ct σ H → D'.ct σ H) : PostS c W G D' r := by
  cases r with
  | nx S M => exact fun G2 σ H g2 r s => h1 _ _ (h G2 σ H g2 r s)
  | rt d M => exact fun G2 σ H g2 r s => h2 _ _ (h G2 σ H g2 r s)
  | bk S M => exact fun G2 σ H g2 r s => h3 _ _ (h G2 σ H g2 r s)
  | ct S M => exact fun G2 σ H g2 r s => h4 _ _ (h G2 σ H g2 r s)
  | rz x S M => exact h
  | bad => exact h
/-- a part of a statement, then what follows of it -/
theorem UpS.thn {α β : Type} {rel : Gd → α → β → Prop} {e : Sl → Mem → Res α} {k : Sl → α → Mem → SR} (h : UpS c W (fun S M => (e S M).thn S (k S)) D σ H) :
    Up c W rel e σ H (fun v H' => ∃ G S d M, Rep c G H' M ∧ SlR c G S σ ∧ rel G d v ∧ PostS c W G D (k S d M)) := by
  obtain ⟨G, S, M, r, s, p⟩ := h
  exact ⟨G, S, M, r, s, (PostS.thnE s p).imp fun v H' ⟨G', d, M', g, r', q, p'⟩ => ⟨G', S, d, M', r', s.mono g, q, p'⟩⟩
end

/-! ### blocks -/
def kNil : TF := fun S M => .nx S M
def kSeq (t u : TF) : TF := fun S M => (t S M).thn u
def kRet (e : EF) : TF := fun S M => (e S M).thn S fun d M1 => .rt d M1
def kRetN : TF := fun _ M => .rt .non M
def kDrop (e : EF) : TF := fun S M => (e S M).thn S fun _ M1 => .nx S M1
def kIf (b : BF) (t u : TF) : TF := fun S M => (b S M).thn S fun x M1 => if x = true then t S M1 else u S M1
def kBreak : TF := fun S M => .bk S M
def kCont : TF := fun S M => .ct S M
def kNever : TF := fun _ _ => .bad
/-- slots are forgotten ahead of a statement -/
def kKl (vs : List Nat) (t : TF) : TF := fun S M => t (kl vs S) M
section
variable {X : Cx} {W : WX} {pos : Pos} {st : Stmt} {rest : List Stmt} {t u : TF} {e : Expr} {f : EF} {b : BF}
theorem qs_nil : QSs X W [] kNil := PSs.imp pss_nil fun D σ H h => by
  obtain ⟨G, S, M, r, s, p⟩ := h
  exact p G σ H (Gr.refl G) r s
theorem qs_cons (h1 : QS X W st t) (h2 : QSs X W rest u) : QSs X W (st :: rest) (kSeq t u) := PSs.imp (pss_cons h1 h2) fun D σ H h => by
  obtain ⟨G, S, M, r, s, p⟩ := h
  refine ⟨G, S, M, r, s, (PostS.thnS p).ends (fun σ H ⟨G', S', M', g, r', s', p'⟩ => ⟨G', S', M', r', s', p'⟩) (fun _ _ z => z) (fun _ _ z => z) (fun _ _ z => z)⟩
theorem qs_one (h1 : QS X W st t) : QSs X W [st] t := pss_one h1
theorem qnever : QS X W st kNever := PS.imp ps_never fun D σ H h => by
  obtain ⟨G, S, M, r, s, p⟩ := h
  exact p
theorem qret (h : QE X W e f) : QS X W (.Return (some e) pos) (kRet f) := PS.imp (ps_ret h) fun D σ H h => by
  refine Up.imp (UpS.thn h) fun v H1 ⟨G, S, d, M, r, s, q, p⟩ => ?_
  exact p G v H1 (Gr.refl G) r q
theorem qexpr (h : QE X W e f) (hs : swapsWith e none pos.line X.env = pure false := by rfl) : QS X W (.Expr e pos) (kDrop f) := PS.imp (ps_expr h hs) fun D σ H h => by
  refine Up.imp (UpS.thn h) fun v H1 ⟨G, S, d, M, r, s, q, p⟩ => ?_
  exact p G σ H1 (Gr.refl G) r s
theorem qif {c : Expr} {as bs : List Stmt} (hc : QT X W c b) (ha : QSs X W as t) (hb : QSs X W bs u) : QS X W (.If c as bs pos) (kIf b t u) := PS.imp (ps_if hc ha hb) fun D σ H h => by
  refine Up.imp (UpS.thn h) fun v H1 ⟨G, S, d, M, r, s, q, p⟩ => ?_
  subst q
  cases d with
  | true => exact ⟨G, S, M, r, s, p⟩
  | false => exact ⟨G, S, M, r, s, p⟩
end

/-! ### targets -/
abbrev GF := D → Sl → Mem → Res Sl
abbrev GsF := List D → Sl → Mem → Res Sl
def UpG (c : Cn) (W : WX) (g : GF) : TG := fun v σ H Q => ∃ G S M d, Rep c G H M ∧ SlR c G S σ ∧ DV c G d v ∧ Post c W σ G (SlR c) (g d S M) Q
def UpGs (c : Cn) (W : WX) (g : GsF) : TGs := fun v σ H Q => ∃ G S M d, Rep c G H M ∧ SlR c G S σ ∧ DVs c G d v ∧ Post c W σ G (SlR c) (g d S M) Q
def QG (X : Cx) (W : WX) (tg : Expr) (g : GF) : Prop := PG X tg (UpG (cn X) W g)
def QGs (X : Cx) (W : WX) (tg : List Expr) (g : GsF) : Prop := PGs X tg (UpGs (cn X) W g)
theorem PG.imp {X : Cx} {e : Expr} {t t' : TG} (h : PG X e t) (k : ∀ v σ H Q, t' v σ H Q → t v σ H Q) : PG X e t' := ⟨fun pins s σ H v u Q I r z => h.run pins s σ H v u Q I r (k v σ H Q z)⟩
theorem PGs.imp {X : Cx} {e : List Expr} {t t' : TGs} (h : PGs X e t) (k : ∀ v σ H Q, t' v σ H Q → t v σ H Q) : PGs X e t' := ⟨fun pins s σ H v u Q I r z => h.run pins s σ H v u Q I r (k v σ H Q z)⟩
def gN (i : Nat) : GF := fun d S M => .ok (S.set i (some d)) M
def gNilF : GsF := fun ds S M => match ds with
  | [] => .ok S M
  | _ => .bad
def gConsF (g : GF) (r : GsF) : GsF := fun ds S M => match ds with
  | d :: t => (g d S M).bind fun S1 M1 => r t S1 M1
  | _ => .bad
def gTupF (n : Nat) (g : GsF) : GF := fun d S M => match d with
  | .tup ds => if ds.length = n then g ds S M else .bad
  | _ => .bad
section
variable {X : Cx} {W : WX} {pos : Pos} {e : Expr} {es : List Expr} {g : GF} {gs : GsF}
theorem qg_name {i : Nat} {x : Str} (hN : X.N.Nodup) (hi : X.N[i]? = some x) (hx : Loc X.env.scope x := by first | exact .inl rfl | exact .inr rfl) (hf : X.fn x = true ∨ X.env.scope.names.lookup x = some .local := by first | exact .inl rfl | exact .inr rfl) : QG X W (.Name x pos) (gN i) := PG.imp (pg_name hN hi hx hf) fun v σ H Q h => by
  obtain ⟨G, S, M, d, r, s, q, p⟩ := h
  exact p G _ H (Gr.refl G) r (s.set q)
theorem qgs_nil : QGs X W [] gNilF := PGs.imp pgs_nil fun v σ H Q h => by
  obtain ⟨G, S, M, ds, r, s, q, p⟩ := h
  cases ds with
  | nil => exact ⟨q, p G σ H (Gr.refl G) r s⟩
  | cons d t => exact (show False from p).elim
theorem qgs_cons (h1 : QG X W e g) (h2 : QGs X W es gs) (hW : ∀ c d σ σ' H, W c d σ H → W c d σ' H := by exact fun _ _ _ _ _ z => z) (hs : (assignEach (e :: es) X.env).map (·.2) = assign e X.env :: (assignEach es X.env).map (·.2) := by rfl) : QGs X W (e :: es) (gConsF g gs) := PGs.imp (pgs_cons h1 h2 hs) fun vs σ H Q h => by
  obtain ⟨G, S, M, ds, r, s, q, p⟩ := h
  cases ds with
  | nil => exact (show False from p).elim
  | cons d t =>
    obtain ⟨v, vt, rfl, qd, qt⟩ := q
    refine ⟨v, vt, rfl, G, S, M, d, r, s, qd, (Post.bind (rel := SlR (cn X)) p).imp fun σ1 H1 ⟨G1, S1, M1, g1, r1, s1, p1⟩ => ?_⟩
    refine ⟨G1, S1, M1, t, r1, s1, qt.mono g1, ?_⟩
    cases e : gs t S1 M1 with
    | ok S2 M2 => rw [e] at p1; exact p1
    | rz x M2 => rw [e] at p1; exact fun G2 cls dd H2 g2 r2 q2 => hW _ _ _ _ _ (p1 G2 cls dd H2 g2 r2 q2)
    | bad => rw [e] at p1; exact p1
theorem qg_tup {k : Nat} {n : Nat} (hc : X.calm = true) (h : QGs X W es gs) (hn : (assignEach es X.env).length = n := by rfl) (hst : (assignEach es X.env).findIdx? (·.1) = none := by rfl) : QG X W (.Tuple es k pos) (gTupF n gs) := PG.imp (pg_tup hc h hn hst) fun v σ H Q h => by
  obtain ⟨G, S, M, d, r, s, q, p⟩ := h
  unfold gTupF at p
  split at p
  · rename_i ds
    split at p
    · rename_i hl
      obtain ⟨a, vs, rfl, hs, qs⟩ := q
      exact ⟨a, vs, rfl, .inl (.inl (r.fz.tup hs)), by rw [qs.length]; exact hl, G, S, M, ds, r, s, qs, p⟩
    · exact p.elim
  · exact p.elim
end

/-! ### assignments -/
def kAsg (e : EF) (g : GF) : TF := fun S M => (e S M).thn S fun d M1 => (g d S M1).thn S fun S2 M2 => .nx S2 M2
section
variable {X : Cx} {W : WX} {pos : Pos} {e tg : Expr} {f : EF} {g : GF}
theorem up_asg {c : Cn} {σ : St} {H : Hp} {D : Ends} (h : UpS c W (kAsg f g) D σ H) : tAsg (Up c W (DV c) f) (UpG c W g) D σ H := by
  refine Up.imp (UpS.thn h) fun v H1 ⟨G, S, d, M, r, s, q, p⟩ => ?_
  refine ⟨G, S, M, d, r, s, q, (PostS.thnE s p).imp fun σ2 H2 ⟨G2, S2, M2, g2, r2, s2, p2⟩ => ?_⟩
  exact p2 G2 σ2 H2 (Gr.refl _) r2 s2
theorem qasg (he : QE X W e f) (hg : QG X W tg g) (hs : swapsWithSole [tg] e pos.line X.env = pure false := by rfl) (hw : swappedStores [tg] e X.env = pure none := by rfl)
    (h1 : (assignEach [tg] X.env).map (·.2) = [assign tg X.env] := by rfl) : QS X W (.Assign [tg] e pos) (kAsg f g) := PS.imp (ps_asg he hg hs hw h1) fun _ _ _ h => up_asg h
theorem qset {i : Nat} {x : Str} {pos' : Pos} (hN : X.N.Nodup) (hi : X.N[i]? = some x) (he : QE X W e f) (hx : Loc X.env.scope x := by first | exact .inl rfl | exact .inr rfl) (hs : swapsWith e (some (.Name x pos')) pos.line X.env = pure false := by rfl)
    (hf : X.fn x = true ∨ X.env.scope.names.lookup x = some .local := by first | exact .inl rfl | exact .inr rfl) : QS X W (.Assign [.Name x pos'] e pos) (kAsg f (gN i)) := PS.imp (ps_set hN hi hx he hs hf) fun D σ H h => by
  refine Up.imp (UpS.thn h) fun v H1 ⟨G, S, d, M, r, s, q, p⟩ => ?_
  exact p G _ H1 (Gr.refl G) r (s.set q)
/-- a, b = e1, e2 -/
def kPar (i j : Nat) (a : AF) : TF := fun S M => (a S M).thn S fun ds M1 => match ds with
  | [d, e] => .nx ((S.set i (some d)).set j (some e)) M1
  | _ => .bad
theorem qpar {i j : Nat} {x y : Str} {a b : Expr} {ta : AF} {px py pt : Pos} {kt k2 pt2} (hc : X.calm = true) (hN : X.N.Nodup) (hi : X.N[i]? = some x) (hj : X.N[j]? = some y) (hij : i ≠ j)
    (ha : QA X W [a, b] ta) (hx : X.env.scope.names.lookup x = some .local := by rfl) (hy : X.env.scope.names.lookup y = some .local := by rfl)
    (hw : swappedStores [.Tuple [.Name x px, .Name y py] kt pt] (.Tuple [a, b] k2 pt2) X.env = pure (some [x, y]) := by rfl)
    (hs : swapsWithSole [.Tuple [.Name x px, .Name y py] kt pt] (.Tuple [a, b] k2 pt2) pos.line X.env = pure false := by rfl) :
    QS X W (.Assign [.Tuple [.Name x px, .Name y py] kt pt] (.Tuple [a, b] k2 pt2) pos) (kPar i j ta) := PS.imp (ps_par hc hN hi hj hij hx hy ha hw hs) fun D σ H h => by
  refine Up.imp (UpS.thn h) fun v H1 ⟨G, S, d, M, r, s, q, p⟩ => ?_
  split at p
  · rename_i d1 d2
    obtain ⟨v1, t, rfl, q1, v2, t2, rfl, q2, rfl⟩ := q
    exact ⟨v1, v2, rfl, p G _ H1 (Gr.refl G) r ((s.set q1).set q2)⟩
  · exact p.elim
/-- x op= e, on ints -/
def kAug (i : Nat) (e : EF) (o : Int → Int → Int) : TF := fun S M => match S[i]? with
  | some (some (.int a)) => (e S M).thn S fun d M1 => match d with
    | .int b => .nx (S.set i (some (.int (o a b)))) M1
    | _ => .bad
  | _ => .bad
end

/-! ### while -/
/-- at most n turns -/
def whN (b : BF) (t : TF) (vs : List Nat) : Nat → Sl → Mem → SR
  | 0, _, _ => .bad
  | n + 1, S, M => (b S M).thn S fun x M1 => if x = true then match t S M1 with
      | .nx S2 M2 => whN b t vs n (kl vs S2) M2
      | .ct S2 M2 => whN b t vs n (kl vs S2) M2
      | .bk S2 M2 => .nx S2 M2
      | r => r
    else .nx S M1
open Classical in
noncomputable def kWhile (b : BF) (t : TF) (vs : List Nat) : TF := fun S M => if h : ∃ n, whN b t vs n S M ≠ .bad then whN b t vs h.choose S M else .bad
theorem whN_more {b : BF} {t : TF} {vs : List Nat} : ∀ {n : Nat} {S : Sl} {M : Mem}, whN b t vs n S M ≠ .bad → whN b t vs (n + 1) S M = whN b t vs n S M
  | 0, S, M, h => absurd rfl h
  | n + 1, S, M, h => by
    rw [whN] at h
    rw [whN, whN]
    cases e : b S M with
    | bad => rfl
    | rz x M1 => rfl
    | ok x M1 =>
      rw [e] at h
      simp only [Res.thn] at h ⊢
      cases x with
      | false => rfl
      | true =>
        simp only [if_true] at h ⊢
        cases e2 : t S M1 with
        | nx S2 M2 => rw [e2] at h; exact whN_more h
        | ct S2 M2 => rw [e2] at h; exact whN_more h
        | bk S2 M2 => rfl
        | rt _ _ => rfl
        | rz _ _ _ => rfl
        | bad => rfl
theorem whN_le {b : BF} {t : TF} {vs : List Nat} {n m : Nat} {S : Sl} {M : Mem} (hm : n ≤ m) (h : whN b t vs n S M ≠ .bad) : whN b t vs m S M = whN b t vs n S M := by
  induction m with
  | zero =>
    have e : n = 0 := by omega
    rw [e]
  | succ m ih =>
    by_cases e : n = m + 1
    · rw [e]
    · have q := ih (by omega)
      rw [whN_more (by rw [q]; exact h), q]
theorem kWhile_of {b : BF} {t : TF} {vs : List Nat} {n : Nat} {S : Sl} {M : Mem} (h : whN b t vs n S M ≠ .bad) : kWhile b t vs S M = whN b t vs n S M := by
  have ex : ∃ n, whN b t vs n S M ≠ .bad := ⟨n, h⟩
  unfold kWhile
  rw [dif_pos ex]
  rcases Nat.le_total n ex.choose with q | q
  · exact whN_le q h
  · exact (whN_le q ex.choose_spec).symm
theorem kWhile_at {b : BF} {t : TF} {vs : List Nat} {S : Sl} {M : Mem} (h : kWhile b t vs S M ≠ .bad) : ∃ n, kWhile b t vs S M = whN b t vs n S M := by
  unfold kWhile at h ⊢
  by_cases ex : ∃ n, whN b t vs n S M ≠ .bad
  · exact ⟨ex.choose, by rw [dif_pos ex]⟩
  · rw [dif_neg ex] at h
    exact absurd rfl h
/-- one turn -/
theorem kWhile_eq (b : BF) (t : TF) (vs : List Nat) (S : Sl) (M : Mem) : kWhile b t vs S M = (b S M).thn S fun x M1 => if x = true then match t S M1 with
      | .nx S2 M2 => kWhile b t vs (kl vs S2) M2
      | .ct S2 M2 => kWhile b t vs (kl vs S2) M2
      | .bk S2 M2 => .nx S2 M2
      | r => r
    else .nx S M1 := by
  have go : ∀ {S2 : Sl} {M2 : Mem}, (∀ n, whN b t vs (n + 1) S M = whN b t vs n S2 M2) → kWhile b t vs S M = kWhile b t vs S2 M2 := fun {S2 M2} h => by
    by_cases ex : ∃ n, whN b t vs n S2 M2 ≠ .bad
    · obtain ⟨n, hn⟩ := ex
      rw [kWhile_of hn, kWhile_of (n := n + 1) (by rw [h]; exact hn), h]
    · have e2 : kWhile b t vs S2 M2 = .bad := by unfold kWhile; rw [dif_neg ex]
      rw [e2]
      unfold kWhile
      rw [dif_neg fun ⟨n, hn⟩ => by
        cases n with
        | zero => exact hn rfl
        | succ n => exact ex ⟨n, by rw [← h]; exact hn⟩]
  have st : ∀ {r : SR}, (∀ n, whN b t vs (n + 1) S M = r) → kWhile b t vs S M = r := fun {r} h => by
    by_cases hr : r = .bad
    · subst hr
      unfold kWhile
      rw [dif_neg fun ⟨n, hn⟩ => by
        cases n with
        | zero => exact hn rfl
        | succ n => exact hn (h n)]
    · rw [kWhile_of (n := 1) (by rw [h]; exact hr), h]
  cases e : b S M with
  | bad => exact st fun n => by rw [whN, e]; rfl
  | rz x M1 => exact st fun n => by rw [whN, e]; rfl
  | ok x M1 =>
    simp only [Res.thn]
    cases x with
    | false => exact st fun n => by rw [whN, e]; rfl
    | true =>
      simp only [if_true]
      cases e2 : t S M1 with
      | nx S2 M2 => exact go fun n => by rw [whN, e]; simp only [Res.thn, if_true, e2]
      | ct S2 M2 => exact go fun n => by rw [whN, e]; simp only [Res.thn, if_true, e2]
      | bk S2 M2 => exact st fun n => by rw [whN, e]; simp only [Res.thn, if_true, e2]
      | rt _ _ => exact st fun n => by rw [whN, e]; simp only [Res.thn, if_true, e2]
      | rz _ _ _ => exact st fun n => by rw [whN, e]; simp only [Res.thn, if_true, e2]
      | bad => exact st fun n => by rw [whN, e]; simp only [Res.thn, if_true, e2]
theorem qwhile {X : Cx} {W : WX} {pos : Pos} {c : Expr} {body : List Stmt} {b : BF} {t : TF} {vs : List Nat} (hp : PassesOwn (model X.prog X.w) X.A X.env X.xe) (hc : QT X W c b) (hb : QSs X W body t) : QS X W (.While c body [] pos) (kWhile b t vs) :=
  PS.imp (ps_while hp hc hb) fun D σ H h => by
    obtain ⟨G, S, M, r, s, p⟩ := h
    have nb : kWhile b t vs S M ≠ .bad := fun e => by rw [e] at p; exact p
    obtain ⟨n, en⟩ := kWhile_at nb
    rw [en] at p
    refine ⟨fun m σ H => ∃ G S M, Rep (cn X) G H M ∧ SlR (cn X) G S σ ∧ PostS (cn X) W G D (whN b t vs m S M), ⟨n, G, S, M, r, s, p⟩, fun m σ H ⟨G, S, M, r, s, p⟩ => ?_⟩
    cases m with
    | zero => exact (show False from p).elim
    | succ m =>
      rw [whN] at p
      refine ⟨G, S, M, r, s, (PostS.thnE (rel := fun _ (a b : Bool) => a = b) s p).imp fun x H1 ⟨G1, d, M1, g1, r1, q1, p1⟩ => ?_⟩
      subst q1
      cases d with
      | false => exact p1 G1 σ H1 (Gr.refl _) r1 (s.mono g1)
      | true =>
        refine ⟨fun σ H => ∃ G S M, Rep (cn X) G H M ∧ SlR (cn X) G S σ ∧ PostS (cn X) W G D (whN b t vs m S M), fun σ' H' z => ⟨m, Nat.lt_succ_self m, z⟩, G1, S, M1, r1, s.mono g1, ?_⟩
        simp only [if_true] at p1
        cases e : t S M1 with
        | nx S2 M2 => rw [e] at p1; exact fun G2 σ2 H2 g2 r2 s2 => ⟨G2, _, M2, r2, s2.kl, PostS.mono g2 p1⟩
        | ct S2 M2 => rw [e] at p1; exact fun G2 σ2 H2 g2 r2 s2 => ⟨G2, _, M2, r2, s2.kl, PostS.mono g2 p1⟩
        | bk S2 M2 => rw [e] at p1; exact p1
        | rt _ _ => rw [e] at p1; exact p1
        | rz _ _ _ => rw [e] at p1; exact p1
        | bad => rw [e] at p1; exact p1
end QL
end
section
set_option Elab.async false
set_option linter.all false
set_option maxRecDepth 100000
set_option maxHeartbeats 4000000
/-! QGrd: defs and calls where it is known that no repr is under way (repr of a list or a tuple asks it). -/
namespace QL
open PySem PySem.Spec L2
open PyProof.Rows (envOfC IntsAre AllBare)
open Classical (em)
set_option autoImplicit false
structure RoomG (n : Nat) (B : Around) : Prop extends L2.Room n B where
  gd : B.guards = some []
theorem RoomG.mono {j n : Nat} {B : Around} (r : RoomG n B) (h : j ≤ n) : RoomG j B := ⟨r.toRoom.mono h, r.gd⟩
theorem RoomG.deeper {n : Nat} {B : Around} (r : RoomG (n + 1) B) (env : Env) : RoomG n (B.deeper env) := ⟨r.toRoom.deeper env, r.gd⟩
theorem make_guards {B : Around} {C : Addr} {us : List Value} {kw : List (Str × Value)} : (B.under (.builtin "type.__call__" ⟨.ref C :: us, kw⟩)).guards = B.guards := by
  have e : (Code.builtin "type.__call__" ⟨.ref C :: us, kw⟩).guards = [] := by
    first | rfl | simp [Code.guards, Code.isGuard, guardIds]
  have u : (B.under (.builtin "type.__call__" ⟨.ref C :: us, kw⟩)).guards = pushGuards (Code.builtin "type.__call__" ⟨.ref C :: us, kw⟩).guards B.guards := rfl
  rw [u, e]
  cases B.guards <;> rfl
theorem RoomG.make {n : Nat} {B : Around} (r : RoomG (n + 1) B) (C : Addr) (us : List Value) (kw : List (Str × Value)) : RoomG n (B.under (.builtin "type.__call__" ⟨.ref C :: us, kw⟩)) :=
  ⟨r.toRoom.make C us kw, by rw [make_guards]; exact r.gd⟩
/-- as the kit's promise of a def, where it is known that no repr is under way -/
structure FnOkG (P : Program) (w : World) (K : PySem.W.Frag) (mg : Str → Option Value) (base : Heap) (n : Nat) (g : Addr) (fd : FuncData) (ps : List Str) (sp : Sp) : Prop where
  len : ∀ xs H Q E, sp xs H Q E → xs.length = ps.length
  run : ∀ (B : Around) (outer : List Env) (s : Shared) (H : Hp) (args : Args) (us : List Value) (xs : List V) (Q : VK) (E : XK), RoomG n B → Env0 P w K mg base B outer s H → BindsTo s fd args (ps.zip us) → Vals xs us → sp xs H Q E → codeAny (model P w) B (.call (.ref g) args) (CR (L2.CX P w) outer P w H s Q E) s
section
variable {P : Program} {w : World} {K : PySem.W.Frag} {mg : Str → Option Value} {base : Heap}
theorem Fun.okG {x qual : Str} {st : Stmt} {g : Addr} {fd : FuncData} {N ps : List Str} {n : Nat} {sp : Sp} (F : Fun K x qual st g fd) (S : FnScope N ps (defScope st)) (len : ∀ xs H Q E, sp xs H Q E → xs.length = ps.length)
    (body : ∀ (cdv : Value) (B : Around) (outer : List Env) (s : Shared) (H : Hp) (xs : List V) (Q : VK) (E : XK), RoomG n (B.deeper (envOfC qual (defScope st) s.heap.objs.size g cdv)) → sp xs H Q E → ∃ t, PSs (cxOf (L2.CX P w) P w K mg base N qual (defScope st) g cdv B outer s H E) (defBody st) t ∧ t { nx := fun _ H' => Q .non H', rt := Q } (start N xs) H) : FnOkG P w K mg base (n + 1) g fd ps sp := by
  obtain ⟨oc, od, kV, doc, pm, an, cdv, ct, osl, rfl, lk, hcd⟩ := F.ex
  refine ⟨len, fun B outer s H args us xs Q E room e0 hb r hsp => ?_⟩
  have hl := len _ _ _ _ hsp
  have KX : K.In s.heap := e0.mod.kin.keeps fun b o z => (e0.bs b o z).1
  have nolim : s.heap.NoLimit := e0.mod.nolimit.keeps fun b o z => (e0.bs b o z).1
  have kinds : ∀ y ∈ ps.zip us, (defScope st).names.lookup y.1 = some .local ∨ ((defScope st).names.lookup y.1 = some .cell ∧ ((cellsFrom (s.heap.objs.size + 1) (defScope st).names []).lookup y.1).isSome = true) := by
    rintro ⟨m, v⟩ hy
    exact (S.par m (List.of_mem_zip hy).1).elim .inl fun z => .inr ⟨z, PySem.W.cellsFrom_some _ _ _ (.inl z)⟩
  refine codeAny_call_function room.depth (KX _ _ lk) rfl S.co S.gen rfl (PySem.W.codeRec_of KX hcd) (hb _ _ _ _ (wpAny_newFunctionEnv_cells S.kind kinds fun env he s1 z => ?_))
  subst he
  refine ⟨nolim.keeps z.toInCall.keep, codeAny_func ?_⟩
  obtain ⟨t, ht, hq⟩ := body cdv B outer s H xs Q E (room.deeper _) hsp
  have I : Inv (cxOf (L2.CX P w) P w K mg base N qual (defScope st) g cdv B outer s H E) [] (start N xs) H s1 := inv_start S room.hd e0 hl r z
  have fin : ∀ {σ' : St} {H' : Hp} {v : V} {u : Value} {s' : Shared}, Inv (cxOf (L2.CX P w) P w K mg base N qual (defScope st) g cdv B outer s H E) [] σ' H' s' → RelV v u → Q v H' → CE outer P w H s Q u s' := fun J rv q => ⟨_, _, J.os, J.bare, J.base, J.hok, rv, q⟩
  refine wpAny_mono (ht.run [] s1 (start N xs) H _ I hq) (fun fl s' hs => ?_) fun _ _ z => z
  cases fl with
  | ret u => exact (let ⟨v, σ', H', J, rv, q⟩ := hs; fin J rv q)
  | next => exact (let ⟨σ', H', J, q⟩ := hs; fin (v := V.non) (u := Value.none) J rfl q)
  | brk => exact False.elim (let ⟨_, _, _, q⟩ := hs; q)
  | cont => exact False.elim (let ⟨_, _, _, q⟩ := hs; q)
end
section
variable {X : Cx} {n : Nat} {g C : Addr} {fd : FuncData} {ps : List Str} {sp : Sp} {E : St → XK} {x m : Str} {p pos apos : Pos} {e o : Expr} {es : List Expr} {ta : TE} {t : TA}
theorem run_fnG {pins : List (Addr × Obj)} {σ : St} {H : Hp} {s : Shared} {Q : VK} {us : List Value} {xs : List V} (F : FnOkG X.prog X.w X.K X.mg X.base n g fd ps sp) (room : RoomG n X.A) (hb : Binds X.K fd ps []) (out : PassesAt (L2.CX X.prog X.w) X σ (E σ))
    (I : Inv X pins σ H s) (r : Vals xs us) (h : sp xs H Q (E σ)) : wpAny (model X.prog X.w) X.A (call (.ref g) us) (EP X pins σ Q) X.xe s := by
  have bind0 := hb s us I.kIn (by rw [List.append_nil, ← r.length]; exact F.len _ _ _ _ h)
  rw [List.append_nil] at bind0
  refine wpAny_call (codeAny_mono (F.run X.A X.stack s H ⟨us, []⟩ us xs Q (E σ) room I.env0 bind0 r h) fun res s' z => ?_)
  match res, z with
  | .error err, z => exact out pins H s err s' I z
  | .ok (.ret u), z => exact I.after z
  | .ok .next, z => exact (show False from z).elim
  | .ok .brk, z => exact (show False from z).elim
  | .ok .cont, z => exact (show False from z).elim
theorem pe_callG (F : FnOkG X.prog X.w X.K X.mg X.base n g fd ps sp) (room : RoomG n X.A) (gl : Gl X x) (hm : X.mg x = some (.ref g)) (kp : PySem.W.keepIn X.K (.ref g) = true) (hb : Binds X.K fd ps []) (out : ∀ σ, PassesAt (L2.CX X.prog X.w) X σ (E σ)) (ha : PA X (e :: es) t)
    (hdb : (x == ("__debug__" : Str)) = false := by decide) (he : starEach (e :: es) X.env = (false, eval e X.env) :: starEach es X.env := by rfl) (hpl : (backTo pos (starEach es X.env)).any (·.1) = false := by rfl) : PE X (.Call (.Name x p) (e :: es) [] pos) (tCallS sp E t) :=
  ⟨fun pins s σ H Q I h => wpAny_Call_Name_kw (ld_glob I gl hm (PySem.W.callWith_K (h₀ := X.base) I.ok.mod.kin kp (thn (ha.run pos pins s σ H _ I h) fun us s1 ⟨xs, H1, I1, r, q⟩ => ⟨I1.kIn, run_fnG F room hb (out σ) I1 r q⟩) he hpl) hdb)⟩
end
/-- the law's promise, at the heap behind the top -/
theorem law_callG {P : Program} {w : World} {K : PySem.W.Frag} {mg mb : Str → Option Value} {n : Nat} {fa a : Addr} {fd : FuncData} {x : Str} {sp : Sp} {s0 : Shared} {vs : List Value} {ns : List Int}
    (KX : K.In s0.heap) (hns : s0.heap.Ns mainGlobals mg) (hb : s0.heap.Ns builtinsNs mb) (hbb : ∀ y : Str, y ≠ "__name__" → mb y = bootBuiltins y) (hlim : s0.heap.NoLimit) (hg : s0.gens = #[]) (ha : s0.heap.get? a = some { cls := .type "list", data := .seq vs.toArray }) (hi : IntsAre vs ns) (hl : ns.length ≤ sizeLine) (room : RoomG n callerA)
    (F : ∀ base : Heap, K.In base → base.Ns mainGlobals mg → FnOkG P w K mg base n fa fd [x] sp) (hbind : ∀ (s : Shared) (u : Value), BindsTo s fd ⟨[u], []⟩ [(x, u)]) (hsp : ∀ H : Hp, Only H → SqL K H a (ns.map V.int) → sp [.ref a] H (fun v _ => v = .bl true) fun _ _ _ => False)
    (hCX : ∀ H e s', L2.CX P w [] H s0 (fun _ _ _ => False) e s' → False) : codeAny (model P w) callerA (.call (.ref fa) ⟨[.ref a], []⟩) (fun r s' => r = .ok (.ret (.bool true)) ∧ OldK s0.heap s'.heap ∧ s'.os = s0.os ∧ AllBare s'.gens) s0 := by
  have rv := vals_ints hi
  have lenV := hi.length
  have core : ∀ H : Hp, Only H → SqL K H a (ns.map V.int) → HOk P w H s0.heap → (∀ b, H b ≠ none → b = a) → (H a ≠ none → K.lookup a = none) → codeAny (model P w) callerA (.call (.ref fa) ⟨[.ref a], []⟩) (fun r s' => r = .ok (.ret (.bool true)) ∧ OldK s0.heap s'.heap ∧ s'.os = s0.os ∧ AllBare s'.gens) s0 := by
    intro H only hS hok one away
    have bo : ∀ {b : Addr} {o : Obj}, s0.heap.get? b = some o → H b = none → (hidT s0.heap H).get? b = some o := fun e z => hidT_get e z
    have noD : ∀ {b : Addr} {o : Obj} {es : Array DictEntry} {ep : Nat}, s0.heap.get? b = some o → o.data = .dict es ep → H b = none := by
      intro b o es ep e d
      match q : H b with
      | none => rfl
      | some u =>
        have z : b = a := one b (by rw [q]; simp)
        rw [z, ha] at e
        cases e
        have d' : Data.seq vs.toArray _ = Data.dict es ep := d
        cases d'
    have nK : ∀ {b : Addr} {m : Str → Option Value}, s0.heap.Ns b m → (hidT s0.heap H).Ns b m := by
      rintro b m ⟨o, es, ep, e, d, r⟩
      exact ⟨o, es, ep, bo e (noD e d), d, r⟩
    have kb : K.In (hidT s0.heap H) := by
      intro b o e
      refine bo (KX b o e) ?_
      match q : H b with
      | none => rfl
      | some u =>
        have z : b = a := one b (by rw [q]; simp)
        subst z
        rw [away (by rw [q]; simp)] at e
        cases e
    have md : Mod K mg (hidT s0.heap H) := ⟨kb, nK hns, ⟨mb, nK hb, hbb⟩, let ⟨mc, h1, h2⟩ := hlim; ⟨mc, nK h1, h2⟩⟩
    have e0 : Env0 P w K mg (hidT s0.heap H) callerA [] s0 H := ⟨rfl, md, fun b o e => of_hidT e, Nat.le_of_eq (hidT_size _ _), trivial, fun b z => absurd (show b ∈ ([] : List Addr) from z) (by simp), hok, .of_eq hg⟩
    refine codeAny_mono ((F _ kb (nK hns)).run callerA [] s0 H ⟨[.ref a], []⟩ [.ref a] [.ref a] _ _ room e0 (hbind s0 (.ref a)) (.cons rfl .nil) (hsp H only hS)) fun res s' z => ?_
    match res, z with
    | .error e, z => exact (hCX H e s' z).elim
    | .ok .next, z => exact (show False from z).elim
    | .ok .brk, z => exact (show False from z).elim
    | .ok .cont, z => exact (show False from z).elim
    | .ok (.ret u), z =>
      obtain ⟨v, H', os, bare, un, hok', r', q⟩ := z
      have ev : v = .bl true := q
      subst ev
      obtain rfl : u = Value.bool true := r'
      refine ⟨rfl, OldK.of_keep fun b o e => ?_, os, bare⟩
      rcases only b with k | ⟨ob, xs, k⟩
      · exact un.keep b o e k (by intro z; exact absurd (show b ∈ ([] : List Addr) from z) (by simp)) (by simp)
      · obtain ⟨e1, _⟩ := hok b _ k
        obtain ⟨e2, _⟩ := hok' b _ (un.frzs b ob _ k)
        rw [e] at e1
        cases e1
        exact e2
  match hk : K.lookup a with
  | some o =>
    have e := KX a o hk
    rw [ha] at e
    cases e
    exact core (fun _ => none) (fun _ => .inl rfl) (.inr ⟨_, vs.toArray, _, hk, rfl, rfl, rfl, by rw [List.size_toArray, lenV]; exact hl, by simpa using rv⟩) (fun b u z => nomatch (show (none : Option HO) = some u from z)) (fun b z => absurd rfl z) fun z => absurd rfl z
  | none =>
    have no : ∀ {b : Addr} {u : HO}, b ≠ a → ¬ (if b = a then some (HO.frz { cls := .type "list", data := .seq vs.toArray } (.lst (ns.map V.int))) else none) = some u := fun h z => nomatch (if_neg h).symm.trans z
    refine core (fun b => if b = a then some (.frz { cls := .type "list", data := .seq vs.toArray } (.lst (ns.map V.int))) else none) (fun b => ?_) (.inl (.inr ⟨_, if_pos rfl⟩)) (fun b u z => ?_) (fun b z => ?_) fun _ => hk
    · exact (em (b = a)).elim (fun y => .inr ⟨_, _, if_pos y⟩) fun y => .inl (if_neg y)
    · rcases em (b = a) with y | y
      · subst y
        have z' := (if_pos rfl).symm.trans z
        cases z'
        exact ⟨ha, by rw [List.length_map]; exact hl, vs, _, rv, ha⟩
      · exact absurd z (no y)
    · exact (em (b = a)).elim id fun y => absurd (if_neg y) z
end QL
end
section
set_option Elab.async false
set_option linter.all false
set_option maxRecDepth 100000
set_option maxHeartbeats 4000000
/-! QCall: what a def keeps behind it, calls, defs, instances. -/
namespace QL
open PySem PySem.Spec L2
open PyProof.Rows (envOfC)
set_option autoImplicit false

/-! ### data that name no place of the store from n on -/
mutual
def lowD (n : Nat) : D → Bool
  | .ptr k => decide (k < n)
  | .tup ds => lowDs n ds
  | .lst ds => lowDs n ds
  | .dK kvs => lowK n kvs
  | .dT kvs => lowT n kvs
  | .obj _ fs => lowF n fs
  | .exc _ _ _ fs => lowF n fs
  | _ => true
def lowDs (n : Nat) : List D → Bool
  | [] => true
  | d :: r => lowD n d && lowDs n r
def lowK (n : Nat) : List (Key × D) → Bool
  | [] => true
  | d :: r => lowK1 n d && lowK n r
def lowK1 (n : Nat) : Key × D → Bool
  | (_, d) => lowD n d
def lowT (n : Nat) : List (List Key × D) → Bool
  | [] => true
  | d :: r => lowT1 n d && lowT n r
def lowT1 (n : Nat) : List Key × D → Bool
  | (_, d) => lowD n d
def lowF (n : Nat) : List (Str × D) → Bool
  | [] => true
  | d :: r => lowF1 n d && lowF n r
def lowF1 (n : Nat) : Str × D → Bool
  | (_, d) => lowD n d
end
def lowO (n : Nat) : MO → Bool
  | .lst ds => lowDs n ds
  | .dK kvs => lowK n kvs
  | .dT kvs => lowT n kvs
  | .obj _ fs => lowF n fs
  | .lkK kvs => lowK n kvs
  | .lkT kvs => lowT n kvs
  | .wkT kvs _ => lowT n kvs
  | .wkK kvs _ => lowK n kvs
  | .gone => true
def lowM (n : Nat) (M : Mem) : Bool := M.all (lowO n)
def cutG (n : Nat) (G : Gd) : Gd := ⟨G.F, G.θ.take n, G.P⟩
section
variable {c : Cn} {G : Gd} {n : Nat}
theorem and2 {a b : Bool} (h : (a && b) = true) : a = true ∧ b = true := Bool.and_eq_true_iff.mp h
mutual
theorem DV.low : ∀ {d : D} {v : V}, lowD n d = true → DV c G d v → DV c (cutG n G) d v
  | .non, _, _, h => h
  | .bl _, _, _, h => h
  | .int _, _, _, h => h
  | .str _, _, _, h => h
  | .ptr k, _, l, h => by
    obtain ⟨a, e, z⟩ := h
    have hk : k < n := of_decide_eq_true (by simpa [lowD] using l)
    exact ⟨a, by show (G.θ.take n)[k]? = some a; rw [List.getElem?_take_of_lt hk]; exact e, z⟩
  | .raw _, _, _, h => h
  | .tup _, _, l, h => let ⟨a, vs, e, q, r⟩ := h; ⟨a, vs, e, q, DVs.low (by simpa [lowD] using l) r⟩
  | .lst _, _, l, h => let ⟨a, vs, e, q, r⟩ := h; ⟨a, vs, e, q, DVs.low (by simpa [lowD] using l) r⟩
  | .dK _, _, l, h => let ⟨a, vs, o, e, q, r⟩ := h; ⟨a, vs, o, e, q, DVk.low (by simpa [lowD] using l) r⟩
  | .dT _, _, l, h => let ⟨a, vs, o, e, q, r⟩ := h; ⟨a, vs, o, e, q, DVt.low (by simpa [lowD] using l) r⟩
  | .obj _ _, _, l, h => let ⟨a, C, dx, vs, e, q, m, r⟩ := h; ⟨a, C, dx, vs, e, q, m, DVf.low (by simpa [lowD] using l) r⟩
  | .exc _ _ _ _, _, l, h => let ⟨e, m, vs, q, r⟩ := h; ⟨e, m, vs, q, DVf.low (by simpa [lowD] using l) r⟩
theorem DVs.low : ∀ {ds : List D} {vs : List V}, lowDs n ds = true → DVs c G ds vs → DVs c (cutG n G) ds vs
  | [], _, _, h => h
  | _ :: _, _, l, h => let ⟨v, t, e, q, r⟩ := h; have z := and2 (by simpa [lowDs] using l); ⟨v, t, e, DV.low z.1 q, DVs.low z.2 r⟩
theorem DVk.low : ∀ {ds : List (Key × D)} {vs : List (Key × V)}, lowK n ds = true → DVk c G ds vs → DVk c (cutG n G) ds vs
  | [], _, _, h => h
  | (_, _) :: _, _, l, h => let ⟨v, t, e, q, r⟩ := h; have z := and2 (by simpa [lowK, lowK1] using l); ⟨v, t, e, ⟨q.1, DV.low z.1 q.2⟩, DVk.low z.2 r⟩
theorem DVt.low : ∀ {ds : List (List Key × D)} {vs : List (List Key × V)}, lowT n ds = true → DVt c G ds vs → DVt c (cutG n G) ds vs
  | [], _, _, h => h
  | (_, _) :: _, _, l, h => let ⟨v, t, e, q, r⟩ := h; have z := and2 (by simpa [lowT, lowT1] using l); ⟨v, t, e, ⟨q.1, DV.low z.1 q.2⟩, DVt.low z.2 r⟩
theorem DVf.low : ∀ {ds : List (Str × D)} {vs : List (Str × V)}, lowF n ds = true → DVf c G ds vs → DVf c (cutG n G) ds vs
  | [], _, _, h => h
  | (_, _) :: _, _, l, h => let ⟨v, t, e, q, r⟩ := h; have z := and2 (by simpa [lowF, lowF1] using l); ⟨v, t, e, ⟨q.1, DV.low z.1 q.2⟩, DVf.low z.2 r⟩
end
theorem MOk.low {H : Hp} {mo : MO} {a : Addr} (l : lowO n mo = true) (h : MOk c G H mo a) : MOk c (cutG n G) H mo a := by
  cases mo with
  | lst ds => obtain ⟨vs, e, r⟩ := h; exact ⟨vs, e, r.low l⟩
  | dK ds => obtain ⟨vs, e, r⟩ := h; exact ⟨vs, e, r.low l⟩
  | dT ds => obtain ⟨vs, e, r⟩ := h; exact ⟨vs, e, r.low l⟩
  | obj n fs => obtain ⟨C, dx, vs, e, m, r⟩ := h; exact ⟨C, dx, vs, e, m, r.low l⟩
  | lkK ds => obtain ⟨vs, o, e, r⟩ := h; exact ⟨vs, o, e, r.low l⟩
  | lkT ds => obtain ⟨vs, o, e, r⟩ := h; exact ⟨vs, o, e, r.low l⟩
  | wkT ds ep => obtain ⟨vs, o, e, z, r⟩ := h; exact ⟨vs, o, e, z, r.low l⟩
  | wkK ds ep => obtain ⟨vs, o, e, z, r⟩ := h; exact ⟨vs, o, e, z, r.low l⟩
  | gone => exact h
theorem Rep.cut {H : Hp} {M : Mem} (r : Rep c G H M) (l : lowM n (M.take n) = true) : Rep c (cutG n G) H (M.take n) := by
  have at1 : ∀ {k : Nat} {mo : MO}, (M.take n)[k]? = some mo → M[k]? = some mo ∧ k < n := fun {k mo} h => by
    have hk := (List.getElem?_eq_some_iff.mp h).1
    rw [List.length_take] at hk
    rw [List.getElem?_take_of_lt (by omega)] at h
    exact ⟨h, by omega⟩
  have at2 : ∀ {k : Nat} {a : Addr}, k < n → (G.θ.take n)[k]? = some a → G.θ[k]? = some a := fun {k a} hk h => by
    rwa [List.getElem?_take_of_lt hk] at h
  refine ⟨r.fz, by show (G.θ.take n).length = _; rw [List.length_take, List.length_take, r.len], r.nd.sublist (List.take_sublist _ _), fun k mo a e1 e2 => ?_, fun k mo a e1 e2 lv => ?_, fun a ha => r.liv a (List.mem_of_mem_take ha), fun q hq => let ⟨h1, h2, h3⟩ := r.pin q hq; ⟨h1, h2, fun z => h3.1 (List.mem_of_mem_take z), h3.2⟩⟩
  · obtain ⟨q, hk⟩ := at1 e1
    exact (r.mem k mo a q (at2 hk e2)).low (List.all_eq_true.mp l mo (List.mem_of_getElem? e1))
  · obtain ⟨q, hk⟩ := at1 e1
    exact r.sep k mo a q (at2 hk e2) lv
theorem Gr.cut {G' : Gd} (g : Gr G G') (h : G.θ.length = n) : Gr G (cutG n G') := by
  obtain ⟨m, e⟩ := g.θ
  exact ⟨⟨g.F, [], by show G'.θ.take n = _; rw [e, ← h, List.take_left, List.append_nil]⟩, g.P⟩
theorem ExV.low {x : Ex} {cls : Value} {d : Option Addr} (l : lowF n x.fs = true) (h : ExV c G x cls d) : ExV c (cutG n G) x cls d := by
  obtain ⟨C, m, e, h⟩ := h
  rcases h with h | ⟨nn, a, ws, e1, e2, r⟩
  · exact ⟨C, m, e, .inl h⟩
  · exact ⟨C, m, e, .inr ⟨nn, a, ws, e1, e2, r.low l⟩⟩
end
/-- what a def made for itself is let go -/
def settle (n : Nat) (r : Res D) : Res D := match r with
  | .ok d M => if M.length ≤ n then .ok d M else if lowD n d = true ∧ lowM n (M.take n) = true then .ok d (M.take n) else .ok d M
  | .rz x M => if M.length ≤ n then .rz x M else if lowF n x.fs = true ∧ lowM n (M.take n) = true then .rz x (M.take n) else .rz x M
  | .bad => .bad
def SR.fin (r : SR) : Res D := match r with
  | .nx _ M => .ok .non M
  | .rt d M => .ok d M
  | .rz x _ M => .rz x M
  | _ => .bad
/-- a def of n parameters and m further names -/
def runF (n m : Nat) (t : TF) (ds : List D) (M : Mem) : Res D := if ds.length = n then settle M.length (t (ds.map some ++ List.replicate m none) M).fin else .bad

def WF (E : XK) : WX := fun cls d _ H => E cls d H
/-- a def's promise -/
def spF (c : Cn) (f : List D → Mem → Res D) : Sp := fun vs H Q E => ∃ G ds M, Rep c G H M ∧ DVs c G ds vs ∧ Post c (WF E) [] G (DV c) (f ds M) Q
theorem Post.wish {α β : Type} {c : Cn} {W W' : WX} {σ σ' : St} {G : Gd} {rel : Gd → α → β → Prop} {r : Res α} {Q : β → Hp → Prop} (h : Post c W σ G rel r Q) (k : ∀ cls dd H, W cls dd σ H → W' cls dd σ' H) : Post c W' σ' G rel r Q := by
  cases r with
  | ok d M => exact h
  | rz x M => exact fun G2 cls dd H g r e => k _ _ _ (h G2 cls dd H g r e)
  | bad => exact h
theorem Post.settle {c : Cn} {W : WX} {σ : St} {G : Gd} {r : Res D} {Q : VK} (h : Post c W σ G (DV c) (settle G.θ.length r) Q) : Post c W σ G (DV c) r Q := by
  cases r with
  | ok d M =>
    intro G' v H g rp q
    unfold QL.settle at h
    simp only at h
    split at h
    · exact h G' v H g rp q
    · split at h
      · rename_i z
        exact h (cutG G.θ.length G') v H (g.cut rfl) (rp.cut z.2) (q.low z.1)
      · exact h G' v H g rp q
  | rz x M =>
    intro G' cls dd H g rp q
    unfold QL.settle at h
    simp only at h
    split at h
    · exact h G' cls dd H g rp q
    · split at h
      · rename_i z
        exact h (cutG G.θ.length G') cls dd H (g.cut rfl) (rp.cut z.2) (q.low z.1)
      · exact h G' cls dd H g rp q
  | bad => exact h
section
variable {P : Program} {w : World} {K : PySem.W.Frag} {mg : Str → Option Value} {base : Heap}
theorem DVs.slots {c : Cn} {G : Gd} {ds : List D} {vs : List V} {N : List Str} {m : Nat} (h : DVs c G ds vs) (hN : N.length = ds.length + m) : SlR c G (ds.map some ++ List.replicate m none) (L2.start N vs) := by
  have hl := h.length
  unfold L2.start
  refine ⟨by simp; omega, fun i d e => ?_⟩
  by_cases hi : i < ds.length
  · rw [List.getElem?_append_left (by simpa using hi), List.getElem?_map] at e
    obtain ⟨d', e1, e2⟩ : ∃ d', ds[i]? = some d' ∧ some d' = some d := by
      cases q : ds[i]? with
      | none => rw [q] at e; cases e
      | some d' => rw [q] at e; exact ⟨d', rfl, Option.some.inj e⟩
    cases e2
    obtain ⟨v, e3, r⟩ := h.get e1
    exact ⟨v, by rw [List.getElem?_append_left (by simp; omega), List.getElem?_map, e3]; rfl, r⟩
  · rw [List.getElem?_append_right (by simpa using Nat.le_of_not_lt hi), List.getElem?_replicate] at e
    split at e <;> cases e
/-- the context of a def's body -/
abbrev cxQ (P : Program) (w : World) (K : PySem.W.Frag) (mg : Str → Option Value) (base : Heap) (N : List Str) (qual : Str) (st : Stmt) (f : Addr) (cdv : Value) (A : Around) (outer : List Env) (s : Shared) (H : Hp) (E : XK) : Cx :=
  cxOf (L2.CX P w) P w K mg base N qual (defScope st) f cdv A outer s H E
theorem takesQ {N : List Str} {qual : Str} {st : Stmt} {f : Addr} {cdv : Value} {A : Around} {outer : List Env} {s : Shared} {H : Hp} {E : XK} : Takes (cxQ P w K mg base N qual st f cdv A outer s H E) (WF E) := takes_of rfl rfl rfl rfl
theorem passesQ {N : List Str} {qual : Str} {st : Stmt} {f : Addr} {cdv : Value} {A : Around} {outer : List Env} {s : Shared} {H : Hp} {E : XK} :
    PassesOwn (model (cxQ P w K mg base N qual st f cdv A outer s H E).prog (cxQ P w K mg base N qual st f cdv A outer s H E).w) (cxQ P w K mg base N qual st f cdv A outer s H E).A (cxQ P w K mg base N qual st f cdv A outer s H E).env (cxQ P w K mg base N qual st f cdv A outer s H E).xe := passes_of rfl
/-- THE RULE for a def -/
theorem okQ {x qual : Str} {st : Stmt} {f : Addr} {fd : FuncData} {N ps : List Str} {k m : Nat} {t : TF} (F : Fun K x qual st f fd) (S : FnScope N ps (defScope st)) (hN : N.length = ps.length + m)
    (hb : ∀ (cdv : Value) (A : Around) (outer : List Env) (s : Shared) (H : Hp) (E : XK), RoomG k (A.deeper (envOfC qual (defScope st) s.heap.objs.size f cdv)) → QSs (cxQ P w K mg base N qual st f cdv A outer s H E) (WF E) (defBody st) t) :
    FnOkG P w K mg base (k + 1) f fd ps (spF ⟨K, mg⟩ (runF ps.length m t)) := by
  refine Fun.okG F S (fun vs H Q E h => ?_) (fun cdv A outer s H vs Q E hr h => ?_)
  · obtain ⟨G, ds, M, r, q, p⟩ := h
    unfold runF at p
    split at p
    · rename_i e
      rw [q.length, e]
    · exact p.elim
  · obtain ⟨G, ds, M, r, q, p⟩ := h
    refine ⟨_, hb cdv A outer s H E hr, ?_⟩
    unfold runF at p
    split at p
    · rename_i e
      rw [← r.len] at p
      have p := Post.settle p
      refine ⟨G, ds.map some ++ List.replicate m none, M, r, q.slots (by rw [e]; exact hN), ?_⟩
      cases e2 : t (ds.map some ++ List.replicate m none) M with
      | nx S2 M2 => rw [e2] at p; exact fun G2 σ2 H2 g2 r2 s2 => p G2 .non H2 g2 r2 rfl
      | rt d M2 => rw [e2] at p; exact p
      | bk S2 M2 => rw [e2] at p; exact p.elim
      | ct S2 M2 => rw [e2] at p; exact p.elim
      | rz x S2 M2 => rw [e2] at p; exact fun G2 cls dd σ2 H2 g2 r2 s2 q2 => p G2 cls dd H2 g2 r2 q2
      | bad => rw [e2] at p; exact p.elim
    · exact p.elim
/-- the def of that name is there and keeps f -/
def Has (P : Program) (w : World) (K : PySem.W.Frag) (mg : Str → Option Value) (base : Heap) (k : Nat) (name : Str) (ps : List Str) (g : List D → Mem → Res D) : Prop :=
  ∃ f fd, mg name = some (.ref f) ∧ PySem.W.keepIn K (.ref f) = true ∧ Binds K fd ps [] ∧ FnOkG P w K mg base k f fd ps (spF ⟨K, mg⟩ g)
/-- the def as the top has left it -/
def Raw (K : PySem.W.Frag) (mg : Str → Option Value) (name : Str) (st : Stmt) (ps : List Str) : Prop :=
  ∃ f fd, mg name = some (.ref f) ∧ Fun K name name st f fd ∧ Binds K fd ps []
theorem Raw.has {name : Str} {st : Stmt} {N ps : List Str} {k m : Nat} {t : TF} (R : Raw K mg name st ps) (S : FnScope N ps (defScope st)) (hN : N.length = ps.length + m)
    (hb : ∀ (f : Addr) (cdv : Value) (A : Around) (outer : List Env) (s : Shared) (H : Hp) (E : XK), RoomG k (A.deeper (envOfC name (defScope st) s.heap.objs.size f cdv)) → QSs (cxQ P w K mg base N name st f cdv A outer s H E) (WF E) (defBody st) t) :
    Has P w K mg base (k + 1) name ps (runF ps.length m t) := by
  obtain ⟨f, fd, m1, F, b⟩ := R
  exact ⟨f, fd, m1, F.kp, b, okQ F S hN (hb f)⟩
/-- a method -/
def HasM (P : Program) (w : World) (K : PySem.W.Frag) (mg : Str → Option Value) (base : Heap) (k : Nat) (cl name : Str) (ps : List Str) (g : List D → Mem → Res D) : Prop :=
  ∃ C f fd, mg cl = some (.ref C) ∧ Meth K C name f ∧ Binds K fd ps [] ∧ FnOkG P w K mg base k f fd ps (spF ⟨K, mg⟩ g)
def RawM (K : PySem.W.Frag) (mg : Str → Option Value) (cl name qual : Str) (st : Stmt) (ps : List Str) : Prop :=
  ∃ C f fd, mg cl = some (.ref C) ∧ Meth K C name f ∧ Fun K name qual st f fd ∧ Binds K fd ps []
theorem RawM.has {cl name qual : Str} {st : Stmt} {N ps : List Str} {k m : Nat} {t : TF} (R : RawM K mg cl name qual st ps) (S : FnScope N ps (defScope st)) (hN : N.length = ps.length + m)
    (hb : ∀ (f : Addr) (cdv : Value) (A : Around) (outer : List Env) (s : Shared) (H : Hp) (E : XK), RoomG k (A.deeper (envOfC qual (defScope st) s.heap.objs.size f cdv)) → QSs (cxQ P w K mg base N qual st f cdv A outer s H E) (WF E) (defBody st) t) :
    HasM P w K mg base (k + 1) cl name ps (runF ps.length m t) := by
  obtain ⟨C, f, fd, m1, me, F, b⟩ := R
  exact ⟨C, f, fd, m1, me, b, okQ F S hN (hb f)⟩
end

/-! ### calls -/
def eCall (g : List D → Mem → Res D) (a : AF) : EF := fun S M => (a S M).bind fun ds M1 => g ds M1
/-- what a context lets out -/
abbrev Tk (X : Cx) (W : WX) : Prop := Takes X W
section
variable {X : Cx} {W : WX} {k : Nat} {x m : Str} {ps : List Str} {g : List D → Mem → Res D} {a : AF} {p pos apos : Pos} {e o : Expr} {es : List Expr} {fo : EF}
theorem up_call {σ : St} {H : Hp} {Q : VK} (h : Up (cn X) W (DV (cn X)) (eCall g a) σ H Q) : Up (cn X) W (DVs (cn X)) a σ H (fun vs H1 => spF (cn X) g vs H1 Q (WE W σ)) := by
  refine Up.imp (Up.bind h) fun vs H1 ⟨G, S, ds, M, r, s, q, p⟩ => ?_
  exact ⟨G, ds, M, r, q, p.wish fun _ _ _ z => z⟩
theorem qcall (F : Has X.prog X.w X.K X.mg X.base k x ps g) (hr : RoomG k X.A) (tk : Takes X W) (hg : Gl X x) (ha : QA X W (e :: es) a) (hdb : (x == ("__debug__" : Str)) = false := by decide)
    (he : starEach (e :: es) X.env = (false, eval e X.env) :: starEach es X.env := by rfl) (hpl : (backTo pos (starEach es X.env)).any (·.1) = false := by rfl) : QE X W (.Call (.Name x p) (e :: es) [] pos) (eCall g a) := by
  obtain ⟨f, fd, m1, kp, b, ok⟩ := F
  exact PE.imp (pe_callG (E := WE W) ok hr hg m1 kp b (passAt tk) ha hdb he hpl) fun _ _ _ h => up_call h
/-- o.m(..): o an instance of the class cl -/
def isObj (cl : Str) (d : D) (M : Mem) : Option (List (Str × D)) := match d with
  | .obj c fs => if c = cl then some fs else none
  | .ptr k => match M[k]? with
    | some (.obj c fs) => if c = cl then some fs else none
    | _ => none
  | _ => none
def eMeth (cl m : Str) (g : List D → Mem → Res D) (o : EF) (a : AF) : EF := fun S M => (o S M).bind fun d M1 => match isObj cl d M1 with
  | some fs => if fs.lookup m = none then (a S M1).bind fun ds M2 => g (d :: ds) M2 else .bad
  | none => .bad
theorem DVf.lookup {c : Cn} {G : Gd} {f : Str} : ∀ {fs : List (Str × D)} {ws : List (Str × V)}, DVf c G fs ws → match fs.lookup f with | some d => ∃ v, ws.lookup f = some v ∧ DV c G d v | none => ws.lookup f = none
  | [], _, h => by
    cases (show _ = [] from h)
    rfl
  | (n, d) :: r, _, h => by
    obtain ⟨⟨n', v⟩, t, rfl, ⟨e, q⟩, h⟩ := h
    have e' : n' = n := e
    subst e'
    have ih := DVf.lookup (f := f) h
    simp only [List.lookup_cons]
    cases z : f == n' with
    | true => exact ⟨v, rfl, q⟩
    | false => exact ih
theorem isObj_at {c : Cn} {G : Gd} {H : Hp} {M : Mem} {cl : Str} {d : D} {v : V} {fs : List (Str × D)} {C : Addr} (r : Rep c G H M) (hC : c.mg cl = some (.ref C)) (h : isObj cl d M = some fs) (q : DV c G d v) :
    ∃ a dx ws, v = .ref a ∧ H a = some (.ins C dx ws) ∧ DVf c G fs ws := by
  unfold isObj at h
  split at h
  · rename_i c' fs'
    split at h
    · rename_i ec
      cases h
      subst ec
      obtain ⟨a, C', dx, ws, rfl, q1, q2, q3⟩ := q
      rw [hC] at q2
      cases q2
      exact ⟨a, dx, ws, rfl, r.fz.ins q1, q3⟩
    · cases h
  · rename_i k'
    split at h
    · rename_i c' fs' ek
      split at h
      · rename_i ec
        cases h
        subst ec
        obtain ⟨a, e1, rfl⟩ := q
        obtain ⟨C', dx, ws, q1, q2, q3⟩ := r.mem k' _ a ek e1
        rw [hC] at q2
        cases q2
        exact ⟨a, dx, ws, rfl, q1, q3⟩
      · cases h
    · cases h
  · cases h
theorem qmeth0 {pl : Sem Bool} {cl : Str} {C : Addr} (F : HasM X.prog X.w X.K X.mg X.base k cl m ps g) (hC : X.mg cl = some (.ref C)) (c : Cls X.K C) (hr : RoomG k X.A) (tk : Takes X W) (ho : QE X W o fo)
    (ht : eval (.Call (.Attribute o m apos) [] [] pos) X.env = (do
      let ov ← eval o X.env
      standAt apos.atName
      let (f, first) ← holding [ov] (getMethod ov m pl)
      callWith pos f first (backTo pos (starEach [] X.env)) (backToKw pos (keywordEach [] X.env))) := by rfl) : QE X W (.Call (.Attribute o m apos) [] [] pos) (eMeth cl m g fo aNil) := by
  obtain ⟨C', f, fd, m1, hm, b, ok⟩ := F
  have eC : C' = C := by
    rw [hC] at m1
    cases m1
    rfl
  subst eC
  refine ⟨fun pins s σ H Q I h => ?_⟩
  refine PySem.W.methodCall_KW (pl := pl) (thn (PE.run ho pins s σ H _ I (Up.bind h)) fun u s1 ⟨x, H1, I1, rx, G, S, d, M, r, sl, q, p⟩ => ?_) ht
  split at p
  · rename_i fs hfs
    split at p
    · rename_i hl
      obtain ⟨a0, dx, ws, rfl, e1, e2⟩ := isObj_at r hC hfs q
      obtain rfl : u = Value.ref a0 := rx
      have lk := e2.lookup (f := m)
      rw [hl] at lk
      refine getmeth_ok I1 e1 c hm lk ?_
      exact PySem.W.callWith_K0 (first := [.ref a0]) I1.kIn hm.kp (run_fnG (us := [.ref a0]) (xs := [.ref a0]) (E := WE W) ok hr b (passAt tk σ) I1 (.cons rfl .nil) ⟨G, [d], M, r, DVs.one q, Post.wish p fun _ _ _ z => z⟩)
    · exact p.elim
  · exact p.elim
/-- o.f -/
def eFld (cl f : Str) (o : EF) : EF := fun S M => (o S M).bind fun d M1 => match isObj cl d M1 with
  | some fs => match fs.lookup f with
    | some y => .ok y M1
    | none => .bad
  | none => .bad
theorem qfld {cl f : Str} {C : Addr} (hC : X.mg cl = some (.ref C)) (c : Cls X.K C) (na : NoAttr X.K C f) (ho : QE X W o fo) (hb : attributeBase o f X.env (eval o X.env) = eval o X.env := by rfl) : QE X W (.Attribute o f pos) (eFld cl f fo) := PE.imp (pe_fld ho hb) fun σ H Q h => by
  refine Up.imp (Up.bind h) fun v H1 ⟨G, S, d, M, r, s, q, p⟩ => ?_
  split at p
  · rename_i fs hfs
    split at p
    · rename_i y hy
      obtain ⟨a0, dx, ws, rfl, e1, e2⟩ := isObj_at r hC hfs q
      have lk := e2.lookup (f := f)
      rw [hy] at lk
      obtain ⟨v, lk, qv⟩ := lk
      exact ⟨a0, C, dx, ws, v, rfl, e1, c, na, lk, p G v H1 (Gr.refl _) r qv⟩
    · exact p.elim
  · exact p.elim
/-- o.f = e -/
def putD (f : Str) (d : D) : List (Str × D) → List (Str × D)
  | [] => [(f, d)]
  | (g, y) :: r => if g = f then (g, d) :: r else (g, y) :: putD f d r
theorem DVf.put {c : Cn} {G : Gd} {f : Str} {d : D} {v : V} (q : DV c G d v) : ∀ {fs : List (Str × D)} {ws : List (Str × V)}, DVf c G fs ws → DVf c G (putD f d fs) (putF f v ws)
  | [], _, h => by
    cases (show _ = [] from h)
    exact ⟨(f, v), [], rfl, ⟨rfl, q⟩, rfl⟩
  | (g, y) :: r, _, h => by
    obtain ⟨⟨g', u⟩, t, rfl, ⟨e, qu⟩, h⟩ := h
    have e' : g' = g := e
    subst e'
    unfold putD putF
    by_cases z : g' = f
    · rw [if_pos z]
      first
        | (rw [if_pos z]; exact ⟨_, t, rfl, ⟨rfl, q⟩, h⟩)
        | (simp only [z, if_true]; exact ⟨_, t, rfl, ⟨rfl, q⟩, h⟩)
    · rw [if_neg z]
      first
        | (rw [if_neg z]; exact ⟨_, _, rfl, ⟨rfl, qu⟩, h.put q⟩)
        | (simp only [z, if_false]; exact ⟨_, _, rfl, ⟨rfl, qu⟩, h.put q⟩)
theorem DVf.length {c : Cn} {G : Gd} : ∀ {fs : List (Str × D)} {ws : List (Str × V)}, DVf c G fs ws → ws.length = fs.length
  | [], _, h => by
    cases (show _ = [] from h)
    rfl
  | _ :: _, _, h => by
    obtain ⟨v, t, e, q, r⟩ := h
    rw [e, List.length_cons, List.length_cons, DVf.length r]
def kFld (cl f : Str) (o v : EF) : TF := fun S M => (v S M).thn S fun y M1 => (o S M1).thn S fun d M2 => match d with
  | .ptr k => match M2[k]? with
    | some (.obj c fs) => if c = cl ∧ fs.length < 1000 then .nx S (M2.set k (.obj c (putD f y fs))) else .bad
    | _ => .bad
  | _ => .bad
theorem qsfld {cl f : Str} {C : Addr} {v : Expr} {fv : EF} {pos' : Pos} (hC : X.mg cl = some (.ref C)) (c : Cls X.K C) (na : NoAttr X.K C f) (ho : QE X W o fo) (hv : QE X W v fv) (hs : swapsWith v (some (.Attribute o f pos')) pos.line X.env = pure false := by rfl) :
    QS X W (.Assign [.Attribute o f pos'] v pos) (kFld cl f fo fv) := PS.imp (ps_fld ho hv hs) fun D σ H h => by
  refine Up.imp (UpS.thn h) fun y H1 ⟨G, S, dy, M, r, s, q, p⟩ => ?_
  refine ⟨G, S, M, r, s, (PostS.thnE (rel := DV (cn X)) s p).imp fun x H2 ⟨G2, d, M2, g2, r2, q2, p2⟩ => ?_⟩
  split at p2
  · rename_i k'
    split at p2
    · rename_i c' fs' ek
      split at p2
      · rename_i ec
        obtain ⟨ec, hl⟩ := ec
        subst ec
        obtain ⟨a, e1, rfl⟩ := q2
        obtain ⟨C', dx, ws, q3, q4, q5⟩ := r2.mem k' _ a ek e1
        have q4' : X.mg c' = some (.ref C') := q4
        rw [hC] at q4'
        cases q4'
        refine ⟨a, C, dx, ws, rfl, q3, c, na, by rw [q5.length]; exact hl, ?_⟩
        exact p2 G2 σ _ (Gr.refl _) (r2.write ek e1 rfl ⟨C, dx, _, upd_same, q4, q5.put (q.mono g2)⟩) (s.mono g2)
      · exact p2.elim
    · exact p2.elim
  · exact p2.elim
/-- C(..) -/
def eMake (cl : Str) (g : List D → Mem → Res D) (a : AF) : EF := fun S M => (a S M).bind fun ds M1 => match g (.ptr M1.length :: ds) (M1 ++ [.obj cl []]) with
  | .ok .non M2 => .ok (.ptr M1.length) M2
  | .rz x M2 => settle M1.length (.rz x M2)
  | _ => .bad
/-- a class that can be made: its __init__ keeps g -/
def HasC (P : Program) (w : World) (K : PySem.W.Frag) (mg : Str → Option Value) (base : Heap) (k : Nat) (cl : Str) (ps : List Str) (g : List D → Mem → Res D) : Prop :=
  ∃ C f fd, mg cl = some (.ref C) ∧ Mk K C f ∧ Binds K fd ps [] ∧ FnOkG P w K mg base k f fd ps (spF ⟨K, mg⟩ g)
theorem up_make {c : Cn} {cl : Str} {C : Addr} {σ : St} {H : Hp} {Q : VK} (hC : c.mg cl = some (.ref C)) (h : Up c W (DV c) (eMake cl g a) σ H Q) :
    Up c W (DVs c) a σ H (fun vs H1 => ∀ x dx, H1 x = none → H1 dx = none → dx ≠ x → spF c g (.ref x :: vs) (upd (upd H1 dx (.own x)) x (.ins C dx [])) (fun v H2 => v = .non ∧ Q (.ref x) H2) (WE W σ)) := by
  refine Up.imp (Up.bind h) fun vs H1 ⟨G, S, ds, M, r, s, q, p⟩ x dx nx ndx ne => ?_
  have g1 : Gr G { G with F := upd G.F dx (.own x) } := Gr.newF (r.fz.free ndx)
  have r1 := r.newF (o := .own x) ndx
  have nx1 : upd H1 dx (.own x) x = none := by rw [upd_ne (Ne.symm ne)]; exact nx
  have g2 := Gr.newP (G := { G with F := upd G.F dx (.own x) }) x
  have r2 := r1.newP (o := .ins C dx []) (mo := .obj cl []) nx1 ⟨C, dx, [], upd_same, hC, rfl⟩
  have hp : (G.θ ++ [x])[M.length]? = some x := by
    rw [← r.len, List.getElem?_append_right (Nat.le_refl _), Nat.sub_self]
    rfl
  refine ⟨_, .ptr M.length :: ds, M ++ [.obj cl []], r2, DVs.cons ⟨x, hp, rfl⟩ (q.mono (g1.trans g2)), ?_⟩
  cases e : g (.ptr M.length :: ds) (M ++ [.obj cl []]) with
  | ok d M2 =>
    simp only [e] at p
    cases d with
    | non => exact fun G3 v H3 g3 r3 q3 => ⟨q3, p G3 (.ref x) H3 ((g1.trans g2).trans g3) r3 ⟨x, g3.at hp, rfl⟩⟩
    | _ => exact p.elim
  | rz y M2 =>
    simp only [e] at p
    have p2 := Post.settle (r := .rz y M2) (by rw [r.len]; exact p)
    exact fun G3 cls dd H3 g3 r3 q3 => p2 G3 cls dd H3 ((g1.trans g2).trans g3) r3 q3
  | bad =>
    simp only [e] at p
    exact p.elim
theorem run_makeS {C f : Addr} {fd : FuncData} {sp : Sp} {E : XK} {pins : List (Addr × Obj)} {σ : St} {H : Hp} {s : Shared} {Q : VK} {us : List Value} {vs : List V} (M : Mk X.K C f) (F : FnOkG X.prog X.w X.K X.mg X.base k f fd ps sp) (hr : RoomG (k + 1) X.A) (hb : Binds X.K fd ps [])
    (hx : PassesAt (L2.CX X.prog X.w) X σ E) (I : Inv X pins σ H s) (r : Vals vs us)
    (h : ∀ x dx, H x = none → H dx = none → dx ≠ x → sp (.ref x :: vs) (upd (upd H dx (.own x)) x (.ins C dx [])) (fun v H2 => v = .non ∧ Q (.ref x) H2) E) :
    wpAny (model X.prog X.w) X.A (call (.ref C) us) (EP X pins σ Q) X.xe s := by
  have hq := h (s.heap.objs.size + 1) s.heap.objs.size (I.hok.fresh (Nat.le_succ _)) (I.hok.fresh (Nat.le_refl _)) (Nat.ne_of_lt (Nat.lt_succ_self _))
  have J := Inv.made (C := C) I
  have rv : Vals (V.ref (s.heap.objs.size + 1) :: vs) (Value.ref (s.heap.objs.size + 1) :: us) := .cons rfl r
  have hl : (Value.ref (s.heap.objs.size + 1) :: us).length = ps.length := rv.length.symm.trans (F.len _ _ _ _ hq)
  have bb := hb _ (Value.ref (s.heap.objs.size + 1) :: us) J.kIn (by rw [List.append_nil]; exact hl)
  rw [List.append_nil] at bb
  refine wpAny_call (make_map (f := f) I.kIn M.makes M.init (beq_iff_eq.mp M.fn) (codeAny_mono (F.run _ X.stack _ _ _ _ _ _ E (hr.make C us []) (J.env0.make C us []) bb rv hq) fun r s' z => ?_))
  cases r with
  | error e => exact hx pins _ _ e s' J z
  | ok fl =>
    cases fl with
    | ret u =>
      obtain ⟨v, H', I3, rv, ev, q3⟩ := J.after z
      subst ev
      exact ⟨rv, ⟨V.ref (s.heap.objs.size + 1), H', I3, rfl, q3⟩⟩
    | next => exact False.elim z
    | brk => exact False.elim z
    | cont => exact False.elim z
theorem qmake (F : HasC X.prog X.w X.K X.mg X.base k x ps g) (hr : RoomG (k + 1) X.A) (tk : Takes X W) (hg : Gl X x) (ha : QA X W (e :: es) a) (hdb : (x == ("__debug__" : Str)) = false := by decide)
    (he : starEach (e :: es) X.env = (false, eval e X.env) :: starEach es X.env := by rfl) (hpl : (backTo pos (starEach es X.env)).any (·.1) = false := by rfl) : QE X W (.Call (.Name x p) (e :: es) [] pos) (eMake x g a) := by
  obtain ⟨C, f, fd, m1, M, b, ok⟩ := F
  refine ⟨fun pins s σ H Q I h => ?_⟩
  refine wpAny_Call_Name_kw (ld_glob I hg m1 ?_ hdb)
  refine PySem.W.callWith_K (h₀ := X.base) I.ok.mod.kin M.kp (thn (PA.run ha pos pins s σ H _ I (up_make m1 h)) fun us s1 ⟨vs, H1, I1, r, q⟩ => ⟨I1.kIn, ?_⟩) he hpl
  exact run_makeS M ok hr b (passAt tk σ) I1 r q
end

/-! ### what changed before will not change any more -/
/-- the thing at a place of the store, as data -/
def frz (d : D) (M : Mem) : Option (D × Mem) := match d with
  | .ptr k => match M[k]? with
    | some (.lst ds) => some (.lst ds, M.set k .gone)
    | some (.dK kvs) => some (.dK kvs, M.set k .gone)
    | some (.dT kvs) => some (.dT kvs, M.set k .gone)
    | some (.obj c fs) => some (.obj c fs, M.set k .gone)
    | _ => none
  | d => some (d, M)
def eFrz (e : EF) : EF := fun S M => (e S M).bind fun d M1 => match frz d M1 with
  | some (d', M2) => .ok d' M2
  | none => .bad
/-- a place that is gone stands as a dict that will not change -/
theorem Rep.relock {c : Cn} {G : Gd} {H : Hp} {M : Mem} (r : Rep c G H M) {k : Nat} {a : Addr} {kvs : List (Key × D)} (e1 : k < M.length) (e2 : G.θ[k]? = some a) (h : MOk c G H (.lkK kvs) a) : Rep c G H (M.set k (.lkK kvs)) := by
  refine ⟨r.fz, by rw [List.length_set]; exact r.len, r.nd, fun j x b q1 q2 => ?_, fun j x b q1 q2 lx => ?_, r.liv, r.pin⟩
  · by_cases hj : k = j
    · subst hj
      rw [List.getElem?_set_self e1] at q1
      rw [e2] at q2
      cases q1
      cases q2
      exact h
    · rw [List.getElem?_set_ne hj] at q1
      exact r.mem j x b q1 q2
  · by_cases hj : k = j
    · subst hj
      rw [List.getElem?_set_self e1] at q1
      cases q1
      cases lx
    · rw [List.getElem?_set_ne hj] at q1
      exact r.sep j x b q1 q2 lx
/-- a dict that will not change any more, and can still be read at its place -/
def frzK (d : D) (M : Mem) : Option (D × Mem) := match d with
  | .ptr k => match M[k]? with
    | some (.dK kvs) => some (.dK kvs, M.set k (.lkK kvs))
    | some (.lkK kvs) => some (.dK kvs, M)
    | _ => none
  | _ => none
def eFrzK (e : EF) : EF := fun S M => (e S M).bind fun d M1 => match frzK d M1 with
  | some (d', M2) => .ok d' M2
  | none => .bad
theorem qfrzK {X : Cx} {W : WX} {e : Expr} {f : EF} (h : QE X W e f) : QE X W e (eFrzK f) := PE.imp (pe_lkO h) fun σ H Q h => by
  refine Up.imp (Up.bind h) fun v H1 ⟨G, S, d, M, r, s, q, p⟩ => ?_
  unfold frzK at p
  split at p
  · rename_i d' M2 hf
    split at hf
    · rename_i k
      obtain ⟨a, e1, rfl⟩ := q
      split at hf
      · rename_i ds ek
        cases hf
        obtain ⟨vs, hu, q⟩ := r.mem k _ a ek e1
        refine .inr ⟨a, _, hu, trivial, fun od => ?_⟩
        obtain ⟨g, r'⟩ := r.freezeX (o := .frz od (.dK vs)) ek e1 rfl
        have hk : k < (M.set k .gone).length := by rw [List.length_set]; exact (List.getElem?_eq_some_iff.mp ek).1
        have r2 := r'.relock (kvs := ds) hk (show _ = some a from e1) ⟨vs, od, upd_same, q.mono g⟩
        rw [List.set_set] at r2
        exact p _ _ _ g r2 ⟨a, vs, od, rfl, upd_same, q.mono g⟩
      · rename_i ds ek
        cases hf
        obtain ⟨vs, od, hu, q⟩ := r.mem k _ a ek e1
        exact .inl (p _ _ H1 (Gr.refl _) r ⟨a, vs, od, rfl, hu, q⟩)
      · cases hf
    · cases hf
  · exact p.elim
theorem qfrz {X : Cx} {W : WX} {e : Expr} {f : EF} (h : QE X W e f) : QE X W e (eFrz f) := PE.imp (pe_lkO h) fun σ H Q h => by
  refine Up.imp (Up.bind h) fun v H1 ⟨G, S, d, M, r, s, q, p⟩ => ?_
  unfold frz at p
  split at p
  · rename_i d' M2 hf
    split at hf
    · rename_i k
      obtain ⟨a, e1, rfl⟩ := q
      split at hf
      · rename_i ds ek
        cases hf
        obtain ⟨vs, hu, q⟩ := r.mem k _ a ek e1
        obtain ⟨g, r'⟩ := r.freeze ek e1 rfl hu
        exact .inl (p _ _ H1 g r' ⟨a, vs, rfl, .inl (.inl upd_same), q.mono g⟩)
      · rename_i ds ek
        cases hf
        obtain ⟨vs, hu, q⟩ := r.mem k _ a ek e1
        refine .inr ⟨a, _, hu, trivial, fun od => ?_⟩
        obtain ⟨g, r'⟩ := r.freezeX (o := .frz od (.dK vs)) ek e1 rfl
        exact p _ _ _ g r' ⟨a, vs, od, rfl, upd_same, q.mono g⟩
      · rename_i ds ek
        cases hf
        obtain ⟨vs, hu, q⟩ := r.mem k _ a ek e1
        refine .inr ⟨a, _, hu, trivial, fun od => ?_⟩
        obtain ⟨g, r'⟩ := r.freezeX (o := .frz od (.dT vs)) ek e1 rfl
        exact p _ _ _ g r' ⟨a, vs, od, rfl, upd_same, q.mono g⟩
      · rename_i n fs ek
        cases hf
        obtain ⟨C, dx, vs, hu, m, q⟩ := r.mem k _ a ek e1
        obtain ⟨g, r'⟩ := r.freeze ek e1 rfl hu
        exact .inl (p _ _ H1 g r' ⟨a, C, dx, vs, rfl, upd_same, m, q.mono g⟩)
      · cases hf
    · cases hf
      exact .inl (p G _ H1 (Gr.refl G) r q)
  · exact p.elim
end QL
end
section
set_option Elab.async false
set_option linter.all false
set_option maxRecDepth 100000
set_option maxHeartbeats 4000000
set_option autoImplicit false
/-! QOps: operators, subscripts, slices, the calls of built-ins, on data. -/
namespace QL
open PySem PySem.Spec L2

/-! ### reading a place of the store -/
def asL (M : Mem) : D → Option (List D)
  | .lst ds => some ds
  | .ptr k => match M[k]? with
    | some (.lst ds) => some ds
    | _ => none
  | _ => none
def asK (M : Mem) : D → Option (List (Key × D))
  | .dK ds => some ds
  | .ptr k => match M[k]? with
    | some (.dK ds) => some ds
    | some (.lkK ds) => some ds
    | some (.wkK ds _) => some ds
    | _ => none
  | _ => none
def asTt (M : Mem) : D → Option (List (List Key × D))
  | .dT ds => some ds
  | .ptr k => match M[k]? with
    | some (.dT ds) => some ds
    | some (.lkT ds) => some ds
    | some (.wkT ds _) => some ds
    | _ => none
  | _ => none
section
variable {c : Cn} {G : Gd} {H : Hp} {M : Mem} {d : D} {v : V}
theorem asL_at {ds : List D} (r : Rep c G H M) (q : DV c G d v) (h : asL M d = some ds) : ∃ a vs, v = .ref a ∧ SqL c.K H a vs ∧ DVs c G ds vs := by
  unfold asL at h
  split at h
  · cases h
    obtain ⟨a, vs, e, s, t⟩ := q
    exact ⟨a, vs, e, r.fz.sqL s, t⟩
  · rename_i k
    split at h
    · rename_i ds' ek
      cases h
      obtain ⟨a, e1, e⟩ := q
      obtain ⟨vs, hu, t⟩ := r.mem k _ a ek e1
      exact ⟨a, vs, e, .inl (.inl hu), t⟩
    · cases h
  · cases h
theorem asK_at {ds : List (Key × D)} (r : Rep c G H M) (q : DV c G d v) (h : asK M d = some ds) : ∃ a vs, v = .ref a ∧ Rd H a (.dK vs) ∧ DVk c G ds vs := by
  unfold asK at h
  split at h
  · cases h
    obtain ⟨a, vs, o, e, s, t⟩ := q
    refine ⟨a, vs, e, .inr ⟨o, ?_⟩, t⟩
    rcases r.fz _ _ s with z | ⟨z, _⟩
    · exact z
    · cases z
  · rename_i k
    split at h
    · rename_i ds' ek
      cases h
      obtain ⟨a, e1, e⟩ := q
      obtain ⟨vs, hu, t⟩ := r.mem k _ a ek e1
      exact ⟨a, vs, e, .inl hu, t⟩
    · rename_i ds' ek
      cases h
      obtain ⟨a, e1, e⟩ := q
      obtain ⟨vs, o, hu, t⟩ := r.mem k _ a ek e1
      refine ⟨a, vs, e, .inr ⟨o, ?_⟩, t⟩
      rcases r.fz _ _ hu with z | ⟨z, _⟩
      · exact z
      · cases z
    · rename_i ds' ep ek
      cases h
      obtain ⟨a, e1, e⟩ := q
      obtain ⟨vs, o, hu, _, t⟩ := r.mem k _ a ek e1
      exact ⟨a, vs, e, .inr ⟨o, hu⟩, t⟩
    · cases h
  · cases h
theorem asTt_at {ds : List (List Key × D)} (r : Rep c G H M) (q : DV c G d v) (h : asTt M d = some ds) : ∃ a vs, v = .ref a ∧ Rd H a (.dT vs) ∧ DVt c G ds vs := by
  unfold asTt at h
  split at h
  · cases h
    obtain ⟨a, vs, o, e, s, t⟩ := q
    refine ⟨a, vs, e, .inr ⟨o, ?_⟩, t⟩
    rcases r.fz _ _ s with z | ⟨z, _⟩
    · exact z
    · cases z
  · rename_i k
    split at h
    · rename_i ds' ek
      cases h
      obtain ⟨a, e1, e⟩ := q
      obtain ⟨vs, hu, t⟩ := r.mem k _ a ek e1
      exact ⟨a, vs, e, .inl hu, t⟩
    · rename_i ds' ek
      cases h
      obtain ⟨a, e1, e⟩ := q
      obtain ⟨vs, o, hu, t⟩ := r.mem k _ a ek e1
      refine ⟨a, vs, e, .inr ⟨o, ?_⟩, t⟩
      rcases r.fz _ _ hu with z | ⟨z, _⟩
      · exact z
      · cases z
    · rename_i ds' ep ek
      cases h
      obtain ⟨a, e1, e⟩ := q
      obtain ⟨vs, o, hu, _, t⟩ := r.mem k _ a ek e1
      exact ⟨a, vs, e, .inr ⟨o, hu⟩, t⟩
    · cases h
  · cases h
/-- a list of ints, of texts, of truth values -/
theorem DVs.ints : ∀ {ns : List Int} {vs : List V}, DVs c G (ns.map D.int) vs → vs = ns.map V.int
  | [], _, h => h
  | n :: ns, _, h => by
    obtain ⟨v, t, e, q, r⟩ := h
    rw [e, show v = .int n from q, DVs.ints r]
    rfl
theorem DVs.strs : ∀ {ns : List Str} {vs : List V}, DVs c G (ns.map D.str) vs → vs = ns.map V.str
  | [], _, h => h
  | n :: ns, _, h => by
    obtain ⟨v, t, e, q, r⟩ := h
    rw [e, show v = .str n from q, DVs.strs r]
    rfl
theorem DVs.bls : ∀ {ns : List Bool} {vs : List V}, DVs c G (ns.map D.bl) vs → vs = ns.map V.bl
  | [], _, h => h
  | n :: ns, _, h => by
    obtain ⟨v, t, e, q, r⟩ := h
    rw [e, show v = .bl n from q, DVs.bls r]
    rfl
theorem DVs.take {ds : List D} {vs : List V} (h : DVs c G ds vs) (n : Nat) : DVs c G (ds.take n) (vs.take n) := by
  induction ds generalizing vs n with
  | nil =>
    cases (show vs = [] from h)
    simp
    rfl
  | cons d r ih =>
    obtain ⟨v, t, rfl, q, r'⟩ := h
    cases n with
    | zero => exact rfl
    | succ n => exact ⟨v, t.take n, rfl, q, ih r' n⟩
theorem DVs.drop {ds : List D} {vs : List V} (h : DVs c G ds vs) (n : Nat) : DVs c G (ds.drop n) (vs.drop n) := by
  induction ds generalizing vs n with
  | nil =>
    cases (show vs = [] from h)
    simp
    rfl
  | cons d r ih =>
    obtain ⟨v, t, rfl, q, r'⟩ := h
    cases n with
    | zero => exact ⟨v, t, rfl, q, r'⟩
    | succ n => exact ih r' n
end
/-- a list of ints as such -/
def intsOf : List D → Option (List Int)
  | [] => some []
  | .int i :: r => (intsOf r).map (i :: ·)
  | _ => none
def strsOf : List D → Option (List Str)
  | [] => some []
  | .str i :: r => (strsOf r).map (i :: ·)
  | _ => none
def blsOf : List D → Option (List Bool)
  | [] => some []
  | .bl i :: r => (blsOf r).map (i :: ·)
  | _ => none
theorem strsOf_map : ∀ ns : List Str, strsOf (ns.map D.str) = some ns
  | [] => rfl
  | n :: r => by simp [strsOf, strsOf_map r]
theorem strsOf_eq : ∀ {ds : List D} {ns : List Str}, strsOf ds = some ns → ds = ns.map D.str
  | [], _, h => by cases h; rfl
  | d :: r, ns, h => by
    cases d with
    | str i =>
      simp only [strsOf] at h
      cases e : strsOf r with
      | none => rw [e] at h; cases h
      | some l => rw [e] at h; cases h; rw [strsOf_eq e]; rfl
    | _ => cases h
theorem blsOf_eq : ∀ {ds : List D} {ns : List Bool}, blsOf ds = some ns → ds = ns.map D.bl
  | [], _, h => by cases h; rfl
  | d :: r, ns, h => by
    cases d with
    | bl i =>
      simp only [blsOf] at h
      cases e : blsOf r with
      | none => rw [e] at h; cases h
      | some l => rw [e] at h; cases h; rw [blsOf_eq e]; rfl
    | _ => cases h

/-! ### arithmetic -/
def fAdd (x y : D) (M : Mem) : Res D := match x, y with
  | .int i, .int j => .ok (.int (i + j)) M
  | .str a, .str b => if a.length + b.length ≤ sizeLine then .ok (.str (a ++ b)) M else .bad
  | x, y => match asL M x, asL M y with
    | some xs, some ys => if xs.length + ys.length ≤ sizeLine then .ok (.lst (xs ++ ys)) M else .bad
    | _, _ => .bad
def fSub (x y : D) (M : Mem) : Res D := match x, y with
  | .int i, .int j => .ok (.int (i - j)) M
  | _, _ => .bad
open Classical in
noncomputable def fMul (x y : D) (M : Mem) : Res D := match x, y with
  | .int i, .int j => if CMulW i j then .ok (.int (i * j)) M else .bad
  | _, _ => .bad
open Classical in
noncomputable def fDiv (x y : D) (M : Mem) : Res D := match x, y with
  | .int i, .int j => if CDivW i j then .ok (.int (i / j)) M else .bad
  | _, _ => .bad
def fMod (x y : D) (M : Mem) : Res D := match x, y with
  | .int i, .int j => if 0 < j then .ok (.int (i % j)) M else .bad
  | _, _ => .bad
def fPow (x y : D) (M : Mem) : Res D := match x, y with
  | .int i, .int j => if 0 ≤ j ∧ j ≤ 1000000 ∧ i.natAbs < 2 ^ 64 then .ok (.int (i ^ j.toNat)) M else .bad
  | _, _ => .bad
/-- list + list -/
def rCatL (K : PySem.W.Frag) : R2 := fun x y H Q => ∃ l b xs zs, x = .ref l ∧ y = .ref b ∧ SqL K H l xs ∧ SqL K H b zs ∧ xs.length + zs.length ≤ sizeLine ∧ ∀ p, H p = none → Q (.ref p) (upd H p (.lst (xs ++ zs)))
section
variable {X : Cx}
theorem op_catL : OpR X (binaryOp .Add) (rCatL X.K) := by
  intro pins s σ H x y v u Q I rx ry h
  obtain ⟨l, b, xs, zs, rfl, rfl, hH, hB, hz, q⟩ := h
  cases rx
  cases ry
  obtain ⟨its, r, p1, z1⟩ := I.list hH
  obtain ⟨its2, r2, p2, z2⟩ := I.list hB
  obtain ⟨o1, n1, e1, c1, d1, k1⟩ := p1
  obtain ⟨o2, n2, e2, c2, d2, k2⟩ := p2
  have l1 := r.length
  have l2 := r2.length
  obtain ⟨oc1, od1, ok1, os1⟩ := o1
  obtain ⟨oc2, od2, ok2, os2⟩ := o2
  simp only at c1 d1 k1 c2 d2 k2
  subst c1 d1 k1 c2 d2 k2
  have ea : its.toArray ++ its2.toArray = (its ++ its2).toArray := by simp
  refine concat_meets ⟨_, e1, rfl⟩ ⟨_, e2, rfl⟩ noFill_list_add seq_list_add PySem.F.slot_list_add PySem.F.entry_list_add (PySem.F.args_list_add_2 _ _)
    (PyProof.Rows.list_addW l b its.toArray its2.toArray n1 n2 none none os1 os2 (by simp; omega)) ⟨e1, e2, ?_⟩
  rw [ea]
  exact ⟨.ref _, _, I.lnew (t' := s.toks) (r.append r2) (by rw [List.length_append]; omega), rfl, q _ I.fresh⟩
end
section
variable {X : Cx} {c : Cn}
def rAddA (K : PySem.W.Frag) : R2 := fun x y H Q => (rI0 (fun i j => .int (i + j)) x y H Q ∨ (∃ i j, x = .str i ∧ y = .str j ∧ i.length + j.length ≤ sizeLine ∧ Q (.str (i ++ j)) H)) ∨ rCatL K x y H Q
theorem op_addA : OpR X (binaryOp .Add) (rAddA X.K) := (op_add.or op_add_str).or op_catL
theorem r2_add : R2s c fAdd (rAddA c.K) := by
  intro W σ G H M x y dx dy Q r qx qy p
  unfold fAdd at p
  split at p
  · cases (show x = _ from qx)
    cases (show y = _ from qy)
    exact .inl (.inl ⟨_, _, rfl, rfl, p G _ H (Gr.refl _) r rfl⟩)
  · cases (show x = _ from qx)
    cases (show y = _ from qy)
    split at p
    · rename_i hz
      exact .inl (.inr ⟨_, _, rfl, rfl, hz, p G _ H (Gr.refl _) r rfl⟩)
    · exact p.elim
  · split at p
    · rename_i xs ys h1 h2
      split at p
      · rename_i hz
        obtain ⟨a, vs, e1, s1, t1⟩ := asL_at r qx h1
        obtain ⟨b, ws, e2, s2, t2⟩ := asL_at r qy h2
        refine .inr ⟨a, b, vs, ws, e1, e2, s1, s2, by rw [t1.length, t2.length]; exact hz, fun p' hp => ?_⟩
        have g := Gr.newF (G := G) (o := .lst (vs ++ ws)) (r.fz.free hp)
        exact p _ _ _ g (r.newF hp) ⟨p', _, rfl, .inl (.inl upd_same), (t1.append t2).mono g⟩
      · exact p.elim
    · exact p.elim
theorem r2_II {f : D → D → Mem → Res D} {C : Int → Int → Prop} {g : Int → Int → Int} (h : ∀ x y M, f x y M ≠ .bad → ∃ i j, x = .int i ∧ y = .int j ∧ C i j ∧ f x y M = .ok (.int (g i j)) M) : R2s c f (rI C fun i j => .int (g i j)) := by
  intro W σ G H M x y dx dy Q r qx qy p
  have nb : f dx dy M ≠ .bad := fun e => by rw [e] at p; exact p
  obtain ⟨i, j, rfl, rfl, hc, e⟩ := h dx dy M nb
  rw [e] at p
  exact ⟨i, j, qx, qy, hc, p G _ H (Gr.refl _) r rfl⟩
theorem r2_sub : R2s c fSub (rI0 fun i j => .int (i - j)) := by
  intro W σ G H M x y dx dy Q r qx qy p
  unfold fSub at p
  split at p
  · exact ⟨_, _, qx, qy, p G _ H (Gr.refl _) r rfl⟩
  · exact p.elim
theorem r2_mul : R2s c fMul (rI CMulW fun i j => .int (i * j)) := r2_II fun x y M h => by
  unfold fMul at h ⊢
  split at h
  · split at h
    · rename_i hc
      exact ⟨_, _, rfl, rfl, hc, by simp [hc]⟩
    · exact absurd rfl h
  · exact absurd rfl h
theorem r2_div : R2s c fDiv (rI CDivW fun i j => .int (i / j)) := r2_II fun x y M h => by
  unfold fDiv at h ⊢
  split at h
  · split at h
    · rename_i hc
      exact ⟨_, _, rfl, rfl, hc, by simp [hc]⟩
    · exact absurd rfl h
  · exact absurd rfl h
theorem r2_mod : R2s c fMod (rI (fun _ j => 0 < j) fun i j => .int (i % j)) := r2_II fun x y M h => by
  unfold fMod at h ⊢
  split at h
  · split at h
    · rename_i hc
      exact ⟨_, _, rfl, rfl, hc, by simp [hc]⟩
    · exact absurd rfl h
  · exact absurd rfl h
theorem r2_pow : R2s c fPow (rI CPow fun i j => .int (i ^ j.toNat)) := r2_II fun x y M h => by
  unfold fPow at h ⊢
  split at h
  · split at h
    · rename_i hc
      exact ⟨_, _, rfl, rfl, hc, by simp [hc]⟩
    · exact absurd rfl h
  · exact absurd rfl h
variable {W : WX} {pos : Pos} {a b : Expr} {fa fb : EF}
theorem qadd (ha : QE X W a fa) (hb : QE X W b fb) : QE X W (.BinOp a .Add b pos) (e2 fAdd fa fb) := q_op op_addA r2_add ha hb
theorem qsub (ha : QE X W a fa) (hb : QE X W b fb) : QE X W (.BinOp a .Sub b pos) (e2 fSub fa fb) := q_op op_sub r2_sub ha hb
theorem qmul (ha : QE X W a fa) (hb : QE X W b fb) : QE X W (.BinOp a .Mult b pos) (e2 fMul fa fb) := q_op op_mulW r2_mul ha hb
theorem qdiv (ha : QE X W a fa) (hb : QE X W b fb) : QE X W (.BinOp a .FloorDiv b pos) (e2 fDiv fa fb) := q_op op_fdivW r2_div ha hb
theorem qmod (ha : QE X W a fa) (hb : QE X W b fb) : QE X W (.BinOp a .Mod b pos) (e2 fMod fa fb) := q_op op_mod r2_mod ha hb
theorem qpow (ha : QE X W a fa) (hb : QE X W b fb) : QE X W (.BinOp a .Pow b pos) (e2 fPow fa fb) := q_op op_pow r2_pow ha hb
def eNeg (a : EF) : EF := fun S M => (a S M).bind fun x M1 => match x with
  | .int i => .ok (.int (-i)) M1
  | _ => .bad
theorem qneg (ha : QE X W a fa) : QE X W (.UnaryOp .USub a pos) (eNeg fa) := PE.imp (pe_un un_neg ha) fun σ H Q h => by
  refine Up.imp (Up.bind h) fun v H1 ⟨G, S, d, M, r1, s, q, p⟩ => ?_
  split at p
  · exact ⟨_, q, p G _ H1 (Gr.refl _) r1 rfl⟩
  · exact p.elim
end

/-! ### data without a store: what == and < say -/
mutual
def toPy : D → PyData
  | .non => .none
  | .bl b => .bool b
  | .int i => .int i
  | .str x => .str x
  | .tup ds => .tuple (toPys ds)
  | .lst ds => .list (toPys ds)
  | _ => .none
def toPys : List D → List PyData
  | [] => []
  | d :: r => toPy d :: toPys r
end
mutual
/-- plain data of depth below n -/
def okD : Nat → D → Bool
  | _, .non => true
  | _, .bl _ => true
  | _, .int _ => true
  | _, .str x => PyData.strOk x
  | n, .tup ds => match n with
    | 0 => false
    | n + 1 => okDs n ds
  | n, .lst ds => match n with
    | 0 => false
    | n + 1 => okDs n ds
  | _, _ => false
def okDs : Nat → List D → Bool
  | _, [] => true
  | n, d :: r => okD n d && okDs n r
end
mutual
theorem okD_lay : ∀ {n : Nat} {d : D}, okD n d = true → (toPy d).canLay0 = true ∧ (toPy d).depth ≤ n
  | _, .non, _ => by simp [toPy, PyData.canLay0, PyData.depth]
  | _, .bl _, _ => by simp [toPy, PyData.canLay0, PyData.depth]
  | _, .int _, _ => by simp [toPy, PyData.canLay0, PyData.depth]
  | _, .str x, h => by
    simp only [okD] at h
    simp [toPy, PyData.canLay0, PyData.depth, h]
  | 0, .tup ds, h => by simp [okD] at h
  | n + 1, .tup ds, h => by
    simp only [okD] at h
    obtain ⟨h1, h2⟩ := okDs_lay h
    simp only [toPy, PyData.canLay0, PyData.depth]
    exact ⟨h1, by omega⟩
  | 0, .lst ds, h => by simp [okD] at h
  | n + 1, .lst ds, h => by
    simp only [okD] at h
    obtain ⟨h1, h2⟩ := okDs_lay h
    simp only [toPy, PyData.canLay0, PyData.depth]
    exact ⟨h1, by omega⟩
  | _, .ptr _, h => by simp [okD] at h
  | _, .raw _, h => by simp [okD] at h
  | _, .dK _, h => by simp [okD] at h
  | _, .dT _, h => by simp [okD] at h
  | _, .obj _ _, h => by simp [okD] at h
  | _, .exc _ _ _ _, h => by simp [okD] at h
theorem okDs_lay : ∀ {n : Nat} {ds : List D}, okDs n ds = true → PyData.canLayAll0 (toPys ds) = true ∧ PyData.depthAll (toPys ds) ≤ n
  | _, [], _ => by simp [toPys, PyData.canLayAll0, PyData.depthAll]
  | n, d :: r, h => by
    simp only [okDs, Bool.and_eq_true] at h
    obtain ⟨a1, a2⟩ := okD_lay h.1
    obtain ⟨b1, b2⟩ := okDs_lay h.2
    simp only [toPys, PyData.canLayAll0, PyData.depthAll, Bool.and_eq_true]
    exact ⟨⟨a1, b1⟩, by omega⟩
end
theorem okD_shaped {d : D} (h : okD 64 d = true) : SeqAt.shaped (toPy d) = true := by
  obtain ⟨h1, h2⟩ := okD_lay h
  unfold SeqAt.shaped
  rw [h1, Bool.true_and]
  exact decide_eq_true h2
section
variable {c : Cn} {G : Gd} {H : Hp}
mutual
theorem DV.dp (z : Fz G.F H) : ∀ {n : Nat} {d : D} {v : V}, okD n d = true → DV c G d v → Dp c.K H v (toPy d)
  | _, .non, _, _, q => by rw [show _ = V.non from q, toPy]; exact .non
  | _, .bl b, _, _, q => by rw [show _ = V.bl b from q, toPy]; exact .bl b
  | _, .int b, _, _, q => by rw [show _ = V.int b from q, toPy]; exact .int b
  | _, .str b, _, _, q => by rw [show _ = V.str b from q, toPy]; exact .str b
  | 0, .tup ds, _, h, q => by simp [okD] at h
  | n + 1, .tup ds, _, h, q => by
    simp only [okD] at h
    obtain ⟨a, vs, rfl, s, t⟩ := q
    rw [toPy]
    exact .tup (.inl (.inl (z.tup s))) (DVs.dp z h t)
  | 0, .lst ds, _, h, q => by simp [okD] at h
  | n + 1, .lst ds, _, h, q => by
    simp only [okD] at h
    obtain ⟨a, vs, rfl, s, t⟩ := q
    rw [toPy]
    exact .lst (z.sqL s) (DVs.dp z h t)
  | _, .ptr _, _, h, _ => by simp [okD] at h
  | _, .raw _, _, h, _ => by simp [okD] at h
  | _, .dK _, _, h, _ => by simp [okD] at h
  | _, .dT _, _, h, _ => by simp [okD] at h
  | _, .obj _ _, _, h, _ => by simp [okD] at h
  | _, .exc _ _ _ _, _, h, _ => by simp [okD] at h
theorem DVs.dp (z : Fz G.F H) : ∀ {n : Nat} {ds : List D} {vs : List V}, okDs n ds = true → DVs c G ds vs → DpAll c.K H vs (toPys ds)
  | _, [], _, _, q => by rw [show _ = ([] : List V) from q, toPys]; exact .nil
  | n, d :: r, _, h, q => by
    simp only [okDs, Bool.and_eq_true] at h
    obtain ⟨v, t, rfl, q1, q2⟩ := q
    rw [toPys]
    exact .cons (DV.dp z h.1 q1) (DVs.dp z h.2 q2)
end
end
/-- what a place of the store holds, as data -/
def der (M : Mem) (d : D) : D := match asL M d with
  | some ds => .lst ds
  | none => d
theorem der_dp {c : Cn} {G : Gd} {H : Hp} {M : Mem} {d : D} {v : V} (r : Rep c G H M) (q : DV c G d v) (h : okD 64 (der M d) = true) : Dp c.K H v (toPy (der M d)) := by
  unfold der at h ⊢
  cases e : asL M d with
  | none =>
    rw [e] at h
    exact DV.dp r.fz h q
  | some ds =>
    rw [e] at h
    simp only at h ⊢
    obtain ⟨a, vs, rfl, s, t⟩ := asL_at r q e
    rw [toPy]
    have h' : okDs 63 ds = true := by simpa [okD] using h
    exact .lst s (DVs.dp r.fz h' t)
/-- x == y -/
def fEq (x y : D) (M : Mem) : Res D := match x, y with
  | .int i, .int j => .ok (.bl (decide (i = j))) M
  | .str i, .str j => .ok (.bl (decide (i = j))) M
  | x, y => if okD 64 (der M x) = true ∧ okD 64 (der M y) = true then .ok (.bl (PyData.eqv (toPy (der M x)) (toPy (der M y)))) M else .bad
def fNe (x y : D) (M : Mem) : Res D := match x, y with
  | .int i, .int j => .ok (.bl (!decide (i = j))) M
  | .str i, .str j => .ok (.bl (!decide (i = j))) M
  | x, y => if okD 64 (der M x) = true ∧ okD 64 (der M y) = true then .ok (.bl (!PyData.eqv (toPy (der M x)) (toPy (der M y)))) M else .bad
section
variable {c : Cn}
theorem r2_eq : R2s c fEq (fun x y H Q => rEq x y H Q ∨ rEqD c.K x y H Q) := by
  intro W σ G H M x y dx dy Q r qx qy p
  unfold fEq at p
  split at p
  · cases (show x = _ from qx)
    cases (show y = _ from qy)
    refine .inl ⟨rfl, ?_⟩
    have e : ∀ i j : Int, decide (V.int i = V.int j) = decide (i = j) := fun i j => by simp
    rw [e]
    exact p G _ H (Gr.refl _) r rfl
  · cases (show x = _ from qx)
    cases (show y = _ from qy)
    refine .inl ⟨rfl, ?_⟩
    have e : ∀ i j : Str, decide (V.str i = V.str j) = decide (i = j) := fun i j => by simp
    rw [e]
    exact p G _ H (Gr.refl _) r rfl
  · split at p
    · rename_i h
      exact .inr ⟨_, _, der_dp r qx h.1, der_dp r qy h.2, okD_shaped h.1, okD_shaped h.2, p G _ H (Gr.refl _) r rfl⟩
    · exact p.elim
theorem r2_ne : R2s c fNe (fun x y H Q => rNe x y H Q ∨ rNeD c.K x y H Q) := by
  intro W σ G H M x y dx dy Q r qx qy p
  unfold fNe at p
  split at p
  · cases (show x = _ from qx)
    cases (show y = _ from qy)
    refine .inl ⟨rfl, ?_⟩
    have e : ∀ i j : Int, decide (V.int i = V.int j) = decide (i = j) := fun i j => by simp
    rw [e]
    exact p G _ H (Gr.refl _) r rfl
  · cases (show x = _ from qx)
    cases (show y = _ from qy)
    refine .inl ⟨rfl, ?_⟩
    have e : ∀ i j : Str, decide (V.str i = V.str j) = decide (i = j) := fun i j => by simp
    rw [e]
    exact p G _ H (Gr.refl _) r rfl
  · split at p
    · rename_i h
      exact .inr ⟨_, _, der_dp r qx h.1, der_dp r qy h.2, okD_shaped h.1, okD_shaped h.2, p G _ H (Gr.refl _) r rfl⟩
    · exact p.elim
/-- comparisons of two ints -/
def fCmp (o : Int → Int → Bool) (x y : D) (M : Mem) : Res D := match x, y with
  | .int i, .int j => .ok (.bl (o i j)) M
  | _, _ => .bad
theorem r2_cmp {o : Int → Int → Bool} : R2s c (fCmp o) (rI0 fun i j => .bl (o i j)) := by
  intro W σ G H M x y dx dy Q r qx qy p
  unfold fCmp at p
  split at p
  · exact ⟨_, _, qx, qy, p G _ H (Gr.refl _) r rfl⟩
  · exact p.elim
def fLt := fCmp fun i j => decide (i < j)
def fLe := fCmp fun i j => decide (i ≤ j)
def fGt := fCmp fun i j => decide (j < i)
def fGe := fCmp fun i j => decide (j ≤ i)
/-- is None, is not None -/
def fIsN (x y : D) (M : Mem) : Res D := match y with
  | .non => match x with
    | .non => .ok (.bl true) M
    | _ => .ok (.bl false) M
  | _ => .bad
def fNotN (x y : D) (M : Mem) : Res D := match y with
  | .non => match x with
    | .non => .ok (.bl false) M
    | _ => .ok (.bl true) M
  | _ => .bad
theorem DV.notNon {G : Gd} {d : D} {v : V} (h : d ≠ .non) (hr : ∀ u, d ≠ .raw u) (q : DV c G d v) : v ≠ .non := by
  intro e
  subst e
  cases d with
  | non => exact h rfl
  | raw u => exact hr u rfl
  | bl _ => cases (show V.non = _ from q)
  | int _ => cases (show V.non = _ from q)
  | str _ => cases (show V.non = _ from q)
  | ptr _ => obtain ⟨_, _, e⟩ := q; cases e
  | tup _ => obtain ⟨_, _, e, _⟩ := q; cases e
  | lst _ => obtain ⟨_, _, e, _⟩ := q; cases e
  | dK _ => obtain ⟨_, _, _, e, _⟩ := q; cases e
  | dT _ => obtain ⟨_, _, _, e, _⟩ := q; cases e
  | obj _ _ => obtain ⟨_, _, _, _, e, _⟩ := q; cases e
  | exc _ _ _ _ => obtain ⟨e, _⟩ := q; cases e
end
section
variable {X : Cx} {W : WX} {pos : Pos} {a b : Expr} {fa fb : EF}
theorem op_eqA (hu : X.A.units + 64 < cLine) : OpR X (compareOp .Eq) (fun x y H Q => rEq x y H Q ∨ rEqD X.K x y H Q) := op_eq.or (op_eqD hu)
theorem op_neA (hu : X.A.units + 64 < cLine) : OpR X (compareOp .NotEq) (fun x y H Q => rNe x y H Q ∨ rNeD X.K x y H Q) := op_ne.or (op_neD hu)
theorem qeq (hu : X.A.units + 64 < cLine) (ha : QE X W a fa) (hb : QE X W b fb) : QE X W (.Compare a [.Eq] [b] pos) (e2 fEq fa fb) := q_cmp (op_eqA hu) r2_eq (nomark _) ha hb
theorem qne (hu : X.A.units + 64 < cLine) (ha : QE X W a fa) (hb : QE X W b fb) : QE X W (.Compare a [.NotEq] [b] pos) (e2 fNe fa fb) := q_cmp (op_neA hu) r2_ne (nomark _) ha hb
theorem qlt (ha : QE X W a fa) (hb : QE X W b fb) : QE X W (.Compare a [.Lt] [b] pos) (e2 fLt fa fb) := q_cmp op_lt r2_cmp (nomark _) ha hb
theorem qgt (ha : QE X W a fa) (hb : QE X W b fb) : QE X W (.Compare a [.Gt] [b] pos) (e2 fGt fa fb) := q_cmp op_gt r2_cmp (nomark _) ha hb
theorem tEq (hu : X.A.units + 64 < cLine) (ha : QE X W a fa) (hb : QE X W b fb) : QT X W (.Compare a [.Eq] [b] pos) (bV (e2 fEq fa fb)) := qt_cmp (op_eqA hu) r2_eq (nomark _) ha hb
theorem tNe (hu : X.A.units + 64 < cLine) (ha : QE X W a fa) (hb : QE X W b fb) : QT X W (.Compare a [.NotEq] [b] pos) (bV (e2 fNe fa fb)) := qt_cmp (op_neA hu) r2_ne (nomark _) ha hb
theorem tLt' (ha : QE X W a fa) (hb : QE X W b fb) : QT X W (.Compare a [.Lt] [b] pos) (bV (e2 fLt fa fb)) := qt_cmp op_lt r2_cmp (nomark _) ha hb
theorem tGt' (ha : QE X W a fa) (hb : QE X W b fb) : QT X W (.Compare a [.Gt] [b] pos) (bV (e2 fGt fa fb)) := qt_cmp op_gt r2_cmp (nomark _) ha hb
theorem tGe' (ha : QE X W a fa) (hb : QE X W b fb) : QT X W (.Compare a [.GtE] [b] pos) (bV (e2 fGe fa fb)) := qt_cmp op_ge r2_cmp (nomark _) ha hb
/-- a < b < c, by two operators -/
def e3 (f g : D → D → Mem → Res D) (a b c : EF) : EF := fun S M => (a S M).bind fun x M1 => (b S M1).bind fun y M2 => (f x y M2).bind fun z M3 => match z with
  | .bl true => (c S M3).bind fun u M4 => g y u M4
  | .bl false => .ok (.bl false) M3
  | _ => .bad
end
end QL
end
section
set_option Elab.async false
set_option linter.all false
set_option maxRecDepth 100000
set_option maxHeartbeats 4000000
set_option autoImplicit false
/-! QLoop: what is walked, for, comprehensions. -/
namespace QL
open PySem PySem.Spec L2
open Classical

/-- the iterator J walks ds, as long as gd holds of the store -/
def Wk (c : Cn) (G : Gd) (J : It) (ds : List D) (gd : Mem → Prop) : Prop := ∀ G' H M, Gr0 G G' → Rep c G' H M → gd M →
  (∀ i, i < ds.length → J.go i H ∧ ∀ x H', J.yld i H x H' → ∃ G2 d, ds[i]? = some d ∧ Gr G' G2 ∧ Rep c G2 H' M ∧ DV c G2 d x) ∧ (∀ i, ds.length ≤ i → J.stop i H)
theorem Wk.mono {c : Cn} {G G1 : Gd} {J : It} {ds : List D} {gd : Mem → Prop} (h : Wk c G J ds gd) (g : Gr0 G G1) : Wk c G1 J ds gd := fun G' H M g' r k => h G' H M (g.trans g') r k
/-- what is walked: the items; the place of the store that they stand at, if they may change -/
structure Its where
  ds : List D
  at_ : Option Nat
def Its.gd (I : Its) (M : Mem) : Prop := match I.at_ with
  | none => True
  | some k => M[k]? = some (.lst I.ds)
abbrev IF := Sl → Mem → Res Its
def PostI (c : Cn) (W : WX) (σ : St) (G : Gd) (r : Res Its) (R : It → Hp → Prop) : Prop := match r with
  | .ok I M => ∀ G' J H, Gr G G' → Rep c G' H M → Wk c G' J I.ds I.gd → R J H
  | .rz x M => ∀ G' cls dd H, Gr G G' → Rep c G' H M → ExV c G' x cls dd → W cls dd σ H
  | .bad => False
def UpI (c : Cn) (W : WX) (f : IF) : TI := fun σ H R => ∃ G S M, Rep c G H M ∧ SlR c G S σ ∧ PostI c W σ G (f S M) R
def QI (X : Cx) (W : WX) (tg iter : Expr) (f : IF) : Prop := PI X tg iter (UpI (cn X) W f)
theorem PI.imp {X : Cx} {tg e : Expr} {t t' : TI} (h : PI X tg e t) (k : ∀ σ H Q, t' σ H Q → t σ H Q) : PI X tg e t' := ⟨fun pins s σ H Q I z => h.run pins s σ H Q I (k σ H Q z)⟩
theorem PostI.bind {α β : Type} {c : Cn} {W : WX} {σ : St} {G : Gd} {rel : Gd → α → β → Prop} {r : Res α} {k : α → Mem → Res Its} {R : It → Hp → Prop} (h : PostI c W σ G (r.bind k) R) :
    Post c W σ G rel r (fun v H => ∃ G' d M, Gr G G' ∧ Rep c G' H M ∧ rel G' d v ∧ PostI c W σ G' (k d M) R) := by
  cases r with
  | ok d M =>
    refine fun G2 v H g2 r q => ⟨G2, d, M, g2, r, q, ?_⟩
    have h' : PostI c W σ G (k d M) R := h
    revert h'
    cases k d M with
    | ok d M => exact fun h G3 J H g3 r w => h G3 J H (g2.trans g3) r w
    | rz x M => exact fun h G3 cls dd H g3 r w => h G3 cls dd H (g2.trans g3) r w
    | bad => exact fun h => h
  | rz x M => exact h
  | bad => exact h
theorem UpI.bind {α β : Type} {c : Cn} {W : WX} {σ : St} {H : Hp} {rel : Gd → α → β → Prop} {e : Sl → Mem → Res α} {k : Sl → α → Mem → Res Its} {R : It → Hp → Prop} (h : UpI c W (fun S M => (e S M).bind (k S)) σ H R) :
    Up c W rel e σ H (fun v H' => ∃ G S d M, Rep c G H' M ∧ SlR c G S σ ∧ rel G d v ∧ PostI c W σ G (k S d M) R) := by
  obtain ⟨G, S, M, r, s, p⟩ := h
  exact ⟨G, S, M, r, s, (PostI.bind p).imp fun v H' ⟨G', d, M', g, r', q, p'⟩ => ⟨G', S, d, M', r', s.mono g, q, p'⟩⟩

/-! ### what can be walked -/
/-- a list, a tuple -/
def iSeq (e : EF) : IF := fun S M => (e S M).bind fun d M1 => match d with
  | .lst ds => .ok ⟨ds, none⟩ M1
  | .ptr k => match M1[k]? with
    | some (.lst ds) => .ok ⟨ds, some k⟩ M1
    | _ => .bad
  | _ => .bad
def iTupF (e : EF) : IF := fun S M => (e S M).bind fun d M1 => match d with
  | .tup ds => .ok ⟨ds, none⟩ M1
  | _ => .bad
/-- range(n), range(a, b) -/
def rangeD (a : Int) (n : Nat) : List D := (List.range n).map fun i => .int (a + (i : Nat))
def iRange1 (a : AF) : IF := fun S M => (a S M).bind fun ds M1 => match ds with
  | [.int j] => if -(2 ^ 62) ≤ j ∧ j < 2 ^ 62 then .ok ⟨rangeD 0 j.toNat, none⟩ M1 else .bad
  | _ => .bad
def iRange2 (a : AF) : IF := fun S M => (a S M).bind fun ds M1 => match ds with
  | [.int i, .int j] => if -(2 ^ 62) ≤ i ∧ i < 2 ^ 62 ∧ -(2 ^ 62) ≤ j ∧ j < 2 ^ 62 then .ok ⟨rangeD i (j - i).toNat, none⟩ M1 else .bad
  | _ => .bad
/-- a text, sign by sign -/
def signsD (x : Str) : List D := x.cps.toList.map fun c => .str ⟨#[c]⟩
def iStrF (e : EF) : IF := fun S M => (e S M).bind fun d M1 => match d with
  | .str x => .ok ⟨signsD x, none⟩ M1
  | _ => .bad
/-- enumerate(list), zip(list, list) -/
def enumD (i : Nat) : List D → List D
  | [] => []
  | d :: r => .tup [.int (i : Nat), d] :: enumD (i + 1) r
def atOf (M : Mem) (d : D) : Option Its := match d with
  | .lst ds => some ⟨ds, none⟩
  | .ptr k => match M[k]? with
    | some (.lst ds) => some ⟨ds, some k⟩
    | _ => none
  | _ => none
def iEnumF (a : AF) : IF := fun S M => (a S M).bind fun ds M1 => match ds with
  | [.lst xs] => .ok ⟨enumD 0 xs, none⟩ M1
  | _ => .bad
def zipD : List D → List D → List D
  | a :: r, b :: t => .tup [a, b] :: zipD r t
  | _, _ => []
def iZipF (a : AF) : IF := fun S M => (a S M).bind fun ds M1 => match ds with
  | [.lst xs, .lst ys] => .ok ⟨zipD xs ys, none⟩ M1
  | _ => .bad
section
variable {X : Cx} {W : WX} {tg l : Expr} {f : EF}
theorem wk_list {c : Cn} {G : Gd} {a : Addr} {ds : List D} {gd : Mem → Prop} (hs : ∀ G' H M, Gr0 G G' → Rep c G' H M → gd M → ∃ xs, SqL c.K H a xs ∧ DVs c G' ds xs) : Wk c G (Itl c.K a) ds gd := fun G' H M g r k => by
  obtain ⟨xs, s, t⟩ := hs G' H M g r k
  refine ⟨fun i hi => ?_, fun i hi => ⟨xs, s, by rw [t.length]; exact hi⟩⟩
  obtain ⟨v, ev, qv⟩ := t.get (List.getElem?_eq_getElem hi)
  refine ⟨⟨xs, v, s, ev⟩, fun x H' y => ?_⟩
  obtain ⟨rfl, y⟩ := y
  have e := y xs s
  rw [ev] at e
  cases e
  exact ⟨G', ds[i], List.getElem?_eq_getElem hi, Gr.refl _, r, qv⟩
theorem wk_tup {c : Cn} {G : Gd} {a : Addr} {ds : List D} {gd : Mem → Prop} (hs : ∀ G' H M, Gr0 G G' → Rep c G' H M → gd M → ∃ xs, SqT c.K H a xs ∧ DVs c G' ds xs) : Wk c G (Itt c.K a) ds gd := fun G' H M g r k => by
  obtain ⟨xs, s, t⟩ := hs G' H M g r k
  refine ⟨fun i hi => ?_, fun i hi => ⟨xs, s, by rw [t.length]; exact hi⟩⟩
  obtain ⟨v, ev, qv⟩ := t.get (List.getElem?_eq_getElem hi)
  refine ⟨⟨xs, v, s, ev⟩, fun x H' y => ?_⟩
  obtain ⟨rfl, y⟩ := y
  have e := y xs s
  rw [ev] at e
  cases e
  exact ⟨G', ds[i], List.getElem?_eq_getElem hi, Gr.refl _, r, qv⟩
theorem qi_list (h : QE X W l f) : QI X W tg l (iSeq f) := PI.imp (pi_list h) fun σ H R h => by
  refine Up.imp (UpI.bind h) fun v H1 ⟨G, S, d, M, r, s, q, p⟩ => ?_
  split at p
  · rename_i ds
    obtain ⟨a, vs, rfl, sq, t⟩ := q
    exact ⟨a, rfl, ⟨vs, r.fz.sqL sq⟩, p G _ H1 (Gr.refl _) r (wk_list fun G' H M g r' _ => ⟨vs, r'.fz.sqL (g.sqL sq), t.mono0 g⟩)⟩
  · rename_i k
    split at p
    · rename_i ds ek
      obtain ⟨a, e1, rfl⟩ := q
      obtain ⟨vs, hu, t⟩ := r.mem k _ a ek e1
      refine ⟨a, rfl, ⟨vs, .inl (.inl hu)⟩, ?_⟩
      refine p G _ H1 (Gr.refl _) r (wk_list fun G' H' M' g r' k' => ?_)
      obtain ⟨vs', hu', t'⟩ := r'.mem k _ a (show M'[k]? = some (.lst ds) from k') (g.at e1)
      exact ⟨vs', .inl (.inl hu'), t'⟩
    · exact p.elim
  · exact p.elim
theorem qi_tup (h : QE X W l f) : QI X W tg l (iTupF f) := PI.imp (pi_tup h) fun σ H R h => by
  refine Up.imp (UpI.bind h) fun v H1 ⟨G, S, d, M, r, s, q, p⟩ => ?_
  split at p
  · rename_i ds
    obtain ⟨a, vs, rfl, sq, t⟩ := q
    exact ⟨a, rfl, ⟨vs, .inl (.inl (r.fz.tup sq))⟩, p G _ H1 (Gr.refl _) r (wk_tup fun G' H M g r' _ => ⟨vs, .inl (.inl (r'.fz.tup (g.F _ _ sq))), t.mono0 g⟩)⟩
  · exact p.elim
theorem rangeD_at {a : Int} {n i : Nat} (h : i < n) : (rangeD a n)[i]? = some (.int (a + (i : Nat))) := by
  unfold rangeD
  rw [List.getElem?_map, List.getElem?_range h]
  rfl
theorem rangeD_len (a : Int) (n : Nat) : (rangeD a n).length = n := by
  unfold rangeD
  rw [List.length_map, List.length_range]
theorem wk_range {c : Cn} {G : Gd} {a : Int} {n : Nat} {gd : Mem → Prop} : Wk c G (Itr a n) (rangeD a n) gd := fun G' H M g r k => by
  refine ⟨fun i hi => ?_, fun i hi => by rw [rangeD_len] at hi; exact hi⟩
  rw [rangeD_len] at hi
  refine ⟨hi, fun x H' y => ?_⟩
  obtain ⟨rfl, rfl⟩ := y
  exact ⟨G', _, rangeD_at hi, Gr.refl _, r, rfl⟩
variable {a b : Expr} {ta : AF} {pp pos : Pos}
theorem qi_range1 (hg : Gl X "range") (hm : X.mg "range" = none) (ha : QA X W [a] ta) (hs : starEach [a] X.env = [(false, eval a X.env)] := by rfl) : QI X W tg (.Call (.Name "range" pp) [a] [] pos) (iRange1 ta) := PI.imp (pi_range1 hg hm ha hs) fun σ H R h => by
  refine Up.imp (UpI.bind h) fun v H1 ⟨G, S, d, M, r, s, q, p⟩ => ?_
  split at p
  · rename_i j
    split at p
    · rename_i hb
      have e := DVs.ints (ns := [j]) q
      exact ⟨j, e, hb.1, hb.2, p G _ H1 (Gr.refl _) r wk_range⟩
    · exact p.elim
  · exact p.elim
theorem qi_str (h : QE X W l f) : QI X W tg l (iStrF f) := PI.imp (pi_str h) fun σ H R h => by
  refine Up.imp (UpI.bind h) fun v H1 ⟨G, S, d, M, r, s, q, p⟩ => ?_
  split at p
  · rename_i x
    refine ⟨x, q, p G _ H1 (Gr.refl _) r fun G' H' M' g r' _ => ?_⟩
    have hl : (signsD x).length = x.cps.size := by simp [signsD]
    refine ⟨fun i hi => ?_, fun i hi => by rw [hl] at hi; exact hi⟩
    rw [hl] at hi
    refine ⟨hi, fun y H2 z => ?_⟩
    obtain ⟨rfl, c, e, rfl⟩ := z
    refine ⟨G', .str ⟨#[c]⟩, ?_, Gr.refl _, r', rfl⟩
    unfold signsD
    rw [List.getElem?_map, Array.getElem?_toList, e]
    rfl
  · exact p.elim
theorem enumD_at : ∀ {xs : List D} {i j : Nat} {d : D}, xs[j]? = some d → (enumD i xs)[j]? = some (.tup [.int ((i + j : Nat) : Int), d])
  | [], _, _, _, h => by simp at h
  | x :: r, i, 0, d, h => by
    cases Option.some.inj h
    rfl
  | x :: r, i, j + 1, d, h => by
    have ih := enumD_at (xs := r) (i := i + 1) (j := j) (d := d) h
    show (enumD (i + 1) r)[j]? = _
    rw [ih, show i + 1 + j = i + (j + 1) by omega]
theorem enumD_len : ∀ (xs : List D) (i : Nat), (enumD i xs).length = xs.length
  | [], _ => rfl
  | x :: r, i => by
    show (enumD (i + 1) r).length + 1 = r.length + 1
    rw [enumD_len r]
/-- a pair that is made on the way -/
theorem pair_new {c : Cn} {G : Gd} {H : Hp} {M : Mem} {T : Addr} {x y : V} {d e : D} (r : Rep c G H M) (hT : H T = none) (q1 : DV c G d x) (q2 : DV c G e y) : ∃ G2, Gr G G2 ∧ Rep c G2 (upd H T (.tup [x, y])) M ∧ DV c G2 (.tup [d, e]) (.ref T) := by
  have g := Gr.newF (G := G) (o := .tup [x, y]) (r.fz.free hT)
  exact ⟨_, g, r.newF hT, T, [x, y], rfl, upd_same, DVs.cons (q1.mono g) (DVs.one (q2.mono g))⟩
theorem qi_enum {elts : List Expr} {kk : Nat} {tpos : Pos} (hg : Gl X "enumerate") (hm : X.mg "enumerate" = none) (ha : QA X W [a] ta) (hs : starEach [a] X.env = [(false, eval a X.env)] := by rfl) :
    QI X W (.Tuple elts kk tpos) (.Call (.Name "enumerate" pp) [a] [] pos) (iEnumF ta) := PI.imp (pi_enum hg hm ha hs) fun σ H R h => by
  refine Up.imp (UpI.bind h) fun v H1 ⟨G, S, d, M, r, s, q, p⟩ => ?_
  split at p
  · rename_i xs
    obtain ⟨v1, t1, rfl, q1, rfl⟩ := q
    obtain ⟨b, vs, rfl, sq, t⟩ := q1
    refine ⟨b, vs, rfl, r.fz.sqL sq, p G _ H1 (Gr.refl _) r fun G' H' M' g r' _ => ?_⟩
    have sq' : SqL (cn X).K H' b vs := r'.fz.sqL (g.sqL sq)
    have t' := t.mono0 g
    refine ⟨fun i hi => ?_, fun i hi => ⟨vs, sq', by rw [t'.length]; rw [enumD_len] at hi; exact hi⟩⟩
    rw [enumD_len] at hi
    obtain ⟨w, ew, qw⟩ := t'.get (List.getElem?_eq_getElem hi)
    refine ⟨⟨vs, w, sq', ew⟩, fun y H2 z => ?_⟩
    obtain ⟨T, x1, rfl, nT, rfl, f1⟩ := z
    have e1 := f1 vs sq'
    rw [ew] at e1
    cases e1
    obtain ⟨G2, g2, r2, q2⟩ := pair_new (d := .int (i : Nat)) (x := .int (i : Nat)) r' nT rfl qw
    refine ⟨G2, _, ?_, g2, r2, q2⟩
    rw [enumD_at (List.getElem?_eq_getElem hi), Nat.zero_add]
  · exact p.elim
end

/-! ### for -/
noncomputable def forL (gd : Mem → Prop) (g : GF) (t : TF) (vs : List Nat) : List D → Sl → Mem → SR
  | [], S, M => if gd M then .nx S M else .bad
  | d :: r, S, M => if gd M then (g d S M).thn S fun S1 M1 => match t S1 M1 with
      | .nx S2 M2 => forL gd g t vs r (kl vs S2) M2
      | .ct S2 M2 => forL gd g t vs r (kl vs S2) M2
      | .bk S2 M2 => .nx S2 M2
      | r => r
    else .bad
noncomputable def kFor (f : IF) (g : GF) (t : TF) (vs : List Nat) : TF := fun S M => (f S M).thn S fun I M1 => forL I.gd g t vs I.ds S M1
section
variable {X : Cx} {W : WX} {pos : Pos} {tg iter : Expr} {body : List Stmt} {f : IF} {g : GF} {t : TF} {vs : List Nat}
theorem qfor (hp : PassesOwn (model X.prog X.w) X.A X.env X.xe) (hc : X.calm = true) (hi : QI X W tg iter f) (hg : QG X W tg g) (hb : QSs X W body t) (hs : ∀ x, foldedSetIterable iter X.env x = pure x := by intro _; rfl) :
    QS X W (.For tg iter body [] pos) (kFor f g t vs) := PS.imp (ps_for hp hc hi hg hb hs) fun D σ H h => by
  obtain ⟨G, S, M, r, s, p⟩ := h
  refine ⟨G, S, M, r, s, ?_⟩
  unfold kFor at p
  cases ef : f S M with
  | bad => rw [ef] at p; exact p
  | rz x M1 => rw [ef] at p; exact fun G2 cls dd H2 g2 r2 q2 => p G2 cls dd σ H2 g2 r2 (s.mono g2) q2
  | ok I M1 =>
    rw [ef] at p
    intro G1 J H1 g1 r1 w1
    have p1 : PostS (cn X) W G1 D (forL I.gd g t vs I.ds S M1) := PostS.mono g1 p
    refine ⟨fun i m σ H => m = I.ds.length - i ∧ i ≤ I.ds.length ∧ ∃ G S M, Gr G1 G ∧ Rep (cn X) G H M ∧ SlR (cn X) G S σ ∧ PostS (cn X) W G D (forL I.gd g t vs (I.ds.drop i) S M),
      ⟨I.ds.length, by simp, Nat.zero_le _, G1, S, M1, Gr.refl _, r1, s.mono g1, p1⟩, ?_⟩
    rintro i m σ H ⟨rfl, hi, G2, S2, M2, g2, r2, s2, p2⟩
    by_cases hlt : i < I.ds.length
    · have ed : I.ds.drop i = I.ds[i] :: I.ds.drop (i + 1) := List.drop_eq_getElem_cons hlt
      rw [ed] at p2
      unfold forL at p2
      by_cases hk : I.gd M2
      · rw [if_pos hk] at p2
        obtain ⟨go, yl⟩ := (w1 G2 H M2 g2.toGr0 r2 hk).1 i hlt
        refine .inr ⟨go, fun σ H => ∃ G S M, Gr G1 G ∧ Rep (cn X) G H M ∧ SlR (cn X) G S σ ∧ PostS (cn X) W G D (forL I.gd g t vs (I.ds.drop (i + 1)) S M), fun σ' H' z => ⟨_, by omega, rfl, hlt, z⟩, fun x H' y => ?_⟩
        obtain ⟨G3, d, ed3, g3, r3, q3⟩ := yl x H' y
        rw [List.getElem?_eq_getElem hlt] at ed3
        cases ed3
        refine ⟨G3, S2, M2, _, r3, s2.mono g3, q3, (PostS.thnE (s2.mono g3) (PostS.mono g3 p2)).imp fun σ4 H4 ⟨G4, S4, M4, g4, r4, s4, p4⟩ => ?_⟩
        refine ⟨G4, S4, M4, r4, s4, ?_⟩
        have gg := (g2.trans g3).trans g4
        cases et : t S4 M4 with
        | nx S5 M5 => rw [et] at p4; exact fun G5 σ5 H5 g5 r5 s5 => ⟨G5, _, M5, gg.trans g5, r5, s5.kl, PostS.mono g5 p4⟩
        | ct S5 M5 => rw [et] at p4; exact fun G5 σ5 H5 g5 r5 s5 => ⟨G5, _, M5, gg.trans g5, r5, s5.kl, PostS.mono g5 p4⟩
        | bk S5 M5 => rw [et] at p4; exact p4
        | rt _ _ => rw [et] at p4; exact p4
        | rz _ _ _ => rw [et] at p4; exact p4
        | bad => rw [et] at p4; exact p4
      · rw [if_neg hk] at p2
        exact p2.elim
    · have ei : i = I.ds.length := by omega
      subst ei
      rw [List.drop_length] at p2
      unfold forL at p2
      by_cases hk : I.gd M2
      · rw [if_pos hk] at p2
        exact .inl ⟨(w1 G2 H M2 g2.toGr0 r2 hk).2 _ (Nat.le_refl _), p2 G2 σ H (Gr.refl _) r2 s2⟩
      · rw [if_neg hk] at p2
        exact p2.elim
end

/-! ### list comprehensions -/
/-- the items that the turns give -/
noncomputable def lcL (gd : Mem → Prop) (g : GF) (b : BF) (e : EF) (S0 : Sl) : List D → List D → Mem → Res (List D)
  | [], acc, M => if gd M then .ok acc M else .bad
  | d :: r, acc, M => if gd M then match g d S0 M with
      | .ok S1 M1 => match b S1 M1 with
        | .ok true M2 => match e S1 M2 with
          | .ok y M3 => if acc.length < sizeLine then lcL gd g b e S0 r (acc ++ [y]) M3 else .bad
          | _ => .bad
        | .ok false M2 => lcL gd g b e S0 r acc M2
        | _ => .bad
      | _ => .bad
    else .bad
/-- a new list that will not change; vs: the slots of the comprehension's own names -/
noncomputable def eLc (f : IF) (g : GF) (b : BF) (e : EF) (vs : List Nat) : EF := fun S M => (f S M).bind fun I M1 => (lcL I.gd g b e (kl vs S) I.ds [] M1).bind fun ys M2 => .ok (.lst ys) M2
/-- .. that may change -/
noncomputable def eLcP (f : IF) (g : GF) (b : BF) (e : EF) (vs : List Nat) : EF := fun S M => (f S M).bind fun I M1 => (lcL I.gd g b e (kl vs S) I.ds [] M1).bind fun ys M2 => .ok (.ptr M2.length) (M2 ++ [.lst ys])
def W0 : WX := fun _ _ _ _ => False
def bYes : BF := fun _ M => .ok true M
end QL
end
section
set_option Elab.async false
set_option linter.all false
set_option maxRecDepth 100000
set_option maxHeartbeats 4000000
set_option autoImplicit false
/-! QComp: list comprehensions. -/
namespace QL
open PySem PySem.Spec L2
open Classical

theorem set_wipe (σ : St) (i : Nat) (x y : Option V) : ∀ vs : List Nat, (wipe (σ.set i x) vs).set i y = (wipe σ vs).set i y
  | [] => by show (σ.set i x).set i y = σ.set i y; rw [List.set_set]
  | v :: vs => by
    show ((wipe (σ.set i x) vs).set v none).set i y = ((wipe σ vs).set v none).set i y
    by_cases h : v = i
    · subst h
      rw [List.set_set, List.set_set]
      exact set_wipe σ v x y vs
    · rw [List.set_comm _ _ h, List.set_comm _ _ h, set_wipe σ i x y vs]
theorem wipe_set {σ : St} {i : Nat} {x : Option V} : ∀ {vs : List Nat}, i ∈ vs → wipe (σ.set i x) vs = wipe σ vs
  | v :: vs, h => by
    show (wipe (σ.set i x) vs).set v none = (wipe σ vs).set v none
    by_cases e : i = v
    · subst e
      exact set_wipe σ i x none vs
    · rcases List.mem_cons.mp h with z | z
      · exact absurd z e
      · rw [wipe_set z]
def UpGv (c : Cn) (W : WX) (vs : List Nat) (g : GF) : TG := fun v σ H Q => ∃ G S M d, Rep c G H M ∧ SlR c G S σ ∧ DV c G d v ∧ Post c W σ G (fun G' S' σ' => SlR c G' S' σ' ∧ wipe σ' vs = wipe σ vs) (g d S M) Q
def UpGsv (c : Cn) (W : WX) (vs : List Nat) (g : GsF) : TGs := fun v σ H Q => ∃ G S M d, Rep c G H M ∧ SlR c G S σ ∧ DVs c G d v ∧ Post c W σ G (fun G' S' σ' => SlR c G' S' σ' ∧ wipe σ' vs = wipe σ vs) (g d S M) Q
def QGv (X : Cx) (vs : List Nat) (tg : Expr) (g : GF) : Prop := PG X tg (UpGv (cn X) W0 vs g)
def QGsv (X : Cx) (vs : List Nat) (tg : List Expr) (g : GsF) : Prop := PGs X tg (UpGsv (cn X) W0 vs g)
section
variable {X : Cx} {vs : List Nat} {pos : Pos} {e : Expr} {es : List Expr} {g : GF} {gs : GsF}
theorem qv_name {i : Nat} {x : Str} (hN : X.N.Nodup) (hi : X.N[i]? = some x) (hv : i ∈ vs) (hx : Loc X.env.scope x := by first | exact .inl rfl | exact .inr rfl) (hf : X.fn x = true ∨ X.env.scope.names.lookup x = some .local := by first | exact .inl rfl | exact .inr rfl) : QGv X vs (.Name x pos) (gN i) := PG.imp (pg_name hN hi hx hf) fun v σ H Q h => by
  obtain ⟨G, S, M, d, r, s, q, p⟩ := h
  exact p G _ H (Gr.refl G) r ⟨s.set q, wipe_set hv⟩
theorem qvs_nil : QGsv X vs [] gNilF := PGs.imp pgs_nil fun v σ H Q h => by
  obtain ⟨G, S, M, ds, r, s, q, p⟩ := h
  cases ds with
  | nil => exact ⟨q, p G σ H (Gr.refl G) r ⟨s, rfl⟩⟩
  | cons d t => exact (show False from p).elim
theorem qvs_cons (h1 : QGv X vs e g) (h2 : QGsv X vs es gs) (hs : (assignEach (e :: es) X.env).map (·.2) = assign e X.env :: (assignEach es X.env).map (·.2) := by rfl) : QGsv X vs (e :: es) (gConsF g gs) := PGs.imp (pgs_cons h1 h2 hs) fun us σ H Q h => by
  obtain ⟨G, S, M, ds, r, s, q, p⟩ := h
  cases ds with
  | nil => exact (show False from p).elim
  | cons d t =>
    obtain ⟨v, vt, rfl, qd, qt⟩ := q
    refine ⟨v, vt, rfl, G, S, M, d, r, s, qd, (Post.bind (rel := fun G' S' σ' => SlR (cn X) G' S' σ' ∧ wipe σ' vs = wipe σ vs) p).imp fun σ1 H1 ⟨G1, S1, M1, g1, r1, ⟨s1, w1⟩, p1⟩ => ?_⟩
    refine ⟨G1, S1, M1, t, r1, s1, qt.mono g1, ?_⟩
    cases e : gs t S1 M1 with
    | ok S2 M2 => rw [e] at p1; exact fun G2 σ2 H2 g2 r2 ⟨s2, w2⟩ => p1 G2 σ2 H2 g2 r2 ⟨s2, w2.trans w1⟩
    | rz x M2 => rw [e] at p1; exact fun G2 cls dd H2 g2 r2 q2 => p1 G2 cls dd H2 g2 r2 q2
    | bad => rw [e] at p1; exact p1
theorem qv_tup {k : Nat} {n : Nat} (hc : X.calm = true) (h : QGsv X vs es gs) (hn : (assignEach es X.env).length = n := by rfl) (hst : (assignEach es X.env).findIdx? (·.1) = none := by rfl) : QGv X vs (.Tuple es k pos) (gTupF n gs) := PG.imp (pg_tup hc h hn hst) fun v σ H Q h => by
  obtain ⟨G, S, M, d, r, s, q, p⟩ := h
  unfold gTupF at p
  split at p
  · rename_i ds
    split at p
    · rename_i hl
      obtain ⟨a, us, rfl, hs, qs⟩ := q
      exact ⟨a, us, rfl, .inl (.inl (r.fz.tup hs)), by rw [qs.length]; exact hl, G, S, M, ds, r, s, qs, p⟩
    · exact p.elim
  · exact p.elim
def QTs (X : Cx) (ifs : List Expr) (f : BF) : Prop := PTs X ifs (Up (cn X) W0 (fun _ (a b : Bool) => a = b) f)
theorem PTs.imp {ifs : List Expr} {t t' : TT} (h : PTs X ifs t) (k : ∀ σ H Q, t' σ H Q → t σ H Q) : PTs X ifs t' := ⟨fun pins s σ H Q I z => h.run pins s σ H Q I (k σ H Q z)⟩
theorem qts_nil : QTs X [] bYes := PTs.imp pts_nil fun σ H Q h => by
  obtain ⟨G, S, M, r, s, p⟩ := h
  exact p G true H (Gr.refl G) r rfl
theorem qts_one {c : Expr} {f : BF} (h : QT X W0 c f) : QTs X [c] f := pts_one h
theorem takesB {s : Shared} {H : Hp} {scope : Scope} {ce : Env} {fp : List Addr} : Takes (X.blk s H scope ce fp) W0 := takes0
end
theorem SlR.klw {c : Cn} {G : Gd} {S : Sl} {σ : St} : ∀ {vs : List Nat} {S : Sl}, SlR c G S σ → SlR c G (QL.kl vs S) (wipe σ vs) := fun {vs S} h => by
  have h1 := SlR.kl (vs := vs) h
  have off : ∀ (vs : List Nat) (S : Sl) (i : Nat) d, (QL.kl vs S)[i]? = some (some d) → i ∉ vs := by
    intro vs
    induction vs with
    | nil => intro S i d _; simp
    | cons v vs ih =>
      intro S i d e
      have h2 := ih (S.set v none) i d e
      have h3 : ∀ (vs : List Nat) (S : Sl), (∀ d, S[i]? ≠ some (some d)) → ∀ d, (QL.kl vs S)[i]? ≠ some (some d) := by
        intro vs
        induction vs with
        | nil => exact fun S h => h
        | cons v' vs ih2 =>
          intro S h
          refine ih2 (S.set v' none) fun d e => ?_
          by_cases z : v' = i
          · subst z
            have hl : v' < S.length := by
              have := (List.getElem?_eq_some_iff.mp e).1
              rwa [List.length_set] at this
            rw [List.getElem?_set_self hl] at e
            cases Option.some.inj e
          · rw [List.getElem?_set_ne z] at e
            exact h d e
      intro hm
      rcases List.mem_cons.mp hm with z | z
      · subst z
        refine h3 vs (S.set i none) (fun d e => ?_) d e
        by_cases hl : i < S.length
        · rw [List.getElem?_set_self hl] at e
          cases Option.some.inj e
        · rw [List.getElem?_eq_none (by rw [List.length_set]; omega)] at e
          cases e
      · exact h2 z
  refine ⟨by rw [wipe_length]; exact h1.1, fun i d e => ?_⟩
  obtain ⟨v, e1, q⟩ := h1.2 i d e
  exact ⟨v, by rw [wipe_out (off vs S i d e)]; exact e1, q⟩

section
variable {X : Cx} {W : WX} {tg iter elt : Expr} {ifs : List Expr} {scope : Scope} {own : List (Str × Nat)} {pos : Pos} {f : IF} {g : GF} {b : BF} {e : EF}
/-- the turns of a comprehension -/
theorem lc_turns {c : Cn} {σ : St} {vs : List Nat} {G1 : Gd} {S : Sl} {H1 : Hp} {M1 : Mem} {I : Its} {J : It} {D : Addr} {Qd : Hp → Prop} (r1 : Rep c G1 H1 M1) (s1 : SlR c G1 S σ) (w1 : Wk c G1 J I.ds I.gd) (hD : H1 D = none)
    (ne : lcL I.gd g b e (kl vs S) I.ds [] M1 ≠ .bad) (hq : ∀ ys M2, lcL I.gd g b e (kl vs S) I.ds [] M1 = .ok ys M2 → ∀ G2 H2 us, Gr0 G1 G2 → G2.P = (D, .lst us) :: G1.P → Rep c G2 H2 M2 → DVs c G2 ys us → Qd H2) :
    ∃ Wd : Nat → Nat → Hp → Prop, (∃ m, Wd 0 m (upd H1 D (.lst []))) ∧ ∀ i m H, Wd i m H →
      (J.stop i H ∧ Qd H) ∨ (J.go i H ∧ ∃ Nx : Hp → Prop, (∀ H', Nx H' → ∃ m', m' < m ∧ Wd (i + 1) m' H') ∧ ∀ x H', J.yld i H x H' → UpGv c W0 vs g x (wipe σ vs) H' fun σ2 H2 => wipe σ2 vs = wipe σ vs ∧ Up c W0 (fun _ (a b : Bool) => a = b) b σ2 H2 fun b' H3 =>
        if b' = true then Up c W0 (DV c) e σ2 H3 fun y H4 => ∃ acc, H4 D = some (.lst acc) ∧ acc.length < sizeLine ∧ Nx (upd H4 D (.lst (acc ++ [y]))) else Nx H3) := by
  have nP : ∀ q ∈ G1.P, q.1 ≠ D := fun q hq z => by
    obtain ⟨h1, _⟩ := r1.pin q hq
    rw [z, hD] at h1
    cases h1
  obtain ⟨R0, eR0⟩ : ∃ R0, lcL I.gd g b e (kl vs S) I.ds [] M1 = R0 := ⟨_, rfl⟩
  rw [eR0] at ne hq
  refine ⟨fun i m H => m = I.ds.length - i ∧ i ≤ I.ds.length ∧ ∃ G acc us M, Gr0 G1 G ∧ G.P = (D, .lst us) :: G1.P ∧ Rep c G H M ∧ DVs c G acc us ∧ lcL I.gd g b e (kl vs S) (I.ds.drop i) acc M = R0,
    ⟨I.ds.length, by simp, Nat.zero_le _, { G1 with P := (D, .lst []) :: G1.P }, [], [], M1, ⟨fun _ _ h => h, [], (List.append_nil _).symm⟩, rfl, r1.pinNew hD, rfl, eR0⟩, ?_⟩
  rintro i m H ⟨rfl, hi, G, acc, us, M, g0, eP, r, q, el⟩
  by_cases hlt : i < I.ds.length
  · have ed : I.ds.drop i = I.ds[i] :: I.ds.drop (i + 1) := List.drop_eq_getElem_cons hlt
    rw [ed] at el
    unfold lcL at el
    by_cases hk : I.gd M
    · rw [if_pos hk] at el
      obtain ⟨go, yl⟩ := (w1 G H M g0 r hk).1 i hlt
      refine .inr ⟨go, fun H => ∃ G acc us M, Gr0 G1 G ∧ G.P = (D, .lst us) :: G1.P ∧ Rep c G H M ∧ DVs c G acc us ∧ lcL I.gd g b e (kl vs S) (I.ds.drop (i + 1)) acc M = R0,
        fun H' z => ⟨_, by omega, rfl, hlt, z⟩, fun x H' y => ?_⟩
      obtain ⟨G3, d, ed3, g3, r3, q3⟩ := yl x H' y
      rw [List.getElem?_eq_getElem hlt] at ed3
      cases ed3
      refine ⟨G3, kl vs S, M, _, r3, SlR.klw (S := S) (⟨s1.1, fun i d e => let ⟨v, z, w⟩ := s1.2 i d e; ⟨v, z, w.mono0 (g0.trans g3.toGr0)⟩⟩), q3, ?_⟩
      cases eg : g I.ds[i] (kl vs S) M with
      | rz x M2 => rw [eg] at el; exact absurd el.symm ne
      | bad => rw [eg] at el; exact absurd el.symm ne
      | ok S4 M4 =>
        rw [eg] at el
        intro G4 σ4 H4 g4 r4 ⟨s4, w4⟩
        have ww : wipe σ4 vs = wipe σ vs := by
          rw [w4]
          have id1 : ∀ (vs : List Nat) (σ : St), wipe (wipe σ vs) vs = wipe σ vs := by
            intro vs σ
            have st : ∀ (i : Nat) (τ : St), (wipe τ vs)[i]? = if i ∈ vs then (τ[i]?).map (fun _ => (none : Option V)) else τ[i]? := by
              induction vs with
              | nil => intro i τ; simp [wipe]
              | cons v vs ih =>
                intro i τ
                show ((wipe τ vs).set v none)[i]? = _
                by_cases hv : v = i
                · subst hv
                  rw [if_pos (List.mem_cons_self)]
                  rw [List.getElem?_set]
                  rw [if_pos rfl, wipe_length]
                  by_cases hl : v < τ.length
                  · rw [if_pos hl, List.getElem?_eq_getElem hl]; rfl
                  · rw [if_neg hl, List.getElem?_eq_none (by omega)]; rfl
                · rw [List.getElem?_set_ne hv, ih i τ]
                  by_cases hm : i ∈ vs
                  · rw [if_pos hm, if_pos (List.mem_cons_of_mem _ hm)]
                  · rw [if_neg hm, if_neg (by intro z; rcases List.mem_cons.mp z with z | z; exact hv z.symm; exact hm z)]
            apply List.ext_getElem?
            intro i
            rw [st i (wipe σ vs), st i σ]
            by_cases hm : i ∈ vs
            · rw [if_pos hm, if_pos hm]
              cases σ[i]? <;> rfl
            · rw [if_neg hm, if_neg hm]
          exact id1 vs σ
        refine ⟨ww, G4, S4, M4, r4, s4, ?_⟩
        have gg := (g0.trans g3.toGr0).trans g4.toGr0
        have eP4 : G4.P = (D, .lst us) :: G1.P := by rw [g4.P, g3.P, eP]
        have q4 := q.mono0 (g3.toGr0.trans g4.toGr0)
        cases eb : b S4 M4 with
        | rz x M5 => simp only [eb] at el; exact absurd el.symm ne
        | bad => simp only [eb] at el; exact absurd el.symm ne
        | ok k M5 =>
          simp only [eb] at el
          intro G5 k' H5 g5 r5 hk'
          subst hk'
          have eP5 : G5.P = (D, .lst us) :: G1.P := by rw [g5.P, eP4]
          cases k with
          | false =>
            rw [if_neg Bool.false_ne_true]
            exact ⟨G5, acc, us, M5, gg.trans g5.toGr0, eP5, r5, q4.mono g5, el⟩
          | true =>
            rw [if_pos rfl]
            refine ⟨G5, S4, M5, r5, s4.mono g5, ?_⟩
            cases ee : e S4 M5 with
            | rz x M6 => simp only [ee] at el; exact absurd el.symm ne
            | bad => simp only [ee] at el; exact absurd el.symm ne
            | ok y M6 =>
              simp only [ee] at el
              by_cases hz : acc.length < sizeLine
              · rw [if_pos hz] at el
                intro G6 v H6 g6 r6 q6
                have eP6 : G6.P = (D, .lst us) :: G1.P := by rw [g6.P, eP5]
                have hpin := r6.pin (D, .lst us) (by rw [eP6]; exact List.mem_cons_self)
                have q5 := (q4.mono g5).mono g6
                refine ⟨us, hpin.1, by rw [q5.length]; exact hz, ?_⟩
                have e6 : G6 = { G6 with P := (D, .lst us) :: G1.P } := by
                  obtain ⟨F6, θ6, P6⟩ := G6
                  have eP6' : P6 = (D, .lst us) :: G1.P := eP6
                  rw [eP6']
                rw [e6] at r6
                have r7 := r6.pinSet (o' := .lst (us ++ [v])) nP
                refine ⟨{ G6 with P := (D, .lst (us ++ [v])) :: G1.P }, acc ++ [y], us ++ [v], M6, ⟨(gg.trans (g5.toGr0.trans g6.toGr0)).F, (gg.trans (g5.toGr0.trans g6.toGr0)).θ⟩, rfl, r7, ?_, el⟩
                have g7 : Gr0 G6 { G6 with P := (D, .lst (us ++ [v])) :: G1.P } := ⟨fun _ _ h => h, [], (List.append_nil _).symm⟩
                exact (q5.append (DVs.one q6)).mono0 g7
              · rw [if_neg hz] at el
                exact absurd el.symm ne
    · rw [if_neg hk] at el
      exact absurd el.symm ne
  · have ei : i = I.ds.length := by omega
    subst ei
    rw [List.drop_length] at el
    unfold lcL at el
    by_cases hk : I.gd M
    · rw [if_pos hk] at el
      exact .inl ⟨(w1 G H M g0 r hk).2 _ (Nat.le_refl _), hq _ _ el.symm G H us g0 eP r q⟩
    · rw [if_neg hk] at el
      exact absurd el.symm ne
theorem up_lc {c : Cn} {vs : List Nat} {σ : St} {H : Hp} {Q : VK} (h : Up c W (DV c) (eLc f g b e vs) σ H Q) : tLc (UpI c W f) (UpGv c W0 vs g) (Up c W0 (fun _ (a b : Bool) => a = b) b) (Up c W0 (DV c) e) vs σ H Q := by
  obtain ⟨G, S, M, r, s, p⟩ := h
  refine ⟨G, S, M, r, s, ?_⟩
  unfold eLc at p
  cases ef : f S M with
  | bad => rw [ef] at p; exact p
  | rz x M1 => rw [ef] at p; exact p
  | ok I M1 =>
    rw [ef] at p
    intro G1 J H1 g1 r1 w1 D hD
    have p1 : Post c W σ G1 (DV c) ((lcL I.gd g b e (kl vs S) I.ds [] M1).bind fun ys M2 => .ok (.lst ys) M2) Q := Post.mono g1 p
    have ne : lcL I.gd g b e (kl vs S) I.ds [] M1 ≠ .bad := fun z => by rw [z] at p1; exact p1
    refine lc_turns r1 (s.mono g1) w1 hD ne fun ys M2 ey G2 H2 us g2 eP r2 q2 => ?_
    rw [ey] at p1
    have nP : ∀ q ∈ G1.P, q.1 ≠ D := fun q hq z => by
      obtain ⟨h1, _⟩ := r1.pin q hq
      rw [z, hD] at h1
      cases h1
    have e2 : G2 = { G2 with P := (D, .lst us) :: G1.P } := by
      obtain ⟨F6, θ6, P6⟩ := G2
      have eP6' : P6 = (D, .lst us) :: G1.P := eP
      rw [eP6']
    rw [e2] at r2
    have hf := (r2.pin (D, .lst us) List.mem_cons_self).2.1
    have r3 := r2.pinF nP
    have g3 : Gr0 G2 { G2 with F := upd G2.F D (.lst us), P := G1.P } := ⟨fun a u e => by show upd G2.F D _ a = some u; rw [upd_ne (ne_of_none e hf)]; exact e, [], (List.append_nil _).symm⟩
    exact p1 _ _ H2 ⟨g2.trans g3, rfl⟩ r3 ⟨D, us, rfl, .inl (.inl upd_same), q2.mono0 g3⟩
theorem up_lcP {c : Cn} {vs : List Nat} {σ : St} {H : Hp} {Q : VK} (h : Up c W (DV c) (eLcP f g b e vs) σ H Q) : tLc (UpI c W f) (UpGv c W0 vs g) (Up c W0 (fun _ (a b : Bool) => a = b) b) (Up c W0 (DV c) e) vs σ H Q := by
  obtain ⟨G, S, M, r, s, p⟩ := h
  refine ⟨G, S, M, r, s, ?_⟩
  unfold eLcP at p
  cases ef : f S M with
  | bad => rw [ef] at p; exact p
  | rz x M1 => rw [ef] at p; exact p
  | ok I M1 =>
    rw [ef] at p
    intro G1 J H1 g1 r1 w1 D hD
    have p1 : Post c W σ G1 (DV c) ((lcL I.gd g b e (kl vs S) I.ds [] M1).bind fun ys M2 => .ok (.ptr M2.length) (M2 ++ [.lst ys])) Q := Post.mono g1 p
    have ne : lcL I.gd g b e (kl vs S) I.ds [] M1 ≠ .bad := fun z => by rw [z] at p1; exact p1
    refine lc_turns r1 (s.mono g1) w1 hD ne fun ys M2 ey G2 H2 us g2 eP r2 q2 => ?_
    rw [ey] at p1
    have nP : ∀ q ∈ G1.P, q.1 ≠ D := fun q hq z => by
      obtain ⟨h1, _⟩ := r1.pin q hq
      rw [z, hD] at h1
      cases h1
    have e2 : G2 = { G2 with P := (D, .lst us) :: G1.P } := by
      obtain ⟨F6, θ6, P6⟩ := G2
      have eP6' : P6 = (D, .lst us) :: G1.P := eP
      rw [eP6']
    rw [e2] at r2
    have hd := (r2.pin (D, .lst us) List.mem_cons_self).1
    have g3 : Gr0 G2 { G2 with θ := G2.θ ++ [D], P := G1.P } := ⟨fun a u e => e, [D], rfl⟩
    have r3 := r2.pinP (mo := .lst ys) nP ⟨us, hd, q2.mono0 g3⟩
    have hl : G2.θ.length = M2.length := r2.len
    refine p1 _ _ H2 ⟨g2.trans g3, rfl⟩ r3 ⟨D, ?_, rfl⟩
    show (G2.θ ++ [D])[M2.length]? = some D
    rw [← hl, List.getElem?_append_right (Nat.le_refl _), Nat.sub_self]
    rfl
theorem qlc (hc : X.calm = true) (hN : X.N.Nodup) (hi : QI X W tg iter f) (ok : BlkOk X.N X.env.scope scope own)
    (hg : ∀ (s : Shared) (H : Hp) (C : Addr) (cl : List (Str × Addr)) (fp : List Addr), QGv (X.blk s H scope (compEnvC scope cl C X.env) fp) (own.map (·.2)) tg g) (ht : ∀ (s : Shared) (H : Hp) (C : Addr) (cl : List (Str × Addr)) (fp : List Addr), QTs (X.blk s H scope (compEnvC scope cl C X.env) fp) ifs b)
    (he : ∀ (s : Shared) (H : Hp) (C : Addr) (cl : List (Str × Addr)) (fp : List Addr), QE (X.blk s H scope (compEnvC scope cl C X.env) fp) W0 elt e) (hs : ∀ x, foldedSetIterable iter X.env x = pure x := by intro _; rfl) :
    QE X W (.ListComp elt [⟨tg, iter, ifs, 0⟩] scope pos) (eLc f g b e (own.map (·.2))) := PE.imp (pe_lc (g := UpGv (cn X) W0 (own.map fun p : Str × Nat => p.2) g) (tt := Up (cn X) W0 (fun _ (a b : Bool) => a = b) b) (te := Up (cn X) W0 (DV (cn X)) e) hc hN hi ok hg ht he hs) fun _ _ _ h => up_lc h
/-- name = [..] -/
theorem qsetLc {i : Nat} {y : Str} {py spos : Pos} {h : EF} (hh : h = eLc f g b e (own.map (·.2)) ∨ h = eLcP f g b e (own.map (·.2))) (hc : X.calm = true) (hN : X.N.Nodup) (hy : X.N[i]? = some y) (hyl : X.env.scope.names.lookup y = some .local)
    (hsw : swapsWith (.ListComp elt [⟨tg, iter, ifs, 0⟩] scope pos) (some (.Name y py)) spos.line X.env = pure true) (hi : QI X W tg iter f) (ok : BlkOk X.N X.env.scope scope own)
    (hg : ∀ (s : Shared) (H : Hp) (C : Addr) (cl : List (Str × Addr)) (fp : List Addr), QGv (X.blk s H scope (compEnvC scope cl C X.env) fp) (own.map (·.2)) tg g) (ht : ∀ (s : Shared) (H : Hp) (C : Addr) (cl : List (Str × Addr)) (fp : List Addr), QTs (X.blk s H scope (compEnvC scope cl C X.env) fp) ifs b)
    (he : ∀ (s : Shared) (H : Hp) (C : Addr) (cl : List (Str × Addr)) (fp : List Addr), QE (X.blk s H scope (compEnvC scope cl C X.env) fp) W0 elt e) (hs : ∀ x, foldedSetIterable iter X.env x = pure x := by intro _; rfl) :
    QS X W (.Assign [.Name y py] (.ListComp elt [⟨tg, iter, ifs, 0⟩] scope pos) spos) (kAsg h (gN i)) := PS.imp (ps_setLc (g := UpGv (cn X) W0 (own.map fun p : Str × Nat => p.2) g) (tt := Up (cn X) W0 (fun _ (a b : Bool) => a = b) b) (te := Up (cn X) W0 (DV (cn X)) e) hc hN hy hyl hsw hi ok hg ht he hs) fun D σ H hp => by
  have z : Up (cn X) W (DV (cn X)) h σ H (fun x H1 => gName i x σ H1 D.nx) := by
    refine Up.imp (UpS.thn hp) fun v H1 ⟨G, S, d, M, r, s, q, p⟩ => ?_
    exact p G _ H1 (Gr.refl G) r (s.set q)
  rcases hh with rfl | rfl
  · exact up_lc z
  · exact up_lcP z
end
end QL
end
section
set_option Elab.async false
set_option linter.all false
set_option maxRecDepth 100000
set_option maxHeartbeats 4000000
set_option autoImplicit false
/-! QDict: dicts, their keys ints, texts or tuples of these. -/
namespace QL
open PySem PySem.Spec L2
open Classical

def keyOf : D → Option Key
  | .int i => some (.inl i)
  | .str x => some (.inr x)
  | _ => none
def keysOf : List D → Option (List Key)
  | [] => some []
  | d :: r => match keyOf d, keysOf r with
    | some k, some t => some (k :: t)
    | _, _ => none
section
variable {κ : Type} [DecidableEq κ]
def valD (kvs : List (κ × D)) (k : κ) : Option D := (kvs.find? fun kv => decide (kv.1 = k)).map (·.2)
def putKD (kvs : List (κ × D)) (k : κ) (d : D) : List (κ × D) :=
  if kvs.any (fun kv => decide (kv.1 = k)) = true then kvs.map (fun kv => if kv.1 = k then (kv.1, d) else kv) else kvs ++ [(k, d)]
/-- pairs that stand for pairs -/
def KR (c : Cn) (G : Gd) (p : κ × D) (q : κ × V) : Prop := q.1 = p.1 ∧ DV c G p.2 q.2
variable {c : Cn} {G : Gd}
/-- what is there, in data and in values -/
def ORel (c : Cn) (G : Gd) : Option D → Option V → Prop
  | some d, some w => DV c G d w
  | none, none => True
  | _, _ => False
theorem kr_val {kvs : List (κ × D)} {ws : List (κ × V)} (h : Paired (KR c G) kvs ws) (k : κ) : ORel c G (valD kvs k) (valV ws k) := by
  induction h with
  | nil => trivial
  | @cons p q ps qs r t ih =>
    obtain ⟨e, r⟩ := r
    by_cases z : p.1 = k
    · have e1 : valD (p :: ps) k = some p.2 := by simp [valD, List.find?_cons, z]
      rw [e1, valV_pos (e.trans z)]
      exact r
    · have e1 : valD (p :: ps) k = valD ps k := by simp [valD, List.find?_cons, z]
      rw [e1, valV_neg (fun y => z (e.symm.trans y))]
      exact ih
theorem kr_any {kvs : List (κ × D)} {ws : List (κ × V)} (h : Paired (KR c G) kvs ws) (k : κ) : (ws.any fun kv => decide (kv.1 = k)) = kvs.any fun kv => decide (kv.1 = k) := by
  induction h with
  | nil => rfl
  | @cons p q ps qs r t ih =>
    rw [List.any_cons, List.any_cons, ih, r.1]
theorem paired_map2 {α β α' β' : Type} {R : α → β → Prop} {R' : α' → β' → Prop} {f : α → α'} {g : β → β'} {xs : List α} {ys : List β} (h : Paired R xs ys) (k : ∀ a b, R a b → R' (f a) (g b)) : Paired R' (xs.map f) (ys.map g) := by
  induction h with
  | nil => exact .nil
  | cons r _ ih => exact .cons (k _ _ r) ih
theorem paired_app {α β : Type} {R : α → β → Prop} {xs xs' : List α} {ys ys' : List β} (h : Paired R xs ys) (h' : Paired R xs' ys') : Paired R (xs ++ xs') (ys ++ ys') := by
  induction h with
  | nil => exact h'
  | cons r _ ih => exact .cons r ih
theorem kr_put {kvs : List (κ × D)} {ws : List (κ × V)} (h : Paired (KR c G) kvs ws) (k : κ) {d : D} {v : V} (q : DV c G d v) : Paired (KR c G) (putKD kvs k d) (putK ws k v) := by
  unfold putKD putK
  rw [kr_any h k]
  split
  · refine paired_map2 h fun a b ⟨e, r⟩ => ?_
    by_cases z : a.1 = k
    · rw [if_pos z, if_pos (e.trans z)]
      exact ⟨e, q⟩
    · rw [if_neg z, if_neg (fun y => z (e.symm.trans y))]
      exact ⟨e, r⟩
  · exact paired_app h (.cons ⟨rfl, q⟩ .nil)
theorem kr_len {kvs : List (κ × D)} {ws : List (κ × V)} (h : Paired (KR c G) kvs ws) : ws.length = kvs.length := by
  induction h with
  | nil => rfl
  | cons r _ ih => rw [List.length_cons, List.length_cons, ih]
end
section
variable {c : Cn} {G G' : Gd} {H : Hp} {M : Mem}
theorem DVk.pr : ∀ {ds : List (Key × D)} {vs : List (Key × V)}, DVk c G ds vs → Paired (KR c G) ds vs
  | [], _, h => by rw [show _ = ([] : List (Key × V)) from h]; exact .nil
  | (k, d) :: r, _, h => by
    obtain ⟨v, t, rfl, q, h⟩ := h
    exact .cons q (DVk.pr h)
theorem DVk.of : ∀ {ds : List (Key × D)} {vs : List (Key × V)}, Paired (KR c G) ds vs → DVk c G ds vs
  | [], _, h => by cases h; exact rfl
  | (k, d) :: r, _, h => by
    cases h with
    | cons q t => exact ⟨_, _, rfl, q, DVk.of t⟩
theorem DVt.pr : ∀ {ds : List (List Key × D)} {vs : List (List Key × V)}, DVt c G ds vs → Paired (KR c G) ds vs
  | [], _, h => by rw [show _ = ([] : List (List Key × V)) from h]; exact .nil
  | (k, d) :: r, _, h => by
    obtain ⟨v, t, rfl, q, h⟩ := h
    exact .cons q (DVt.pr h)
theorem DVt.of : ∀ {ds : List (List Key × D)} {vs : List (List Key × V)}, Paired (KR c G) ds vs → DVt c G ds vs
  | [], _, h => by cases h; exact rfl
  | (k, d) :: r, _, h => by
    cases h with
    | cons q t => exact ⟨_, _, rfl, q, DVt.of t⟩
theorem keyOf_at {d : D} {v : V} {k : Key} (q : DV c G d v) (h : keyOf d = some k) : v = kV k := by
  unfold keyOf at h
  split at h
  · cases h; exact q
  · cases h; exact q
  · cases h
theorem keysOf_at : ∀ {ds : List D} {vs : List V} {k : List Key}, DVs c G ds vs → keysOf ds = some k → vs = k.map kV
  | [], _, _, q, h => by cases h; exact q
  | d :: r, _, k, q, h => by
    obtain ⟨v, t, rfl, q1, q2⟩ := q
    unfold keysOf at h
    split at h
    · rename_i k1 k2 e1 e2
      cases h
      rw [keyOf_at q1 e1, keysOf_at q2 e2]
      rfl
    · cases h
/-- what x holds at y, if x is a dict -/
def look (M : Mem) (x y : D) : Option (Option D) := match asK M x with
  | some kvs => match keyOf y with
    | some k => some (valD kvs k)
    | none => none
  | none => match asTt M x with
    | some kvs => match y with
      | .tup ds => match keysOf ds with
        | some k => some (valD kvs k)
        | none => none
      | _ => none
    | none => none
def isDict (M : Mem) (x : D) : Bool := (asK M x).isSome || (asTt M x).isSome
theorem look_at {x y : D} {v u : V} {o : Option D} (r : Rep c G H M) (qx : DV c G x v) (qy : DV c G y u) (h : look M x y = some o) :
    ∃ a ov, v = .ref a ∧ DGet H a u ov ∧ ORel c G o ov := by
  unfold look at h
  cases ek : asK M x with
  | some kvs =>
    rw [ek] at h
    simp only at h
    cases e1 : keyOf y with
    | none => rw [e1] at h; cases h
    | some k =>
      rw [e1] at h
      cases h
      obtain ⟨a, ws, rfl, rd, t⟩ := asK_at r qx ek
      have kv := kr_val t.pr k
      exact ⟨a, valV ws k, rfl, .inl ⟨ws, k, rd, keyOf_at qy e1, rfl⟩, kv⟩
  | none =>
    rw [ek] at h
    simp only at h
    cases et : asTt M x with
    | none => rw [et] at h; cases h
    | some kvs =>
      rw [et] at h
      simp only at h
      cases y with
      | tup ds =>
        simp only at h
        cases e1 : keysOf ds with
        | none => rw [e1] at h; cases h
        | some k =>
          rw [e1] at h
          cases h
          obtain ⟨a, ws, rfl, rd, t⟩ := asTt_at r qx et
          obtain ⟨b, us, rfl, fb, q2⟩ := qy
          have kv := kr_val t.pr k
          exact ⟨a, valV ws k, rfl, .inr ⟨ws, k, b, rd, rfl, by rw [← keysOf_at q2 e1]; exact r.fz.tup fb, rfl⟩, kv⟩
      | _ => cases h
end
theorem ORel.some_of {c : Cn} {G : Gd} {d : D} {ov : Option V} (h : ORel c G (some d) ov) : ∃ w, ov = some w ∧ DV c G d w := by
  cases ov with
  | some w => exact ⟨w, rfl, h⟩
  | none => exact h.elim
theorem ORel.none_of {c : Cn} {G : Gd} {ov : Option V} (h : ORel c G none ov) : ov = none := by
  cases ov with
  | some w => exact h.elim
  | none => rfl
/-- d[k] -/
def fDIx (x y : D) (M : Mem) : Res D := match look M x y with
  | some (some d) => .ok d M
  | _ => .bad
def fIn (x y : D) (M : Mem) : Res D := match look M y x with
  | some o => .ok (.bl o.isSome) M
  | _ => .bad
def fNotIn (x y : D) (M : Mem) : Res D := match look M y x with
  | some o => .ok (.bl (!o.isSome)) M
  | _ => .bad
section
variable {X : Cx} {W : WX} {pos : Pos} {o i : Expr} {fo fi : EF}
theorem PE.or {e : Expr} {t t' : TE} (h : PE X e t) (h' : PE X e t') : PE X e (fun σ H Q => t σ H Q ∨ t' σ H Q) := ⟨fun pins s σ H Q I z => z.elim (h.run pins s σ H Q I) (h'.run pins s σ H Q I)⟩
theorem PT.or {e : Expr} {t t' : TT} (h : PT X e t) (h' : PT X e t') : PT X e (fun σ H Q => t σ H Q ∨ t' σ H Q) := ⟨fun pins s σ H Q I z => z.elim (h.run pins s σ H Q I) (h'.run pins s σ H Q I)⟩
theorem qdix (hu : X.A.units + 1 < cLine) (ho : QE X W o fo) (hi : QE X W i fi) (hs : NoSl i := by exact fun _ _ => rfl) : QE X W (.Subscript o i pos) (e2 fDIx fo fi) := PE.imp (pe_dget hu ho hi hs) fun σ H Q h => by
  refine Up.imp (Up.bind h) fun v H1 ⟨G, S, d, M, r1, s, q, p⟩ => ?_
  refine ⟨G, S, M, r1, s, (Post.bind (rel := DV (cn X)) p).imp fun u H2 ⟨G2, d2, M2, g2, r2, q2, p2⟩ => ?_⟩
  unfold fDIx at p2
  split at p2
  · rename_i d3 el
    obtain ⟨a, ov, rfl, dg, ho⟩ := look_at r2 (q.mono g2) q2 el
    obtain ⟨w, rfl, qw⟩ := ho.some_of
    exact ⟨a, w, rfl, dg, p2 G2 w H2 (Gr.refl _) r2 qw⟩
  · exact p2.elim
theorem up_din {f : D → D → Mem → Res D} {c : Cn} {σ : St} {H : Hp} {Q : VK} {g : Bool → Bool} (hf : ∀ x y M, f x y M = match look M y x with | some o => .ok (.bl (g o.isSome)) M | none => .bad) (h : Up c W (DV c) (e2 f fi fo) σ H Q) :
    Up c W (DV c) fi σ H fun y H1 => Up c W (DV c) fo σ H1 fun x H2 => ∃ a o, x = .ref a ∧ DGet H2 a y o ∧ Q (.bl (g o.isSome)) H2 := by
  refine Up.imp (Up.bind h) fun v H1 ⟨G, S, d, M, r1, s, q, p⟩ => ?_
  refine ⟨G, S, M, r1, s, (Post.bind (rel := DV c) p).imp fun u H2 ⟨G2, d2, M2, g2, r2, q2, p2⟩ => ?_⟩
  rw [hf] at p2
  split at p2
  · rename_i o3 el
    obtain ⟨a, ov, rfl, dg, ho⟩ := look_at r2 q2 (q.mono g2) el
    refine ⟨a, ov, rfl, dg, p2 G2 _ H2 (Gr.refl _) r2 ?_⟩
    cases o3 with
    | some d3 => obtain ⟨w, rfl, _⟩ := ho.some_of; exact rfl
    | none => cases ho.none_of; exact rfl
  · exact p2.elim
theorem qdin (hu : X.A.units + 1 < cLine) (hi : QE X W i fi) (ho : QE X W o fo) (hm : behindInMarks .In o = false := by rfl) : QE X W (.Compare i [.In] [o] pos) (e2 fIn fi fo) := PE.imp (pe_cmp (pc_din hu hi ho) hm) fun σ H Q h => up_din (f := fIn) (g := id) (fun x y M => by (first | unfold fIn | unfold fNotIn); cases look M y x <;> rfl) h
theorem tdin (hu : X.A.units + 1 < cLine) (hi : QE X W i fi) (ho : QE X W o fo) (hm : behindInMarks .In o = false := by rfl) : QT X W (.Compare i [.In] [o] pos) (bV (e2 fIn fi fo)) := PT.imp (pt_cmp (pc_din hu hi ho) hm) fun σ H Q h => by
  have h2 := Up.bind (rel := DV (cn X)) h
  refine up_din (Q := fun x H1 => ∃ c, x = .bl c ∧ Q c H1) (f := fIn) (g := id) (fun x y M => by (first | unfold fIn | unfold fNotIn); cases look M y x <;> rfl) (Up.imp h2 fun v H1 ⟨G, S, d, M, r1, s, q, p⟩ => ?_)
  split at p
  · cases (show v = _ from q)
    exact ⟨_, rfl, p G _ H1 (Gr.refl _) r1 rfl⟩
  · exact p.elim
theorem tdnotin (hu : X.A.units + 1 < cLine) (hi : QE X W i fi) (ho : QE X W o fo) (hm : behindInMarks .NotIn o = false := by rfl) : QT X W (.Compare i [.NotIn] [o] pos) (bV (e2 fNotIn fi fo)) := PT.imp (pt_cmp (pc_dnotin hu hi ho) hm) fun σ H Q h => by
  have h2 := Up.bind (rel := DV (cn X)) h
  refine up_din (Q := fun x H1 => ∃ c, x = .bl c ∧ Q c H1) (f := fNotIn) (g := fun b => !b) (fun x y M => by (first | unfold fIn | unfold fNotIn); cases look M y x <;> rfl) (Up.imp h2 fun v H1 ⟨G, S, d, M, r1, s, q, p⟩ => ?_)
  split at p
  · cases (show v = _ from q)
    exact ⟨_, rfl, p G _ H1 (Gr.refl _) r1 rfl⟩
  · exact p.elim
/-- d.get(k, x) -/
def eGet2 (o i x : EF) : EF := fun S M => (o S M).bind fun d M1 => if isDict M1 d = true then (i S M1).bind fun y M2 => (x S M2).bind fun z M3 => match look M3 d y with
    | some (some w) => .ok w M3
    | some none => .ok z M3
    | none => .bad
  else .bad
theorem isDict_at {c : Cn} {G : Gd} {H : Hp} {M : Mem} {d : D} {v : V} (r : Rep c G H M) (q : DV c G d v) (h : isDict M d = true) : ∃ a, v = .ref a ∧ IsD H a := by
  unfold isDict at h
  cases ek : asK M d with
  | some kvs =>
    obtain ⟨a, ws, rfl, rd, _⟩ := asK_at r q ek
    exact ⟨a, rfl, .inl ⟨ws, rd⟩⟩
  | none =>
    cases et : asTt M d with
    | some kvs =>
      obtain ⟨a, ws, rfl, rd, _⟩ := asTt_at r q et
      exact ⟨a, rfl, .inr ⟨ws, rd⟩⟩
    | none => rw [ek, et] at h; cases h
theorem qget2 {x : Expr} {fx : EF} {apos : Pos} (hu : X.A.units + 1 < cLine) (ho : QE X W o fo) (hi : QE X W i fi) (hx : QE X W x fx) (m : M2 X o "get" apos i x pos := by exact ⟨rfl, rfl, rfl, rfl⟩) : QE X W (.Call (.Attribute o "get" apos) [i, x] [] pos) (eGet2 fo fi fx) := PE.imp (pe_dget2 hu ho hi hx m) fun σ H Q h => by
  refine Up.imp (Up.bind h) fun v H1 ⟨G, S, d, M, r1, s, q, p⟩ => ?_
  split at p
  · rename_i hd
    obtain ⟨a, rfl, di⟩ := isDict_at r1 q hd
    refine ⟨a, rfl, di, G, S, M, r1, s, (Post.bind (rel := DV (cn X)) p).imp fun u H2 ⟨G2, d2, M2, g2, r2, q2, p2⟩ => ?_⟩
    refine ⟨G2, S, M2, r2, s.mono g2, (Post.bind (rel := DV (cn X)) p2).imp fun z H3 ⟨G3, d3, M3, g3, r3, q3, p3⟩ => ?_⟩
    split at p3
    · rename_i w el
      obtain ⟨a', ov, e, dg, ho⟩ := look_at r3 ((q.mono g2).mono g3) (q2.mono g3) el
      obtain ⟨w', rfl, qw⟩ := ho.some_of
      cases e
      exact ⟨some w', dg, p3 G3 _ H3 (Gr.refl _) r3 qw⟩
    · rename_i el
      obtain ⟨a', ov, e, dg, ho⟩ := look_at r3 ((q.mono g2).mono g3) (q2.mono g3) el
      cases ho.none_of
      cases e
      exact ⟨none, dg, p3 G3 _ H3 (Gr.refl _) r3 q3⟩
    · exact p3.elim
  · exact p.elim
/-- {} -/
def eDnewK : EF := fun _ M => .ok (.dK []) M
def eDnewT : EF := fun _ M => .ok (.dT []) M
def eDnewKP : EF := fun _ M => .ok (.ptr M.length) (M ++ [.dK []])
def eDnewTP : EF := fun _ M => .ok (.ptr M.length) (M ++ [.dT []])
theorem ptr_new {G : Gd} {c : Cn} {H : Hp} {M : Mem} {a : Addr} (r : Rep c G H M) : DV c { G with θ := G.θ ++ [a] } (.ptr M.length) (.ref a) := by
  refine ⟨a, ?_, rfl⟩
  show (G.θ ++ [a])[M.length]? = some a
  rw [← r.len, List.getElem?_append_right (Nat.le_refl _), Nat.sub_self]
  rfl
theorem qdnewKP : QE X W (.Dict [] [] pos) eDnewKP := PE.imp pe_dnewK fun σ H Q h => by
  obtain ⟨G, S, M, r, s, p⟩ := h
  intro a ha
  exact p _ _ _ (Gr.newP a) (r.newP ha (mo := .dK []) ⟨[], upd_same, rfl⟩) (ptr_new r)
theorem qdnewTP : QE X W (.Dict [] [] pos) eDnewTP := PE.imp pe_dnewT fun σ H Q h => by
  obtain ⟨G, S, M, r, s, p⟩ := h
  intro a ha
  exact p _ _ _ (Gr.newP a) (r.newP ha (mo := .dT []) ⟨[], upd_same, rfl⟩) (ptr_new r)
/-- d[k] = v -/
def dput (k : Nat) (y v : D) (M : Mem) : Option Mem := match M[k]? with
  | some (.dK kvs) => match keyOf y with
    | some key => if kvs.length < sizeLine then some (M.set k (.dK (putKD kvs key v))) else none
    | none => none
  | some (.dT kvs) => match y with
    | .tup ds => match keysOf ds with
      | some key => if kvs.length < sizeLine then some (M.set k (.dT (putKD kvs key v))) else none
      | none => none
    | _ => none
  | _ => none
theorem dput_at {c : Cn} {G : Gd} {H : Hp} {M M' : Mem} {k : Nat} {y v : D} {x u w : V} (r : Rep c G H M) (qx : DV c G (.ptr k) x) (qy : DV c G y u) (qv : DV c G v w) (h : dput k y v M = some M') :
    ∃ a H', x = .ref a ∧ DPut H a u w H' ∧ Rep c G H' M' := by
  obtain ⟨a, e1, rfl⟩ := qx
  unfold dput at h
  split at h
  · rename_i kvs em
    split at h
    · rename_i key ek
      split at h
      · rename_i hl
        cases h
        obtain ⟨ws, hu, t⟩ := r.mem k _ a em e1
        have t2 := kr_put t.pr key qv
        refine ⟨a, _, rfl, .inl ⟨ws, key, hu, keyOf_at qy ek, by rw [kr_len t.pr]; exact hl, rfl⟩, r.write em e1 rfl ⟨_, upd_same, DVk.of t2⟩⟩
      · cases h
    · cases h
  · rename_i kvs em
    split at h
    · rename_i ds
      split at h
      · rename_i key ek
        split at h
        · rename_i hl
          cases h
          obtain ⟨ws, hu, t⟩ := r.mem k _ a em e1
          obtain ⟨b, us, rfl, fb, q2⟩ := qy
          have t2 := kr_put t.pr key qv
          refine ⟨a, _, rfl, .inr ⟨ws, key, b, hu, rfl, by rw [← keysOf_at q2 ek]; exact r.fz.tup fb, by rw [kr_len t.pr]; exact hl, rfl⟩, r.write em e1 rfl ⟨_, upd_same, DVt.of t2⟩⟩
        · cases h
      · cases h
    · cases h
  · cases h
def kDPut (o i v : EF) : TF := fun S M => (v S M).thn S fun dv M1 => (o S M1).thn S fun d M2 => (i S M2).thn S fun y M3 => match d with
  | .ptr k => match dput k y dv M3 with
    | some M4 => .nx S M4
    | none => .bad
  | _ => .bad
theorem qdput {v : Expr} {fv : EF} {pos' : Pos} (hu : X.A.units + 1 < cLine) (ho : QE X W o fo) (hi : QE X W i fi) (hv : QE X W v fv) (hs : swapsWith v (some (.Subscript o i pos')) pos.line X.env = pure false := by rfl) :
    QS X W (.Assign [.Subscript o i pos'] v pos) (kDPut fo fi fv) := PS.imp (ps_dput hu ho hi hv hs) fun D σ H h => by
  refine Up.imp (UpS.thn h) fun y H1 ⟨G, S, dy, M, r, s, q, p⟩ => ?_
  refine ⟨G, S, M, r, s, (PostS.thnE (rel := DV (cn X)) s p).imp fun x H2 ⟨G2, d, M2, g2, r2, q2, p2⟩ => ?_⟩
  refine ⟨G2, S, M2, r2, s.mono g2, (PostS.thnE (rel := DV (cn X)) (s.mono g2) p2).imp fun z H3 ⟨G3, d3, M3, g3, r3, q3, p3⟩ => ?_⟩
  split at p3
  · rename_i k
    split at p3
    · rename_i M4 ed
      obtain ⟨a, H', rfl, dp, r4⟩ := dput_at r3 (q2.mono g3) q3 ((q.mono g2).mono g3) ed
      exact ⟨a, H', rfl, dp, p3 G3 σ H' (Gr.refl _) r4 ((s.mono g2).mono g3)⟩
    · exact p3.elim
  · exact p3.elim
/-- d[k] += e, -= e, on ints -/
def kDAug (o i v : EF) (op : Int → Int → Int) : TF := fun S M => (o S M).thn S fun d M1 => (i S M1).thn S fun y M2 => match d with
  | .ptr k => match look M2 d y with
    | some (some (.int a)) => (v S M2).thn S fun w M3 => match w with
      | .int b => match dput k y (.int (op a b)) M3 with
        | some M4 => .nx S M4
        | none => .bad
      | _ => .bad
    | _ => .bad
  | _ => .bad
def rIp (op : Int → Int → Int) : V → V → Hp → VK → Prop := fun x y H Q => ∃ i j, x = .int i ∧ y = .int j ∧ Q (.int (op i j)) H
end
end QL
end
section
set_option Elab.async false
set_option linter.all false
set_option maxRecDepth 100000
set_option maxHeartbeats 4000000
set_option autoImplicit false
/-! QMore: subscripts, slices, in, isinstance, built-ins, methods. -/
namespace QL
open PySem PySem.Spec L2
open Classical

/-! ### a[i] -/
def fIx (x y : D) (M : Mem) : Res D := match x with
  | .tup ds => match y with
    | .int i => match atI ds i with
      | some d => .ok d M
      | none => .bad
    | _ => .bad
  | .str z => match y with
    | .int i => if z.length ≤ sizeLine then match atI z.cps.toList i with
        | some c => .ok (.str ⟨#[c]⟩) M
        | none => .bad
      else .bad
    | _ => .bad
  | x => match asL M x with
    | some ds => match y with
      | .int i => match atI ds i with
        | some d => .ok d M
        | none => .bad
      | _ => .bad
    | none => .bad
section
variable {c : Cn} {G : Gd}
theorem DVs.atI {ds : List D} {vs : List V} {i : Int} {d : D} (q : DVs c G ds vs) (h : L2.atI ds i = some d) : ∃ v, L2.atI vs i = some v ∧ DV c G d v := by
  unfold L2.atI at h ⊢
  rw [q.length]
  cases e : ixN ds.length i with
  | none => rw [e] at h; cases h
  | some j =>
    rw [e] at h
    obtain ⟨v, e1, q1⟩ := q.get (show ds[j]? = some d from h)
    exact ⟨v, e1, q1⟩
theorem r2_ix : R2s c fIx (rIx c.K) := by
  intro W σ G H M x y dx dy Q r qx qy p
  unfold fIx at p
  split at p
  · rename_i ds
    split at p
    · rename_i i
      split at p
      · rename_i d hd
        obtain ⟨a, vs, rfl, s, t⟩ := qx
        obtain ⟨v, ev, qv⟩ := t.atI hd
        exact .inr (.inl ⟨a, vs, i, v, rfl, qy, .inl (.inl (r.fz.tup s)), ev, p G _ H (Gr.refl _) r qv⟩)
      · exact p.elim
    · exact p.elim
  · rename_i z
    split at p
    · rename_i i
      split at p
      · rename_i hz
        split at p
        · rename_i ch hc
          exact .inr (.inr ⟨z, i, ch, qx, qy, hz, hc, p G _ H (Gr.refl _) r rfl⟩)
        · exact p.elim
      · exact p.elim
    · exact p.elim
  · split at p
    · rename_i ds hds
      split at p
      · rename_i i
        split at p
        · rename_i d hd
          obtain ⟨a, vs, rfl, s, t⟩ := asL_at r qx hds
          obtain ⟨v, ev, qv⟩ := t.atI hd
          exact .inl ⟨a, vs, i, v, rfl, qy, s, ev, p G _ H (Gr.refl _) r qv⟩
        · exact p.elim
      · exact p.elim
    · exact p.elim
end
section
variable {X : Cx} {W : WX} {pos p2 : Pos} {o i a b : Expr} {lo hi : Option Expr} {fo fi fa fb : EF}
theorem qix (ha : QE X W a fa) (hb : QE X W b fb) (hs : PlainIx b := by exact fun _ _ => rfl) : QE X W (.Subscript a b pos) (e2 fIx fa fb) := q_ix ix_seq r2_ix ha hb hs

/-! ### slices -/
abbrev OF := Sl → Mem → Res (Option Int)
def relO : Gd → Option Int → Option Int → Prop := fun _ a b => a = b
def QO (X : Cx) (W : WX) (e : Option Expr) (f : OF) : Prop := PO X e (Up (cn X) W relO f)
theorem PO.imp {e : Option Expr} {t t' : TO} (h : PO X e t) (k : ∀ σ H Q, t' σ H Q → t σ H Q) : PO X e t' := ⟨fun pins s σ H Q I z => h.run pins s σ H Q I (k σ H Q z)⟩
def oNone : OF := fun _ M => .ok none M
def oSome (e : EF) : OF := fun S M => (e S M).bind fun d M1 => match d with
  | .int i => .ok (some i) M1
  | _ => .bad
theorem qo_none : QO X W none oNone := PO.imp po_none fun σ H Q h => by
  obtain ⟨G, S, M, r, s, p⟩ := h
  exact p G none H (Gr.refl G) r rfl
theorem qo_some (h : QE X W a fa) : QO X W (some a) (oSome fa) := PO.imp (po_some h) fun σ H Q h => by
  refine Up.imp (Up.bind h) fun v H1 ⟨G, S, d, M, r1, s, q, p⟩ => ?_
  split at p
  · exact ⟨_, q, p G _ H1 (Gr.refl _) r1 rfl⟩
  · exact p.elim
def cutD (xs : List D) (lo hi : Option Int) : List D := (xs.drop (HT.sIx xs.length 0 lo)).take (HT.sIx xs.length xs.length hi - HT.sIx xs.length 0 lo)
theorem DVs.cut {c : Cn} {G : Gd} {ds : List D} {vs : List V} (q : DVs c G ds vs) (lo hi : Option Int) : DVs c G (cutD ds lo hi) (cutV vs lo hi) := by
  unfold cutD cutV
  rw [q.length]
  exact (q.drop _).take _
def fSl (x : D) (lo hi : Option Int) (M : Mem) : Res D := match x with
  | .str z => if z.length ≤ sizeLine then .ok (.str (cutS z lo hi)) M else .bad
  | .tup ds => if HT.sIx ds.length 0 lo = 0 ∧ HT.sIx ds.length ds.length hi = ds.length then .bad else .ok (.tup (cutD ds lo hi)) M
  | x => match asL M x with
    | some ds => .ok (.lst (cutD ds lo hi)) M
    | none => .bad
def eSl (e : EF) (l h : OF) : EF := fun S M => (e S M).bind fun d M1 => (l S M1).bind fun lo M2 => (h S M2).bind fun hi M3 => fSl d lo hi M3
theorem qsl {fl fh : OF} (he : QE X W a fa) (hl : QO X W lo fl) (hu : QO X W hi fh) : QE X W (.Subscript a (.Slice lo hi none p2) pos) (eSl fa fl fh) :=
  PE.imp (pe_slice (sl_list.or (sl_str.or sl_tup)) he hl hu) fun σ H Q h => by
  refine Up.imp (Up.bind h) fun v H1 ⟨G, S, d, M, r1, s, q, p⟩ => ?_
  refine ⟨G, S, M, r1, s, (Post.bind (rel := relO) p).imp fun l H2 ⟨G2, l2, M2, g2, r2, e2, p2⟩ => ?_⟩
  refine ⟨G2, S, M2, r2, s.mono g2, (Post.bind (rel := relO) p2).imp fun u H3 ⟨G3, u3, M3, g3, r3, e3, p3⟩ => ?_⟩
  cases e2
  cases e3
  have q3 := (q.mono g2).mono g3
  unfold fSl at p3
  split at p3
  · split at p3
    · rename_i hz
      exact .inr (.inl ⟨_, q3, hz, p3 G3 _ H3 (Gr.refl _) r3 rfl⟩)
    · exact p3.elim
  · split at p3
    · exact p3.elim
    · rename_i hw
      obtain ⟨a, vs, rfl, s, t⟩ := q3
      refine .inr (.inr ⟨a, vs, rfl, .inl (.inl (r3.fz.tup s)), by rw [t.length]; exact hw, fun p' hp => ?_⟩)
      have g := Gr.newF (G := G3) (o := .tup (cutV vs l u)) (r3.fz.free hp)
      exact p3 _ _ _ g (r3.newF hp) ⟨p', _, rfl, upd_same, (t.cut l u).mono g⟩
  · split at p3
    · rename_i ds hds
      obtain ⟨a, vs, rfl, s, t⟩ := asL_at r3 q3 hds
      refine .inl ⟨a, vs, rfl, s, fun p' hp => ?_⟩
      have g := Gr.newF (G := G3) (o := .lst (cutV vs l u)) (r3.fz.free hp)
      exact p3 _ _ _ g (r3.newF hp) ⟨p', _, rfl, .inl (.inl upd_same), (t.cut l u).mono g⟩
    · exact p3.elim

/-! ### in, not in: a sign in a text, an item in a list or a tuple -/
def flatD : D → Bool
  | .non => true
  | .bl _ => true
  | .int _ => true
  | .str _ => true
  | _ => false
def toV : D → V
  | .non => .non
  | .bl b => .bl b
  | .int i => .int i
  | .str x => .str x
  | _ => .non
theorem flat_at {c : Cn} {G : Gd} {d : D} {v : V} (h : flatD d = true) (q : DV c G d v) : v = toV d ∧ flatV v = true := by
  cases d with
  | non => cases (show v = _ from q); exact ⟨rfl, rfl⟩
  | bl b => cases (show v = _ from q); exact ⟨rfl, rfl⟩
  | int b => cases (show v = _ from q); exact ⟨rfl, rfl⟩
  | str b => cases (show v = _ from q); exact ⟨rfl, rfl⟩
  | _ => cases h
theorem flats_at {c : Cn} {G : Gd} : ∀ {ds : List D} {vs : List V}, ds.all flatD = true → DVs c G ds vs → vs = ds.map toV ∧ vs.all flatV = true
  | [], _, _, q => by rw [show _ = ([] : List V) from q]; exact ⟨rfl, rfl⟩
  | d :: r, _, h, q => by
    obtain ⟨v, t, rfl, q1, q2⟩ := q
    rw [List.all_cons, Bool.and_eq_true] at h
    obtain ⟨e1, f1⟩ := flat_at h.1 q1
    obtain ⟨e2, f2⟩ := flats_at h.2 q2
    exact ⟨by rw [e1, e2]; rfl, by rw [List.all_cons, f1, f2]; rfl⟩
/-- Python's == of flat things -/
def eqFlat (a b : D) : Bool := eqV (toV a) (toV b)
def memD (x : D) (ds : List D) : Bool := ds.any fun y => eqFlat y x
theorem memD_V (x : D) (ds : List D) : inV (toV x) (ds.map toV) = memD x ds := by
  unfold inV memD eqFlat
  rw [List.any_map]
  rfl
def seqOf (M : Mem) : D → Option (List D)
  | .tup ds => some ds
  | d => asL M d
theorem seqOf_at {c : Cn} {G : Gd} {H : Hp} {M : Mem} {d : D} {v : V} {ds : List D} (r : Rep c G H M) (q : DV c G d v) (h : seqOf M d = some ds) : ∃ a vs, v = .ref a ∧ (SqL c.K H a vs ∨ SqT c.K H a vs) ∧ DVs c G ds vs := by
  unfold seqOf at h
  split at h
  · cases h
    obtain ⟨a, vs, rfl, s, t⟩ := q
    exact ⟨a, vs, rfl, .inr (.inl (.inl (r.fz.tup s))), t⟩
  · obtain ⟨a, vs, rfl, s, t⟩ := asL_at r q h
    exact ⟨a, vs, rfl, .inl s, t⟩
def fInG (neg : Bool) (x y : D) (M : Mem) : Res D := match y with
  | .str z => match x with
    | .str w => .ok (.bl (neg ^^ !(Builtin.Str.occurrences z w 0 z.length 1).isEmpty)) M
    | _ => .bad
  | y => match seqOf M y with
    | some ds => if flatD x = true ∧ ds.all flatD = true then .ok (.bl (neg ^^ memD x ds)) M else .bad
    | none => .bad
theorem r2_in {c : Cn} : R2s c (fInG false) (fun x y H Q => rIn c.K false x y H Q ∨ (∃ i j, x = .str i ∧ y = .str j ∧ Q (.bl (!(Builtin.Str.occurrences j i 0 j.length 1).isEmpty)) H)) := by
  intro W σ G H M x y dx dy Q r qx qy p
  unfold fInG at p
  split at p
  · split at p
    · exact .inr ⟨_, _, qx, qy, by simpa using p G _ H (Gr.refl _) r rfl⟩
    · exact p.elim
  · split at p
    · rename_i ds hds
      split at p
      · rename_i hf
        obtain ⟨a, vs, rfl, s, t⟩ := seqOf_at r qy hds
        obtain ⟨e1, f1⟩ := flat_at hf.1 qx
        obtain ⟨e2, f2⟩ := flats_at hf.2 t
        refine .inl ⟨a, vs, rfl, s, f1, f2, ?_⟩
        rw [if_neg Bool.false_ne_true, e1, e2, memD_V]
        exact p G _ H (Gr.refl _) r (by simp; rfl)
      · exact p.elim
    · exact p.elim
theorem r2_notin {c : Cn} : R2s c (fInG true) (fun x y H Q => rIn c.K true x y H Q ∨ (∃ i j, x = .str i ∧ y = .str j ∧ Q (.bl (!(!(Builtin.Str.occurrences j i 0 j.length 1).isEmpty))) H)) := by
  intro W σ G H M x y dx dy Q r qx qy p
  unfold fInG at p
  split at p
  · split at p
    · exact .inr ⟨_, _, qx, qy, by simpa using p G _ H (Gr.refl _) r rfl⟩
    · exact p.elim
  · split at p
    · rename_i ds hds
      split at p
      · rename_i hf
        obtain ⟨a, vs, rfl, s, t⟩ := seqOf_at r qy hds
        obtain ⟨e1, f1⟩ := flat_at hf.1 qx
        obtain ⟨e2, f2⟩ := flats_at hf.2 t
        refine .inl ⟨a, vs, rfl, s, f1, f2, ?_⟩
        rw [if_pos rfl, e1, e2, memD_V]
        exact p G _ H (Gr.refl _) r (by simp; rfl)
      · exact p.elim
    · exact p.elim
theorem qin (hm : behindInMarks .In b = false) (ha : QE X W a fa) (hb : QE X W b fb) : QE X W (.Compare a [.In] [b] pos) (e2 (fInG false) fa fb) := q_cmp (op_in_seq.or op_in_str) r2_in hm ha hb
theorem tin (hm : behindInMarks .In b = false) (ha : QE X W a fa) (hb : QE X W b fb) : QT X W (.Compare a [.In] [b] pos) (bV (e2 (fInG false) fa fb)) := qt_cmp (op_in_seq.or op_in_str) r2_in hm ha hb
theorem tnotin (hm : behindInMarks .NotIn b = false) (ha : QE X W a fa) (hb : QE X W b fb) : QT X W (.Compare a [.NotIn] [b] pos) (bV (e2 (fInG true) fa fb)) := qt_cmp (op_notIn_seq.or op_notin_str) r2_notin hm ha hb

/-! ### a op b op c -/
theorem up_chain {c : Cn} {f g : D → D → Mem → Res D} {r r' : R2} {fx fy fz : EF} {σ : St} {H : Hp} {Q : VK} (hr : R2s c f r) (hr' : R2s c g r') (h : Up c W (DV c) (e3 f g fx fy fz) σ H Q) : tChain r r' (Up c W (DV c) fx) (Up c W (DV c) fy) (Up c W (DV c) fz) σ H Q := by
  refine Up.imp (Up.bind h) fun v H1 ⟨G, S, d, M, r1, s, q, p⟩ => ?_
  refine ⟨G, S, M, r1, s, (Post.bind (rel := DV c) p).imp fun u H2 ⟨G2, d2, M2, g2, r2, q2, p2⟩ => ?_⟩
  refine hr W σ G2 H2 M2 v u d d2 _ r2 (q.mono g2) q2 ((Post.bind (rel := DV c) p2).imp fun z H3 ⟨G3, d3, M3, g3, r3, q3, p3⟩ => ?_)
  split at p3
  · cases (show z = _ from q3)
    refine ⟨true, rfl, ?_⟩
    rw [if_pos rfl]
    refine ⟨G3, S, M3, r3, (s.mono g2).mono g3, (Post.bind (rel := DV c) p3).imp fun w H4 ⟨G4, d4, M4, g4, r4, q4, p4⟩ => ?_⟩
    exact hr' W σ G4 H4 M4 u w d2 d4 Q r4 ((q2.mono g3).mono g4) q4 p4
  · cases (show z = _ from q3)
    refine ⟨false, rfl, ?_⟩
    rw [if_neg Bool.false_ne_true]
    exact p3 G3 _ H3 (Gr.refl _) r3 rfl
  · exact p3.elim
end
end QL
end
section
set_option Elab.async false
set_option linter.all false
set_option maxRecDepth 100000
set_option maxHeartbeats 4000000
set_option autoImplicit false
/-! QBlt: built-in functions and methods of built-in types. -/
namespace QL
open PySem PySem.Spec L2
open Classical

/-- a function on data does what r asks -/
def RCs (c : Cn) (f : List D → Mem → Res D) (r : List V → Hp → VK → Prop) : Prop := ∀ (W : WX) (σ : St) (G : Gd) (H : Hp) (M : Mem) (vs : List V) (ds : List D) (Q : VK), Rep c G H M → DVs c G ds vs → Post c W σ G (DV c) (f ds M) Q → r vs H Q
section
variable {X : Cx} {W : WX} {x : Str} {p pos apos : Pos} {e o : Expr} {es : List Expr} {a : AF} {f : List D → Mem → Res D} {r : List V → Hp → VK → Prop} {id T : String}
theorem up_cb {c : Cn} {σ : St} {H : Hp} {Q : VK} (hf : RCs c f r) (h : Up c W (DV c) (eCall f a) σ H Q) : tCB r (Up c W (DVs c) a) σ H Q := by
  refine Up.imp (Up.bind h) fun vs H1 ⟨G, S, ds, M, rp, s, q, p⟩ => ?_
  exact hf W σ G H1 M vs ds Q rp q p
theorem q_cb (hc : CallR X (.builtin id) r) (hf : RCs (cn X) f r) (hg : Gl X x) (hm : X.mg x = none) (ha : QA X W (e :: es) a) (hv : bootBuiltins x = some (.builtin id)) (hn : x ≠ "__name__" := by decide) (hdb : (x == ("__debug__" : Str)) = false := by decide)
    (he : starEach (e :: es) X.env = (false, eval e X.env) :: starEach es X.env := by rfl) (hpl : (backTo pos (starEach es X.env)).any (·.1) = false := by rfl) : QE X W (.Call (.Name x p) (e :: es) [] pos) (eCall f a) :=
  PE.imp (pe_callB hc hg hm hv ha hn hdb he hpl) fun _ _ _ h => up_cb hf h
theorem q_ct (hc : CallR X (.type T) r) (hf : RCs (cn X) f r) (hg : Gl X x) (hm : X.mg x = none) (ha : QA X W (e :: es) a) (hv : bootBuiltins x = some (.type T)) (hn : x ≠ "__name__" := by decide) (hdb : (x == ("__debug__" : Str)) = false := by decide)
    (he : starEach (e :: es) X.env = (false, eval e X.env) :: starEach es X.env := by rfl) (hpl : (backTo pos (starEach es X.env)).any (·.1) = false := by rfl) : QE X W (.Call (.Name x p) (e :: es) [] pos) (eCall f a) :=
  PE.imp (pe_callTy hc hg hm hv ha hn hdb he hpl) fun _ _ _ h => up_cb hf h
end
/-! ### len, abs, sum, all, any, min, max of two ints -/
def bLen (ds : List D) (M : Mem) : Res D := match ds with
  | [.str z] => if z.length ≤ sizeLine then .ok (.int z.length) M else .bad
  | [d] => match seqOf M d with
    | some xs => .ok (.int xs.length) M
    | none => .bad
  | _ => .bad
/-- len of a dict -/
def bLenD (ds : List D) (M : Mem) : Res D := match ds with
  | [d] => match asK M d with
    | some kvs => .ok (.int kvs.length) M
    | none => .bad
  | _ => .bad
def bAbs (ds : List D) (M : Mem) : Res D := match ds with
  | [.int i] => .ok (.int (if i < 0 then -i else i)) M
  | _ => .bad
def bSum (ds : List D) (M : Mem) : Res D := match ds with
  | [d] => match asL M d with
    | some xs => match intsOf xs with
      | some ns => .ok (.int ns.sum) M
      | none => .bad
    | none => .bad
  | _ => .bad
def bAll (ds : List D) (M : Mem) : Res D := match ds with
  | [d] => match asL M d with
    | some xs => match blsOf xs with
      | some ns => .ok (.bl (ns.all id)) M
      | none => .bad
    | none => .bad
  | _ => .bad
def bAny (ds : List D) (M : Mem) : Res D := match ds with
  | [d] => match asL M d with
    | some xs => match blsOf xs with
      | some ns => .ok (.bl (ns.any id)) M
      | none => .bad
    | none => .bad
  | _ => .bad
def bMin2 (ds : List D) (M : Mem) : Res D := match ds with
  | [.int i, .int j] => .ok (.int (if j < i then j else i)) M
  | _ => .bad
def bMax2 (ds : List D) (M : Mem) : Res D := match ds with
  | [.int i, .int j] => .ok (.int (if j > i then j else i)) M
  | _ => .bad
def bInt (ds : List D) (M : Mem) : Res D := match ds with
  | [.int i] => .ok (.int i) M
  | [.bl b] => .ok (.int (if b then 1 else 0)) M
  | _ => .bad
/-- list(..) of a list or a tuple: a new one -/
def bList (ds : List D) (M : Mem) : Res D := match ds with
  | [d] => match seqOf M d with
    | some xs => .ok (.lst xs) M
    | none => .bad
  | _ => .bad
def bListP (ds : List D) (M : Mem) : Res D := match ds with
  | [d] => match seqOf M d with
    | some xs => .ok (.ptr M.length) (M ++ [.lst xs])
    | none => .bad
  | _ => .bad
def bTuple (ds : List D) (M : Mem) : Res D := match ds with
  | [.tup xs] => .ok (.tup xs) M
  | [d] => match asL M d with
    | some xs => .ok (.tup xs) M
    | none => .bad
  | _ => .bad
section
variable {c : Cn}
theorem rc_len : RCs c bLen (fun xs H Q => (∃ z, xs = [.str z] ∧ z.length ≤ sizeLine ∧ Q (.int z.length) H) ∨ ∃ p ys, xs = [.ref p] ∧ (SqL c.K H p ys ∨ SqT c.K H p ys) ∧ Q (.int ys.length) H) := by
  intro W σ G H M vs ds Q r q p
  unfold bLen at p
  split at p
  · split at p
    · rename_i hz
      obtain ⟨v, t, rfl, q1, rfl⟩ := q
      cases (show v = _ from q1)
      exact .inl ⟨_, rfl, hz, p G _ H (Gr.refl _) r rfl⟩
    · exact p.elim
  · split at p
    · rename_i xs hx
      obtain ⟨v, t, rfl, q1, rfl⟩ := q
      obtain ⟨a, us, rfl, s, t⟩ := seqOf_at r q1 hx
      exact .inr ⟨a, us, rfl, s, p G _ H (Gr.refl _) r (by rw [t.length]; rfl)⟩
    · exact p.elim
  · exact p.elim
theorem rc_lenD : RCs c bLenD (fun xs H Q => ∃ p kvs, xs = [.ref p] ∧ Rd H p (.dK kvs) ∧ Q (.int kvs.length) H) := by
  intro W σ G H M vs ds Q r q p
  unfold bLenD at p
  split at p
  · split at p
    · rename_i xs hx
      obtain ⟨v, t, rfl, q1, rfl⟩ := q
      obtain ⟨a, us, rfl, s, t⟩ := asK_at r q1 hx
      exact ⟨a, us, rfl, s, p G _ H (Gr.refl _) r (by rw [kr_len t.pr]; rfl)⟩
    · exact p.elim
  · exact p.elim
theorem rc_abs : RCs c bAbs (fun xs H Q => ∃ i, xs = [.int i] ∧ Q (.int (if i < 0 then -i else i)) H) := by
  intro W σ G H M vs ds Q r q p
  unfold bAbs at p
  split at p
  · exact ⟨_, DVs.ints (ns := [_]) q, p G _ H (Gr.refl _) r rfl⟩
  · exact p.elim
theorem rc_all : RCs c bAll (rAll c.K) := by
  intro W σ G H M vs ds Q r q p
  unfold bAll at p
  split at p
  · split at p
    · rename_i xs hx
      split at p
      · rename_i ns hn
        obtain ⟨v, t, rfl, q1, rfl⟩ := q
        obtain ⟨a, us, rfl, s, t⟩ := asL_at r q1 hx
        rw [blsOf_eq hn] at t
        rw [t.bls] at s
        exact ⟨a, ns, rfl, s, p G _ H (Gr.refl _) r rfl⟩
      · exact p.elim
    · exact p.elim
  · exact p.elim
theorem rc_min2 : RCs c bMin2 (fun xs H Q => ∃ i j, xs = [.int i, .int j] ∧ Q (.int (if j < i then j else i)) H) := by
  intro W σ G H M vs ds Q r q p
  unfold bMin2 at p
  split at p
  · exact ⟨_, _, DVs.ints (ns := [_, _]) q, p G _ H (Gr.refl _) r rfl⟩
  · exact p.elim
theorem rc_max2 : RCs c bMax2 (fun xs H Q => ∃ i j, xs = [.int i, .int j] ∧ Q (.int (if j > i then j else i)) H) := by
  intro W σ G H M vs ds Q r q p
  unfold bMax2 at p
  split at p
  · exact ⟨_, _, DVs.ints (ns := [_, _]) q, p G _ H (Gr.refl _) r rfl⟩
  · exact p.elim
theorem rc_int : RCs c bInt (fun xs H Q => (∃ i, xs = [.int i] ∧ Q (.int i) H) ∨ ∃ k, xs = [.bl k] ∧ Q (.int (if k then 1 else 0)) H) := by
  intro W σ G H M vs ds Q r q p
  unfold bInt at p
  split at p
  · exact .inl ⟨_, DVs.ints (ns := [_]) q, p G _ H (Gr.refl _) r rfl⟩
  · exact .inr ⟨_, DVs.bls (ns := [_]) q, p G _ H (Gr.refl _) r rfl⟩
  · exact p.elim
theorem rc_list : RCs c bList (fun xs H Q => ∃ p ys, xs = [.ref p] ∧ (SqL c.K H p ys ∨ SqT c.K H p ys) ∧ ∀ l, H l = none → Q (.ref l) (upd H l (.lst ys))) := by
  intro W σ G H M vs ds Q r q p
  unfold bList at p
  split at p
  · split at p
    · rename_i xs hx
      obtain ⟨v, t, rfl, q1, rfl⟩ := q
      obtain ⟨a, us, rfl, s, t⟩ := seqOf_at r q1 hx
      refine ⟨a, us, rfl, s, fun l hl => ?_⟩
      have g := Gr.newF (G := G) (o := .lst us) (r.fz.free hl)
      exact p _ _ _ g (r.newF hl) ⟨l, us, rfl, .inl (.inl upd_same), t.mono g⟩
    · exact p.elim
  · exact p.elim
theorem rc_listP : RCs c bListP (fun xs H Q => ∃ p ys, xs = [.ref p] ∧ (SqL c.K H p ys ∨ SqT c.K H p ys) ∧ ∀ l, H l = none → Q (.ref l) (upd H l (.lst ys))) := by
  intro W σ G H M vs ds Q r q p
  unfold bListP at p
  split at p
  · split at p
    · rename_i xs hx
      obtain ⟨v, t, rfl, q1, rfl⟩ := q
      obtain ⟨a, us, rfl, s, t⟩ := seqOf_at r q1 hx
      refine ⟨a, us, rfl, s, fun l hl => ?_⟩
      exact p _ _ _ (Gr.newP l) (r.newP hl (mo := .lst xs) ⟨us, upd_same, t.mono (Gr.newP l)⟩) (ptr_new r)
    · exact p.elim
  · exact p.elim
theorem rc_tuple : RCs c bTuple (fun xs H Q => ∃ p ys, xs = [.ref p] ∧ ((SqL c.K H p ys ∧ ∀ l, H l = none → Q (.ref l) (upd H l (.tup ys))) ∨ (SqT c.K H p ys ∧ Q (.ref p) H))) := by
  intro W σ G H M vs ds Q r q p
  unfold bTuple at p
  split at p
  · obtain ⟨v, t, rfl, q1, rfl⟩ := q
    obtain ⟨a, us, rfl, s, t⟩ := q1
    exact ⟨a, us, rfl, .inr ⟨.inl (.inl (r.fz.tup s)), p G _ H (Gr.refl _) r ⟨a, us, rfl, s, t⟩⟩⟩
  · split at p
    · rename_i xs hx
      obtain ⟨v, t, rfl, q1, rfl⟩ := q
      obtain ⟨a, us, rfl, s, t⟩ := asL_at r q1 hx
      refine ⟨a, us, rfl, .inl ⟨s, fun l hl => ?_⟩⟩
      have g := Gr.newF (G := G) (o := .tup us) (r.fz.free hl)
      exact p _ _ _ g (r.newF hl) ⟨l, us, rfl, upd_same, t.mono g⟩
    · exact p.elim
  · exact p.elim
end
section
variable {X : Cx} {W : WX} {p pos apos : Pos} {e o e1 e2' : Expr} {es : List Expr} {a : AF} {fo fe : EF}
theorem call_lenDk : CallR X (.builtin "len") (fun xs H Q => ∃ p kvs, xs = [.ref p] ∧ Rd H p (.dK kvs) ∧ Q (.int (kvs.length : Nat)) H) := by
  intro pins s σ H xs us Q I r h
  obtain ⟨a, kvs, rfl, e, q⟩ := h
  rw [Vals.ref1 r]
  exact d_len I e fun t s' I' => ⟨.int kvs.length, H, I', ⟨t, rfl⟩, q⟩
theorem qlen (hg : Gl X "len") (hm : X.mg "len" = none) (ha : QA X W [e] a) (he : starEach [e] X.env = (false, eval e X.env) :: starEach [] X.env := by rfl) (hpl : (backTo pos (starEach [] X.env)).any (·.1) = false := by rfl) :
    QE X W (.Call (.Name "len" p) [e] [] pos) (eCall bLen a) := q_cb (call_len_str.or call_len_seq) rc_len hg hm ha PySem.boot_len (by decide) (by decide) he hpl
theorem qlenD (hg : Gl X "len") (hm : X.mg "len" = none) (ha : QA X W [e] a) (he : starEach [e] X.env = (false, eval e X.env) :: starEach [] X.env := by rfl) (hpl : (backTo pos (starEach [] X.env)).any (·.1) = false := by rfl) :
    QE X W (.Call (.Name "len" p) [e] [] pos) (eCall bLenD a) := q_cb call_lenDk rc_lenD hg hm ha PySem.boot_len (by decide) (by decide) he hpl
theorem qabs (hg : Gl X "abs") (hm : X.mg "abs" = none) (ha : QA X W [e] a) (he : starEach [e] X.env = (false, eval e X.env) :: starEach [] X.env := by rfl) (hpl : (backTo pos (starEach [] X.env)).any (·.1) = false := by rfl) :
    QE X W (.Call (.Name "abs" p) [e] [] pos) (eCall bAbs a) := q_cb call_abs rc_abs hg hm ha (by decide +kernel) (by decide) (by decide) he hpl
theorem qall (hc : X.calm = true) (hg : Gl X "all") (hm : X.mg "all" = none) (ha : QA X W [e] a) (he : starEach [e] X.env = (false, eval e X.env) :: starEach [] X.env := by rfl) (hpl : (backTo pos (starEach [] X.env)).any (·.1) = false := by rfl) :
    QE X W (.Call (.Name "all" p) [e] [] pos) (eCall bAll a) := q_cb (cr_all hc) rc_all hg hm ha (by decide +kernel) (by decide) (by decide) he hpl
theorem qmin2 (hc : X.calm = true) (hg : Gl X "min") (hm : X.mg "min" = none) (ha : QA X W [e1, e2'] a) (he : starEach [e1, e2'] X.env = (false, eval e1 X.env) :: starEach [e2'] X.env := by rfl) (hpl : (backTo pos (starEach [e2'] X.env)).any (·.1) = false := by rfl) :
    QE X W (.Call (.Name "min" p) [e1, e2'] [] pos) (eCall bMin2 a) := q_cb (call_min2 hc) rc_min2 hg hm ha (by decide +kernel) (by decide) (by decide) he hpl
theorem qmax2 (hc : X.calm = true) (hg : Gl X "max") (hm : X.mg "max" = none) (ha : QA X W [e1, e2'] a) (he : starEach [e1, e2'] X.env = (false, eval e1 X.env) :: starEach [e2'] X.env := by rfl) (hpl : (backTo pos (starEach [e2'] X.env)).any (·.1) = false := by rfl) :
    QE X W (.Call (.Name "max" p) [e1, e2'] [] pos) (eCall bMax2 a) := q_cb (call_max2 hc) rc_max2 hg hm ha (by decide +kernel) (by decide) (by decide) he hpl
theorem qint1 (hg : Gl X "int") (hm : X.mg "int" = none) (ha : QA X W [e] a) (he : starEach [e] X.env = (false, eval e X.env) :: starEach [] X.env := by rfl) (hpl : (backTo pos (starEach [] X.env)).any (·.1) = false := by rfl) :
    QE X W (.Call (.Name "int" p) [e] [] pos) (eCall bInt a) := q_ct call_int1 rc_int hg hm ha (by decide +kernel) (by decide) (by decide) he hpl
theorem qlist (hg : Gl X "list") (hm : X.mg "list" = none) (ha : QA X W [e] a) (he : starEach [e] X.env = (false, eval e X.env) :: starEach [] X.env := by rfl) (hpl : (backTo pos (starEach [] X.env)).any (·.1) = false := by rfl) :
    QE X W (.Call (.Name "list" p) [e] [] pos) (eCall bList a) := q_ct call_list_of rc_list hg hm ha (by decide +kernel) (by decide) (by decide) he hpl
theorem qlistP (hg : Gl X "list") (hm : X.mg "list" = none) (ha : QA X W [e] a) (he : starEach [e] X.env = (false, eval e X.env) :: starEach [] X.env := by rfl) (hpl : (backTo pos (starEach [] X.env)).any (·.1) = false := by rfl) :
    QE X W (.Call (.Name "list" p) [e] [] pos) (eCall bListP a) := q_ct call_list_of rc_listP hg hm ha (by decide +kernel) (by decide) (by decide) he hpl
theorem qtuple (hg : Gl X "tuple") (hm : X.mg "tuple" = none) (ha : QA X W [e] a) (he : starEach [e] X.env = (false, eval e X.env) :: starEach [] X.env := by rfl) (hpl : (backTo pos (starEach [] X.env)).any (·.1) = false := by rfl) :
    QE X W (.Call (.Name "tuple" p) [e] [] pos) (eCall bTuple a) := q_ct call_tuple_of rc_tuple hg hm ha (by decide +kernel) (by decide) (by decide) he hpl
end

/-! ### isinstance of built-in types -/
def tyName (M : Mem) : D → Option String
  | .non => some "NoneType"
  | .bl _ => some "bool"
  | .int _ => some "int"
  | .str _ => some "str"
  | .tup _ => some "tuple"
  | .lst _ => some "list"
  | .dK _ => some "dict"
  | .ptr k => match M[k]? with
    | some (.lst _) => some "list"
    | some (.dK _) => some "dict"
    | some (.dT _) => some "dict"
    | _ => none
  | _ => none
def tyNames : List String := ["NoneType", "bool", "int", "str", "tuple", "list", "dict"]
def isTy (a b : String) : Bool := a == b || (a == "bool" && b == "int")
theorem kit_all : ∀ a ∈ tyNames, ∀ b ∈ ["bool", "int", "str", "tuple", "list", "dict"], kitB a b = some (isTy a b) := by decide +kernel
theorem tyName_in {M : Mem} {d : D} {t : String} (h : tyName M d = some t) : t ∈ tyNames := by
  unfold tyName at h
  split at h <;> first | (cases h; simp [tyNames]) | (split at h <;> first | (cases h; simp [tyNames]) | cases h) | cases h
theorem tyName_at {c : Cn} {G : Gd} {H : Hp} {M : Mem} {d : D} {v : V} {t : String} (r : Rep c G H M) (q : DV c G d v) (h : tyName M d = some t) : TyX c.K H v (.type t) := by
  unfold tyName at h
  split at h
  · cases h; rw [show v = _ from q]; exact .base .non
  · cases h; rw [show v = _ from q]; exact .base (.bl _)
  · cases h; rw [show v = _ from q]; exact .base (.int _)
  · cases h; rw [show v = _ from q]; exact .base (.str _)
  · cases h; obtain ⟨a, vs, rfl, s, _⟩ := q; exact .base (.tup (r.fz.tup s))
  · cases h
    obtain ⟨a, vs, rfl, s, _⟩ := q
    rcases r.fz.sqL s with (z | ⟨o, z⟩) | ⟨o, its, n, hk, hc, _⟩
    · exact .base (.lst z)
    · exact .base (.frz z)
    · exact .kList hk hc
  · cases h
    obtain ⟨a, vs, o, rfl, s, _⟩ := q
    rcases r.fz _ _ s with z | ⟨z, _⟩
    · exact .fDict z
    · cases z
  · rename_i k
    split at h
    · rename_i ds ek
      cases h
      obtain ⟨a, e1, rfl⟩ := q
      obtain ⟨vs, hu, _⟩ := r.mem k _ a ek e1
      exact .base (.lst hu)
    · rename_i ds ek
      cases h
      obtain ⟨a, e1, rfl⟩ := q
      obtain ⟨vs, hu, _⟩ := r.mem k _ a ek e1
      exact .base (.dK hu)
    · rename_i ds ek
      cases h
      obtain ⟨a, e1, rfl⟩ := q
      obtain ⟨vs, hu, _⟩ := r.mem k _ a ek e1
      exact .base (.dT hu)
    · cases h
  · cases h
end QL
end
section
set_option Elab.async false
set_option linter.all false
set_option maxRecDepth 100000
set_option maxHeartbeats 4000000
set_option autoImplicit false
/-! QLst: lists that change, texts joined and split, copies of dicts, chained compares. -/
namespace QL
open PySem PySem.Spec L2
open Classical

/-! ### xs[i] = v, xs[i] += v -/
def lset (o i v : D) (M : Mem) : Option Mem := match o with
  | .ptr k => match M[k]? with
    | some (.lst ds) => match i with
      | .int j => match ixN ds.length j with
        | some n => some (M.set k (.lst (ds.set n v)))
        | none => none
      | _ => none
    | _ => none
  | _ => none
theorem DVs.set {c : Cn} {G : Gd} {d : D} {v : V} (q : DV c G d v) : ∀ {ds : List D} {vs : List V} (n : Nat), DVs c G ds vs → DVs c G (ds.set n d) (vs.set n v)
  | [], _, n, h => by rw [show _ = ([] : List V) from h]; exact rfl
  | e :: r, _, 0, h => by
    obtain ⟨u, t, rfl, h1, h2⟩ := h
    exact ⟨v, t, rfl, q, h2⟩
  | e :: r, _, n + 1, h => by
    obtain ⟨u, t, rfl, h1, h2⟩ := h
    exact ⟨u, t.set n v, rfl, h1, DVs.set q n h2⟩
theorem lset_at {c : Cn} {G : Gd} {H : Hp} {M M' : Mem} {o i v : D} {x y w : V} {Q : Hp → Prop} (r : Rep c G H M) (qo : DV c G o x) (qi : DV c G i y) (qv : DV c G v w) (h : lset o i v M = some M') (hQ : ∀ H', Rep c G H' M' → Q H') : rSetL x y w H Q := by
  unfold lset at h
  split at h
  · rename_i k
    split at h
    · rename_i ds ek
      split at h
      · rename_i j
        split at h
        · rename_i n hn
          cases h
          obtain ⟨a, e1, rfl⟩ := qo
          cases (show y = _ from qi)
          obtain ⟨vs, hu, q⟩ := r.mem k _ a ek e1
          exact ⟨a, vs, j, n, rfl, rfl, hu, by rw [q.length]; exact hn, hQ _ (r.write ek e1 rfl ⟨_, upd_same, q.set qv n⟩)⟩
        · cases h
      · cases h
    · cases h
  · cases h
def gSubL (o i : EF) : GF := fun d S M => (o S M).bind fun x M1 => (i S M1).bind fun y M2 => match lset x y d M2 with
  | some M3 => .ok S M3
  | none => .bad
section
variable {X : Cx} {W : WX} {pos apos tpos : Pos} {o i e : Expr} {es : List Expr} {fo fi fe : EF} {a : AF}
theorem qg_subL (ho : QE X W o fo) (hi : QE X W i fi)
    (ha : ∀ v, assign (.Subscript o i pos) X.env v = (do
      let ov ← holding [v] (eval o X.env)
      let iv ← holding [v, ov] (eval i X.env)
      standAt pos
      holding [v, ov, iv] (setItem ov iv v)
      release [v, ov, iv] []) := by intro _; rfl) : QG X W (.Subscript o i pos) (gSubL fo fi) := PG.imp (pg_sub ho hi set_list ha) fun v σ H Q h => by
  obtain ⟨G, S, M, d, r, s, q, p⟩ := h
  refine ⟨G, S, M, r, s, (Post.bind (rel := DV (cn X)) p).imp fun x H1 ⟨G1, dx, M1, g1, r1, q1, p1⟩ => ?_⟩
  refine ⟨G1, S, M1, r1, s.mono g1, (Post.bind (rel := DV (cn X)) p1).imp fun y H2 ⟨G2, dy, M2, g2, r2, q2, p2⟩ => ?_⟩
  split at p2
  · rename_i M3 hM
    exact lset_at r2 (q1.mono g2) q2 ((q.mono g1).mono g2) hM fun H' r' => p2 G2 σ H' (Gr.refl _) r' ((s.mono g1).mono g2)
  · exact p2.elim
theorem get_list : PGet X (rIxL X.K) := by
  rintro pins s σ H x y v u Q I rx ry ⟨a, xs, k, w, rfl, rfl, lies, at_k, post⟩
  cases rx
  obtain ⟨tk, rfl⟩ := ry
  obtain ⟨us, vals, pl, small⟩ := I.list lies
  obtain ⟨j, ix, at_j, _, low, high⟩ := atI_get at_k
  obtain ⟨z, here, rel⟩ := vals.get at_j
  have same := vals.length
  have fits := line63
  have done : EP X pins σ Q z s := ⟨w, H, I, rel, post⟩
  rcases Int.lt_or_le k 0 with neg | pos
  · rw [seqIndex_neg neg low] at ix
    have place : (k + (us.toArray.size : Int)).toNat = j := by
      rw [List.size_toArray, ← same]
      exact Option.some.inj ix
    exact wpAny_getItem_list_neg (x := z) pl.isList neg (by rw [List.size_toArray] <;> omega) (by omega) (by rw [place]; simpa using here) done
  · rw [seqIndex_of pos high] at ix
    have place : k.toNat = j := Option.some.inj ix
    exact wpAny_getItem_list (x := z) pl.isList pos (by omega) (by rw [place]; simpa using here) done
/-- o[i] op= v, o a list, ints -/
def kLAug (o i v : EF) (op : Int → Int → Int) : TF := fun S M => (o S M).thn S fun d M1 => (i S M1).thn S fun y M2 => match asL M2 d with
  | some ds => match y with
    | .int j => match L2.atI ds j with
      | some (.int n) => (v S M2).thn S fun z M3 => match z with
        | .int m => match lset d y (.int (op n m)) M3 with
          | some M4 => .nx S M4
          | none => .bad
        | _ => .bad
      | _ => .bad
    | _ => .bad
  | none => .bad
theorem qlaug {op : Operator} {f : Int → Int → Int} (ho : QE X W o fo) (hi : QE X W i fi) (he : QE X W e fe) (hp : PIp X op (ipI f))
    (ha : ∀ ov iv new, augStore i ov iv new = (do holding [new, ov, iv] (setItem ov iv new); release [new, ov, iv] []; pure .next) := by intros; rfl) : QS X W (.AugAssign (.Subscript o i tpos) op e pos) (kLAug fo fi fe f) := PS.imp (ps_augS ho hi get_list he hp set_list ha) fun D σ H h => by
  refine Up.imp (UpS.thn h) fun x H1 ⟨G, S, d, M, r, s, q, p⟩ => ?_
  refine ⟨G, S, M, r, s, (PostS.thnE (rel := DV (cn X)) s p).imp fun y H2 ⟨G2, dy, M2, g2, r2, q2, p2⟩ => ?_⟩
  split at p2
  · rename_i ds hds
    split at p2
    · rename_i j
      split at p2
      · rename_i n hn
        cases (show y = _ from q2)
        obtain ⟨a, vs, rfl, sq, t⟩ := asL_at r2 (q.mono g2) hds
        obtain ⟨v, ev, qv⟩ := t.atI hn
        cases (show v = _ from qv)
        refine ⟨a, vs, j, _, rfl, rfl, sq, ev, G2, S, M2, r2, s.mono g2, (PostS.thnE (rel := DV (cn X)) (s.mono g2) p2).imp fun z H3 ⟨G3, dz, M3, g3, r3, q3, p3⟩ => ?_⟩
        split at p3
        · rename_i m
          split at p3
          · rename_i M4 hM
            cases (show z = _ from q3)
            exact ⟨n, m, rfl, rfl, lset_at (i := .int j) (v := .int (f n m)) r3 ((q.mono g2).mono g3) rfl rfl hM fun H' r' => p3 G3 σ H' (Gr.refl _) r' ((s.mono g2).mono g3)⟩
          · exact p3.elim
        · exact p3.elim
      · exact p2.elim
    · exact p2.elim
  · exact p2.elim
/-! ### append, pop -/
def eApp (o v : EF) : EF := fun S M => (o S M).bind fun d M1 => match asL M1 d with
  | some _ => (v S M1).bind fun y M2 => match d with
    | .ptr k => match M2[k]? with
      | some (.lst ds) => if ds.length < sizeLine then .ok .non (M2.set k (.lst (ds ++ [y]))) else .bad
      | _ => .bad
    | _ => .bad
  | none => .bad
theorem qapp {pos : Pos} (ho : QE X W o fo) (he : QE X W e fe)
    (hbase : attributeBase o "append" X.env (eval o X.env) = eval o X.env := by rfl)
    (hfew : ((backTo pos (starEach [e] X.env)).all (fun x => !x.1) && (backToKw pos (keywordEach [] X.env)).all (fun x => x.1.isSome)
      && decide ([e].length + ([] : List Keyword).length + (if ([] : List Keyword).isEmpty then 0 else 1) < 30)) = true := by rfl)
    (hline : (apos.endLine == pos.line) = true := by rfl) (hs : starEach [e] X.env = (false, eval e X.env) :: starEach [] X.env := by rfl) (hplain : (backTo pos (starEach [] X.env)).any (·.1) = false := by rfl) :
    QE X W (.Call (.Attribute o "append" apos) [e] [] pos) (eApp fo fe) := PE.imp (pe_bm PySem.F.plainAttrs_list PySem.F.slot_list_append PySem.F.type_list_append mt_append ho (pa_cons he pa_nil hs) hbase hfew hline hs hplain) fun σ H Q h => by
  refine Up.imp (Up.bind h) fun x H1 ⟨G, S, d, M, r, s, q, p⟩ => ?_
  split at p
  · rename_i ds0 hds
    obtain ⟨a, vs, rfl, sq, t⟩ := asL_at r q hds
    refine ⟨.inl ⟨rfl, vs, sq⟩, G, S, M, r, s, (Post.bind (rel := DV (cn X)) p).imp fun y H2 ⟨G2, dy, M2, g2, r2, q2, p2⟩ => ?_⟩
    obtain ⟨k, rfl⟩ : ∃ k, d = .ptr k := by cases d <;> first | exact ⟨_, rfl⟩ | exact p2.elim
    simp only at p2
    split at p2
    · rename_i ds ek
      split at p2
      · rename_i hz
        obtain ⟨a2, e1, e2⟩ := q.mono g2
        cases e2
        obtain ⟨us, hu, q3⟩ := r2.mem k _ a ek e1
        exact ⟨a, us, y, rfl, rfl, hu, by rw [q3.length]; exact hz, p2 G2 _ _ (Gr.refl _) (r2.write ek e1 rfl ⟨_, upd_same, q3.append (DVs.one q2)⟩) rfl⟩
      · exact p2.elim
    · exact p2.elim
  · exact p.elim
def ePop (o : EF) : EF := fun S M => (o S M).bind fun d M1 => match d with
  | .ptr k => match M1[k]? with
    | some (.lst ds) => match ds[ds.length - 1]? with
      | some y => .ok y (M1.set k (.lst ds.dropLast))
      | none => .bad
    | _ => .bad
  | _ => .bad
theorem DVs.dropLast {c : Cn} {G : Gd} {ds : List D} {vs : List V} (h : DVs c G ds vs) : DVs c G ds.dropLast vs.dropLast := by
  rw [List.dropLast_eq_take, List.dropLast_eq_take, h.length]
  exact h.take _
/-! ### texts -/
def eJoin (o v : EF) : EF := fun S M => (o S M).bind fun d M1 => match d with
  | .str x => (v S M1).bind fun y M2 => match seqOf M2 y with
    | some ds => match strsOf ds with
      | some ys => if (ys.map (·.length)).sum + ys.length * x.length ≤ 16777216 then .ok (.str (Txt.join x ys)) M2 else .bad
      | none => .bad
    | none => .bad
  | _ => .bad
theorem qjoin (ho : QE X W o fo) (he : QE X W e fe) (hs : starEach [e] X.env = [(false, eval e X.env)] := by rfl) (hbase : attributeBase o "join" X.env (eval o X.env) = eval o X.env := by rfl) (hline : (apos.endLine == pos.line) = true := by rfl) :
    QE X W (.Call (.Attribute o "join" apos) [e] [] pos) (eJoin fo fe) := PE.imp (pe_join ho he hs hbase hline) fun σ H Q h => by
  refine Up.imp (Up.bind h) fun x H1 ⟨G, S, d, M, r, s, q, p⟩ => ?_
  split at p
  · rename_i z
    cases (show x = _ from q)
    refine ⟨⟨_, rfl⟩, G, S, M, r, s, (Post.bind (rel := DV (cn X)) p).imp fun y H2 ⟨G2, dy, M2, g2, r2, q2, p2⟩ => ?_⟩
    split at p2
    · rename_i ds hds
      split at p2
      · rename_i ys hys
        split at p2
        · rename_i hz
          obtain ⟨a, vs, rfl, sq, t⟩ := seqOf_at r2 q2 hds
          rw [strsOf_eq hys] at t
          rw [t.strs] at sq
          exact ⟨_, a, ys, rfl, rfl, sq, hz, p2 G2 _ _ (Gr.refl _) r2 rfl⟩
        · exact p2.elim
      · exact p2.elim
    · exact p2.elim
  · exact p.elim
def eSplit (o v : EF) : EF := fun S M => (o S M).bind fun d M1 => match d with
  | .str x => (v S M1).bind fun y M2 => match y with
    | .str b => if (b.length == 0) = false ∧ x.length + 2 ≤ sizeLine then .ok (.lst ((Txt.split x b).map D.str)) M2 else .bad
    | _ => .bad
  | _ => .bad
theorem DVs.ofStrs {c : Cn} {G : Gd} : ∀ ns : List Str, DVs c G (ns.map D.str) (ns.map V.str)
  | [] => rfl
  | n :: r => ⟨_, _, rfl, rfl, DVs.ofStrs r⟩
theorem qsplit (ho : QE X W o fo) (he : QE X W e fe) (hs : starEach [e] X.env = [(false, eval e X.env)] := by rfl) (hbase : attributeBase o "split" X.env (eval o X.env) = eval o X.env := by rfl) (hline : (apos.endLine == pos.line) = true := by rfl) :
    QE X W (.Call (.Attribute o "split" apos) [e] [] pos) (eSplit fo fe) := PE.imp (pe_split ho he hs hbase hline) fun σ H Q h => by
  refine Up.imp (Up.bind h) fun x H1 ⟨G, S, d, M, r, s, q, p⟩ => ?_
  split at p
  · rename_i z
    cases (show x = _ from q)
    refine ⟨⟨_, rfl⟩, G, S, M, r, s, (Post.bind (rel := DV (cn X)) p).imp fun y H2 ⟨G2, dy, M2, g2, r2, q2, p2⟩ => ?_⟩
    split at p2
    · rename_i b
      split at p2
      · rename_i hz
        cases (show y = _ from q2)
        refine ⟨_, b, rfl, rfl, hz.1, hz.2, fun p' hp => ?_⟩
        have g := Gr.newF (G := G2) (o := .lst ((Txt.split z b).map V.str)) (r2.fz.free hp)
        exact p2 _ _ _ g (r2.newF hp) ⟨p', _, rfl, .inl (.inl upd_same), DVs.ofStrs _⟩
      · exact p2.elim
    · exact p2.elim
  · exact p.elim
/-! ### dict(d), d of ints and texts -/
def bDictK (ds : List D) (M : Mem) : Res D := match ds with
  | [d] => match asK M d with
    | some kvs => .ok (.ptr M.length) (M ++ [.dK kvs])
    | none => .bad
  | _ => .bad
end
/-! ### chained compares -/
section
variable {X : Cx} {W : WX} {pos : Pos} {a b c : Expr} {fa fb fc : EF} {f g : D → D → Mem → Res D} {r r' : R2}
theorem qchain {op op' : CmpOp} (ho : OpR X (compareOp op) r) (ho' : OpR X (compareOp op') r') (hr : R2s (cn X) f r) (hr' : R2s (cn X) g r') (ha : QE X W a fa) (hb : QE X W b fb) (hc : QE X W c fc)
    (hm : lastMarks [op, op'] [b, c] = false := by with_unfolding_all rfl) : QE X W (.Compare a [op, op'] [b, c] pos) (e3 f g fa fb fc) := PE.imp (pe_chain ho ho' ha hb hc hm) fun _ _ _ h => up_chain hr hr' h
theorem tchain {op op' : CmpOp} (ho : OpR X (compareOp op) r) (ho' : OpR X (compareOp op') r') (hr : R2s (cn X) f r) (hr' : R2s (cn X) g r') (ha : QE X W a fa) (hb : QE X W b fb) (hc : QE X W c fc)
    (hm : lastMarks [op, op'] [b, c] = false := by with_unfolding_all rfl) : QT X W (.Compare a [op, op'] [b, c] pos) (bV (e3 f g fa fb fc)) := PT.imp (pt_chain ho ho' ha hb hc hm) fun σ H Q h => by
  have h2 := Up.bind (rel := DV (cn X)) h
  refine up_chain (Q := fun x H1 => ∃ c, x = .bl c ∧ Q c H1) hr hr' (Up.imp h2 fun v H1 ⟨G, S, d, M, r1, s, q, p⟩ => ?_)
  split at p
  · cases (show v = _ from q)
    exact ⟨_, rfl, p G _ H1 (Gr.refl _) r1 rfl⟩
  · exact p.elim
end
end QL
end
section
set_option Elab.async false
set_option linter.all false
set_option maxRecDepth 100000
set_option maxHeartbeats 4000000
set_option autoImplicit false
/-! QDc: dict comprehensions, keys ints or texts. -/
namespace QL
open PySem PySem.Spec L2
open Classical
/-- the pairs that the turns give -/
noncomputable def dcL (gd : Mem → Prop) (g : GF) (b : BF) (ke e : EF) (S0 : Sl) : List D → List (Key × D) → Mem → Res (List (Key × D))
  | [], acc, M => if gd M then .ok acc M else .bad
  | d :: r, acc, M => if gd M then match g d S0 M with
      | .ok S1 M1 => match b S1 M1 with
        | .ok true M2 => match ke S1 M2 with
          | .ok kd M3 => match keyOf kd with
            | some k => match e S1 M3 with
              | .ok y M4 => if acc.length < sizeLine then dcL gd g b ke e S0 r (putKD acc k y) M4 else .bad
              | _ => .bad
            | none => .bad
          | _ => .bad
        | .ok false M2 => dcL gd g b ke e S0 r acc M2
        | _ => .bad
      | _ => .bad
    else .bad
/-- a new dict that may change -/
noncomputable def eDc (f : IF) (g : GF) (b : BF) (ke e : EF) (vs : List Nat) : EF := fun S M => (f S M).bind fun I M1 => (dcL I.gd g b ke e (kl vs S) I.ds [] M1).bind fun ys M2 => .ok (.ptr M2.length) (M2 ++ [.dK ys])
section
variable {X : Cx} {W : WX} {tg iter kx elt : Expr} {ifs : List Expr} {scope : Scope} {own : List (Str × Nat)} {pos : Pos} {f : IF} {g : GF} {b : BF} {ke e : EF}
end
end QL
end
section
set_option Elab.async false
set_option linter.all false
set_option maxRecDepth 100000
set_option maxHeartbeats 4000000
set_option autoImplicit false
/-! QAny: rules put together where the text does not tell which kind of thing stands there. -/
namespace QL
open PySem PySem.Spec L2
open Classical

def orR {α : Type} (r1 r2 : Res α) : Res α := match r1 with
  | .bad => r2
  | r => r
def or2 (f g : D → D → Mem → Res D) : D → D → Mem → Res D := fun x y M => orR (f x y M) (g x y M)
def orC (f g : List D → Mem → Res D) : List D → Mem → Res D := fun ds M => orR (f ds M) (g ds M)
theorem orR_or {α : Type} (r1 r2 : Res α) : orR r1 r2 = r1 ∨ orR r1 r2 = r2 := by
  cases r1 with
  | ok a M => exact .inl rfl
  | rz x M => exact .inl rfl
  | bad => exact .inr rfl
theorem e2_or {f g : D → D → Mem → Res D} {a b : EF} (S : Sl) (M : Mem) : e2 (or2 f g) a b S M = e2 f a b S M ∨ e2 (or2 f g) a b S M = e2 g a b S M := by
  unfold e2
  cases a S M with
  | rz x M1 => exact .inl rfl
  | bad => exact .inl rfl
  | ok x M1 =>
    show (b S M1).bind _ = (b S M1).bind _ ∨ (b S M1).bind _ = (b S M1).bind _
    cases b S M1 with
    | rz x M1 => exact .inl rfl
    | bad => exact .inl rfl
    | ok y M2 => exact orR_or (f x y M2) (g x y M2)
theorem bV_or {e e1 e2 : EF} {S : Sl} {M : Mem} (h : e S M = e1 S M ∨ e S M = e2 S M) : bV e S M = bV e1 S M ∨ bV e S M = bV e2 S M := by
  unfold bV
  rcases h with h | h
  · exact .inl (by rw [h])
  · exact .inr (by rw [h])
theorem eCall_or {f g : List D → Mem → Res D} {a : AF} (S : Sl) (M : Mem) : eCall (orC f g) a S M = eCall f a S M ∨ eCall (orC f g) a S M = eCall g a S M := by
  unfold eCall
  cases a S M with
  | rz x M1 => exact .inl rfl
  | bad => exact .inl rfl
  | ok x M1 => exact orR_or (f x M1) (g x M1)
section
variable {X : Cx} {W : WX} {e : Expr}
theorem Up.or {α β : Type} {c : Cn} {rel : Gd → α → β → Prop} {σ : St} {H : Hp} {Q : β → Hp → Prop} {g g1 g2 : Sl → Mem → Res α} (h : ∀ S M, g S M = g1 S M ∨ g S M = g2 S M) (z : Up c W rel g σ H Q) : Up c W rel g1 σ H Q ∨ Up c W rel g2 σ H Q := by
  obtain ⟨G, S, M, r, s, p⟩ := z
  rcases h S M with e | e
  · exact .inl ⟨G, S, M, r, s, by rw [← e]; exact p⟩
  · exact .inr ⟨G, S, M, r, s, by rw [← e]; exact p⟩
theorem QE.or {g g1 g2 : EF} (h1 : QE X W e g1) (h2 : QE X W e g2) (h : ∀ S M, g S M = g1 S M ∨ g S M = g2 S M) : QE X W e g := PE.imp (PE.or h1 h2) fun _ _ _ z => z.or h
theorem QT.or {g g1 g2 : BF} (h1 : QT X W e g1) (h2 : QT X W e g2) (h : ∀ S M, g S M = g1 S M ∨ g S M = g2 S M) : QT X W e g := PT.imp (PT.or h1 h2) fun _ _ _ z => z.or h
theorem QE.e2 {f g : D → D → Mem → Res D} {a b : EF} (h1 : QE X W e (e2 f a b)) (h2 : QE X W e (QL.e2 g a b)) : QE X W e (QL.e2 (or2 f g) a b) := QE.or h1 h2 e2_or
theorem QT.e2 {f g : D → D → Mem → Res D} {a b : EF} (h1 : QT X W e (bV (e2 f a b))) (h2 : QT X W e (bV (QL.e2 g a b))) : QT X W e (bV (QL.e2 (or2 f g) a b)) := QT.or h1 h2 fun S M => bV_or (e2_or S M)
theorem QE.call {f g : List D → Mem → Res D} {a : AF} (h1 : QE X W e (eCall f a)) (h2 : QE X W e (eCall g a)) : QE X W e (eCall (orC f g) a) := QE.or h1 h2 eCall_or
end
/-! ### the rules -/
def fIxA := or2 fDIx fIx
def fInA := or2 fIn (fInG false)
def fNotInA := or2 fNotIn (fInG true)
section
variable {X : Cx} {W : WX} {pos p : Pos} {o i e : Expr} {fo fi : EF} {a : AF}
theorem qixA (hu : X.A.units + 64 < cLine) (ho : QE X W o fo) (hi : QE X W i fi) (hs : PlainIx i := by exact fun _ _ => rfl) : QE X W (.Subscript o i pos) (e2 fIxA fo fi) := (qdix (by omega) ho hi hs).e2 (qix ho hi hs)
theorem qinA (hu : X.A.units + 64 < cLine) (hi : QE X W i fi) (ho : QE X W o fo) (hm : behindInMarks .In o = false := by rfl) : QE X W (.Compare i [.In] [o] pos) (e2 fInA fi fo) := (qdin (by omega) hi ho hm).e2 (qin hm hi ho)
theorem tinA (hu : X.A.units + 64 < cLine) (hi : QE X W i fi) (ho : QE X W o fo) (hm : behindInMarks .In o = false := by rfl) : QT X W (.Compare i [.In] [o] pos) (bV (e2 fInA fi fo)) := (tdin (by omega) hi ho hm).e2 (tin hm hi ho)
theorem tnotinA (hu : X.A.units + 64 < cLine) (hi : QE X W i fi) (ho : QE X W o fo) (hm : behindInMarks .NotIn o = false := by rfl) : QT X W (.Compare i [.NotIn] [o] pos) (bV (e2 fNotInA fi fo)) := (tdnotin (by omega) hi ho hm).e2 (tnotin hm hi ho)
def bLenA := orC bLen bLenD
end
end QL
end
section
set_option Elab.async false
set_option linter.all false
set_option maxRecDepth 100000
set_option maxHeartbeats 4000000
set_option autoImplicit false
/-! QSort: sorted texts, repr of small things, lists repeated, lists of other lengths compared. -/
namespace QL
open PySem PySem.Spec L2
open Classical
open PyProof.Rows (sortedS risingS ltCps_eq)

/-! ### texts in order -/
def leS (a b : Str) : Bool := !ltCps b.cps.toList a.cps.toList
theorem leS_iff {a b : Str} : leS a b = true ↔ ¬ b.cps.toList < a.cps.toList := by
  unfold leS
  rw [ltCps_eq]
  simp
theorem leS_total (a b : Str) : (leS a b || leS b a) = true := by
  rw [Bool.or_eq_true, leS_iff, leS_iff]
  by_cases h : b.cps.toList < a.cps.toList
  · exact .inr (fun z => List.lt_irrefl _ (List.lt_trans h z))
  · exact .inl h
theorem leS_trans (a b c : Str) (h1 : leS a b = true) (h2 : leS b c = true) : leS a c = true := by
  rw [leS_iff] at h1 h2 ⊢
  exact fun z => by
    have h1' : a.cps.toList ≤ b.cps.toList := h1
    have h2' : b.cps.toList ≤ c.cps.toList := h2
    exact List.le_trans h1' h2' z
theorem leS_anti {a b : Str} (h1 : leS a b = true) (h2 : leS b a = true) : a = b := by
  rw [leS_iff] at h1 h2
  have e := List.le_antisymm (show a.cps.toList ≤ b.cps.toList from h1) (show b.cps.toList ≤ a.cps.toList from h2)
  obtain ⟨⟨la⟩⟩ := a
  obtain ⟨⟨lb⟩⟩ := b
  simp at e
  rw [e]
def srt (l : List Str) : List Str := l.mergeSort leS
theorem srt_perm (l : List Str) : (srt l).Perm l := List.mergeSort_perm _ _
theorem srt_pw (l : List Str) : (srt l).Pairwise fun a b => leS a b = true := List.pairwise_mergeSort leS_trans leS_total l
theorem pw_rising : ∀ (l : List Str) (p : Str), risingS p l = true → (p :: l).Pairwise fun a b => leS a b = true
  | [], p, _ => List.pairwise_singleton _ _
  | x :: r, p, h => by
    have h' : (leS p x && risingS x r) = true := h
    rw [Bool.and_eq_true] at h'
    have ih := pw_rising r x h'.2
    refine List.pairwise_cons.mpr ⟨fun y hy => ?_, ih⟩
    rcases List.mem_cons.mp hy with z | z
    · rw [z]; exact h'.1
    · exact leS_trans _ _ _ h'.1 ((List.pairwise_cons.mp ih).1 y z)
theorem pw_sortedS : ∀ l : List Str, sortedS l = true → l.Pairwise fun a b => leS a b = true
  | [], _ => List.Pairwise.nil
  | x :: r, h => pw_rising r x h
theorem srt_eq {l ys : List Str} (hp : ys.Perm l) (hs : sortedS ys = true) : ys = srt l :=
  List.Perm.eq_of_pairwise (le := fun a b => leS a b = true) (fun _ _ _ _ h1 h2 => leS_anti h1 h2) (pw_sortedS _ hs) (srt_pw l) (hp.trans (srt_perm l).symm)
/-- sorted(xs), fewer than 64 texts -/
def bSortS (ds : List D) (M : Mem) : Res D := match ds with
  | [d] => match asL M d with
    | some xs => match strsOf xs with
      | some ns => if ns.length < 64 then .ok (.lst ((srt ns).map D.str)) M else .bad
      | none => .bad
    | none => .bad
  | _ => .bad
def txts : List (Key × D) → Option (List Str)
  | [] => some []
  | (.inr x, _) :: r => (txts r).map (x :: ·)
  | _ => none
theorem txts_eq : ∀ {kvs : List (Key × D)} {ks : List Str}, txts kvs = some ks → kvs.map (·.1) = ks.map Sum.inr
  | [], ks, h => by cases h; rfl
  | (.inr x, d) :: r, ks, h => by
    unfold txts at h
    cases e : txts r with
    | none => rw [e] at h; cases h
    | some t =>
      rw [e] at h
      cases h
      simp [txts_eq e]
  | (.inl i, d) :: r, ks, h => by cases h
/-- sorted(d), fewer than 64 keys, texts -/
def bSortD (ds : List D) (M : Mem) : Res D := match ds with
  | [d] => match asK M d with
    | some kvs => match txts kvs with
      | some ns => if ns.length < 64 then .ok (.lst ((srt ns).map D.str)) M else .bad
      | none => .bad
    | none => .bad
  | _ => .bad
section
variable {c : Cn}
theorem post_strs {W : WX} {σ : St} {G : Gd} {H : Hp} {M : Mem} {p : Addr} {ys : List Str} {Q : VK} (r : Rep c G H M) (hp : H p = none) (q : Post c W σ G (DV c) (.ok (.lst (ys.map D.str)) M) Q) : Q (.ref p) (upd H p (.lst (ys.map V.str))) :=
  q _ _ _ (Gr.newF (r.fz.free hp)) (r.newF hp) ⟨p, _, rfl, .inl (.inl upd_same), DVs.ofStrs _⟩
theorem rc_sortS : RCs c bSortS (rSortedS c.K) := by
  intro W σ G H M vs ds Q r q p
  unfold bSortS at p
  split at p
  · split at p
    · rename_i xs hx
      split at p
      · rename_i ns hn
        split at p
        · rename_i hz
          obtain ⟨v, t, rfl, q1, rfl⟩ := q
          obtain ⟨a, us, rfl, s, t⟩ := asL_at r q1 hx
          rw [strsOf_eq hn] at t
          rw [t.strs] at s
          exact ⟨a, ns, rfl, s, hz, fun ys p' hp hs hn' => by rw [srt_eq hp hs]; exact post_strs r hn' p⟩
        · exact p.elim
      · exact p.elim
    · exact p.elim
  · exact p.elim
theorem keys_of {G : Gd} : ∀ {kvs : List (Key × D)} {ws : List (Key × V)}, Paired (KR c G) kvs ws → ws.map (·.1) = kvs.map (·.1)
  | _, _, .nil => rfl
  | _, _, .cons r t => by rw [List.map_cons, List.map_cons, r.1, keys_of t]
theorem rc_sortD : RCs c bSortD (fun xs H Q => ∃ (a : Addr) (kvs : List (Key × V)) (ks : List Str), xs = [.ref a] ∧ Rd H a (.dK kvs) ∧ kvs.map (·.1) = ks.map Sum.inr ∧ ks.length < 64 ∧
    ∀ ys p, ys.Perm ks → sortedS ys = true → H p = none → Q (.ref p) (upd H p (.lst (ys.map V.str)))) := by
  intro W σ G H M vs ds Q r q p
  unfold bSortD at p
  split at p
  · split at p
    · rename_i kvs hx
      split at p
      · rename_i ns hn
        split at p
        · rename_i hz
          obtain ⟨v, t, rfl, q1, rfl⟩ := q
          obtain ⟨a, us, rfl, s, t⟩ := asK_at r q1 hx
          exact ⟨a, us, ns, rfl, s, (keys_of t.pr).trans (txts_eq hn), hz, fun ys p' hp hs hn' => by rw [srt_eq hp hs]; exact post_strs r hn' p⟩
        · exact p.elim
      · exact p.elim
    · exact p.elim
  · exact p.elim
end
section
variable {X : Cx} {W : WX} {p pos : Pos} {e : Expr} {a : AF}
def bSortA := orC bSortS bSortD
theorem qsortS (hg : Gl X "sorted") (hm : X.mg "sorted" = none) (ha : QA X W [e] a) (he : starEach [e] X.env = (false, eval e X.env) :: starEach [] X.env := by rfl) (hpl : (backTo pos (starEach [] X.env)).any (·.1) = false := by rfl) :
    QE X W (.Call (.Name "sorted" p) [e] [] pos) (eCall bSortS a) := q_cb cr_sortedS rc_sortS hg hm ha (by decide +kernel) (by decide) (by decide) he hpl
theorem qsortD (hc : X.calm = true) (hg : Gl X "sorted") (hm : X.mg "sorted" = none) (ha : QA X W [e] a) (he : starEach [e] X.env = (false, eval e X.env) :: starEach [] X.env := by rfl) (hpl : (backTo pos (starEach [] X.env)).any (·.1) = false := by rfl) :
    QE X W (.Call (.Name "sorted" p) [e] [] pos) (eCall bSortD a) := q_cb (call_sortedD hc) rc_sortD hg hm ha (by decide +kernel) (by decide) (by decide) he hpl
theorem qsortA (hc : X.calm = true) (hg : Gl X "sorted") (hm : X.mg "sorted" = none) (ha : QA X W [e] a) (he : starEach [e] X.env = (false, eval e X.env) :: starEach [] X.env := by rfl) (hpl : (backTo pos (starEach [] X.env)).any (·.1) = false := by rfl) :
    QE X W (.Call (.Name "sorted" p) [e] [] pos) (eCall bSortA a) := (qsortS hg hm ha he hpl).call (qsortD hc hg hm ha he hpl)
theorem qlenA (hg : Gl X "len") (hm : X.mg "len" = none) (ha : QA X W [e] a) (he : starEach [e] X.env = (false, eval e X.env) :: starEach [] X.env := by rfl) (hpl : (backTo pos (starEach [] X.env)).any (·.1) = false := by rfl) :
    QE X W (.Call (.Name "len" p) [e] [] pos) (eCall bLenA a) := (qlen hg hm ha he hpl).call (qlenD hg hm ha he hpl)
end
/-! ### repr of None, a truth, an int -/
def bRepr0 (ds : List D) (M : Mem) : Res D := match ds with
  | [.non] => .ok (.str "None") M
  | [.bl b] => .ok (.str (if b then "True" else "False")) M
  | [.int i] => if i.natAbs.log2 < 1920 then .ok (.str (toString i)) M else .bad
  | _ => .bad
def rRepr0 : List V → Hp → VK → Prop := fun xs H Q => (xs = [.non] ∧ Q (.str "None") H) ∨ (∃ b, xs = [.bl b] ∧ Q (.str (if b then "True" else "False")) H) ∨ ∃ i, xs = [.int i] ∧ i.natAbs.log2 < 1920 ∧ Q (.str (toString i)) H
theorem call_repr0 {X : Cx} : CallR X (.builtin "repr") rRepr0 := by
  intro pins s σ H xs us Q I r h
  rcases h with ⟨rfl, q⟩ | ⟨b, rfl, q⟩ | ⟨i, rfl, hz, q⟩
  · obtain ⟨u, rfl, rfl⟩ := vals1 r
    exact PySem.P.repr_of_none ⟨.str _, H, I.tok _, ⟨_, rfl⟩, q⟩
  · obtain ⟨u, rfl, rfl⟩ := vals1 r
    exact PySem.P.repr_of_bool ⟨.str _, H, I.tok _, ⟨_, rfl⟩, q⟩
  · obtain ⟨u, rfl, t, rfl⟩ := vals1 r
    exact PySem.P.repr_of_int hz ⟨.str _, H, I.tok _, ⟨_, rfl⟩, q⟩
theorem rc_repr0 {c : Cn} : RCs c bRepr0 rRepr0 := by
  intro W σ G H M vs ds Q r q p
  unfold bRepr0 at p
  split at p
  · obtain ⟨v, t, rfl, q1, rfl⟩ := q
    cases (show v = _ from q1)
    exact .inl ⟨rfl, p G _ H (Gr.refl _) r rfl⟩
  · exact .inr (.inl ⟨_, DVs.bls (ns := [_]) q, p G _ H (Gr.refl _) r rfl⟩)
  · split at p
    · rename_i hz
      exact .inr (.inr ⟨_, DVs.ints (ns := [_]) q, hz, p G _ H (Gr.refl _) r rfl⟩)
    · exact p.elim
  · exact p.elim
theorem qrepr0 {X : Cx} {W : WX} {p pos : Pos} {e : Expr} {a : AF} (hg : Gl X "repr") (hm : X.mg "repr" = none) (ha : QA X W [e] a) (he : starEach [e] X.env = (false, eval e X.env) :: starEach [] X.env := by rfl) (hpl : (backTo pos (starEach [] X.env)).any (·.1) = false := by rfl) :
    QE X W (.Call (.Name "repr" p) [e] [] pos) (eCall bRepr0 a) := q_cb call_repr0 rc_repr0 hg hm ha (by decide +kernel) (by decide) (by decide) he hpl
/-! ### xs * n -/
def fRep (x y : D) (M : Mem) : Res D := match x with
  | .ptr k => match M[k]? with
    | some (.lst ds) => match y with
      | .int n => if -(2 ^ 63) ≤ n ∧ n < 2 ^ 63 ∧ ds.length * n.toNat ≤ sizeLine then .ok (.lst (List.replicate n.toNat ds).flatten) M else .bad
      | _ => .bad
    | _ => .bad
  | _ => .bad
/-! ### lists of other lengths -/
def rLen (K : PySem.W.Frag) (v : Bool) : R2 := fun x y H Q => ∃ l b xs ys, x = .ref l ∧ y = .ref b ∧ SqL K H l xs ∧ SqL K H b ys ∧ xs.length ≠ ys.length ∧ Q (.bl v) H
theorem op_eqLen {X : Cx} (hu : X.A.units + 64 < cLine) : OpR X (compareOp .Eq) (rLen X.K false) := by
  intro pins s σ H x y v u Q I rx ry h
  obtain ⟨l, b, xs, ys, rfl, rfl, h1, h2, hz, q⟩ := h
  cases rx
  cases ry
  obtain ⟨its, r1, p1, z1⟩ := I.list h1
  obtain ⟨jts, r2, p2, z2⟩ := I.list h2
  have l1 := r1.length
  have l2 := r2.length
  obtain ⟨⟨c1, d1, a1, s1⟩, o1, e1, n1, f1⟩ := p1.isList
  obtain ⟨⟨c2, d2, a2, s2⟩, o2, e2, n2, f2⟩ := p2.isList
  simp only at e1 f1 e2 f2
  subst e1 f1 e2 f2
  have hne : (its.toArray.size != jts.toArray.size) = true := by
    rw [bne_iff_ne, List.size_toArray, List.size_toArray]
    omega
  exact wpAny_richCompare_same_room (op := .Eq) ⟨_, o1, rfl⟩ ⟨_, o2, rfl⟩ PySem.F.slot_list_eq (call_meets PySem.F.slot_list_eq ⟨_, o1, rfl⟩ PySem.F.entry_list_eq (PySem.F.args_list_eq_2 _ _) (SeqAt.list_eq_lengthsAt l b its.toArray jts.toArray n1 n2 _ _ _ _ hne)
    ⟨o1, o2, show Value.bool false ≠ Value.notImplemented ∧ EP X pins σ Q (.bool false) s from ⟨(fun x => nomatch x), .bl false, H, I, rfl, q⟩⟩) (by omega)
def fEqLen (x y : D) (M : Mem) : Res D := match asL M x, asL M y with
  | some xs, some ys => if xs.length ≠ ys.length then .ok (.bl false) M else .bad
  | _, _ => .bad
theorem r2_eqLen {c : Cn} : R2s c fEqLen (rLen c.K false) := by
  intro W σ G H M x y dx dy Q r qx qy p
  unfold fEqLen at p
  split at p
  · rename_i xs ys hx hy
    split at p
    · rename_i hz
      obtain ⟨a, us, rfl, s1, t1⟩ := asL_at r qx hx
      obtain ⟨b, ws, rfl, s2, t2⟩ := asL_at r qy hy
      exact ⟨a, b, us, ws, rfl, rfl, s1, s2, by rw [t1.length, t2.length]; exact hz, p G _ H (Gr.refl _) r rfl⟩
    · exact p.elim
  · exact p.elim
def fEqA := or2 fEq fEqLen
section
variable {X : Cx} {W : WX} {pos : Pos} {a b : Expr} {fa fb : EF}
theorem qeqA (hu : X.A.units + 64 < cLine) (ha : QE X W a fa) (hb : QE X W b fb) : QE X W (.Compare a [.Eq] [b] pos) (e2 fEqA fa fb) := (qeq hu ha hb).e2 (q_cmp (op_eqLen hu) r2_eqLen (nomark _) ha hb)
theorem tEqA (hu : X.A.units + 64 < cLine) (ha : QE X W a fa) (hb : QE X W b fb) : QT X W (.Compare a [.Eq] [b] pos) (bV (e2 fEqA fa fb)) := (tEq hu ha hb).e2 (qt_cmp (op_eqLen hu) r2_eqLen (nomark _) ha hb)
end
end QL
end
section
set_option Elab.async false
set_option linter.all false
set_option maxRecDepth 100000
set_option maxHeartbeats 4000000
set_option autoImplicit false
/-! QIs: is None, is not None. -/
namespace QL
open PySem PySem.Spec L2
open Classical
theorem un1 {n : Nat} (h : n + 64 < cLine) : n + 1 < cLine := by omega
def isNo (x : D) : Option Bool := match x with
  | .non => some true
  | .raw _ => none
  | _ => some false
def fIs0 (x y : D) (M : Mem) : Res D := match y with
  | .non => match isNo x with
    | some b => .ok (.bl b) M
    | none => .bad
  | _ => .bad
def fNot0 (x y : D) (M : Mem) : Res D := match y with
  | .non => match isNo x with
    | some b => .ok (.bl (!b)) M
    | none => .bad
  | _ => .bad
theorem isNo_at {c : Cn} {G : Gd} {d : D} {v : V} {b : Bool} (h : isNo d = some b) (q : DV c G d v) : decide (v = .non) = b := by
  by_cases e : d = .non
  · subst e
    cases (show v = _ from q)
    cases h
    rfl
  · by_cases r : ∃ u, d = .raw u
    · obtain ⟨u, rfl⟩ := r
      cases h
    · have n := DV.notNon e (fun u z => r ⟨u, z⟩) q
      have hb : b = false := by
        cases d <;> first | (cases h; rfl) | (exact absurd rfl e) | (exact absurd ⟨_, rfl⟩ r)
      rw [hb]
      exact decide_eq_false n
theorem r2_not0 {c : Cn} : R2s c fNot0 (fun x y H Q => y = .non ∧ Q (.bl (!decide (x = .non))) H) := by
  intro W σ G H M x y dx dy Q r qx qy p
  unfold fNot0 at p
  split at p
  · split at p
    · rename_i b hb
      cases (show y = _ from qy)
      exact ⟨rfl, by rw [isNo_at hb qx]; exact p G _ H (Gr.refl _) r rfl⟩
    · exact p.elim
  · exact p.elim
section
variable {X : Cx} {W : WX} {pos : Pos} {a b : Expr} {fa fb : EF}
theorem qisnot (ha : QE X W a fa) (hb : QE X W b fb) : QE X W (.Compare a [.IsNot] [b] pos) (e2 fNot0 fa fb) := q_cmp op_notN r2_not0 (nomark _) ha hb
end
end QL
end
section
set_option Elab.async false
set_option linter.all false
set_option maxRecDepth 100000
set_option maxHeartbeats 4000000
/-! QExcIs: isinstance of a caught error that has a dict. -/
namespace PySem.W
open PySem PySem.Spec PySem.Calls PyProof.Rows
section
variable {prog : Program} {w : World} {B : Around} {E : Value → Shared → Prop} {s : Shared} {K : Frag} {z D : Addr} {oz : Obj} {od : Option Obj}
/-- what the written part says of the class of a caught error -/
structure EcD (K : Frag) (D : Addr) : Prop where
  ga : findIn K (.ref D) "__getattribute__" = some (some (.builtin "BaseException.__getattribute__"))
  gt : findIn K (.ref D) "__getattr__" = some none
  sb : subIn K (.ref D) (.type "BaseException") = some true
  dc : hasDictIn K D = true
  cl : findIn K (.ref D) "__class__" = some (some (.builtin "object.__class__"))
  cg : specialIn K (.builtin "object.__class__") "__get__" = some (some (.builtin "getset_descriptor.__get__"))
  tk : takesIn K (.builtin "object.__class__") = some true
  mr : mroIn K D (.type "object") = some true
/-- the class's own object -/
theorem EcD.lies (c : EcD K D) : ∃ (o : Obj) (cd : _), K.lookup D = some o ∧ o.data = .cls cd := by
  obtain ⟨cd, found, _⟩ := any_some c.dc
  unfold clsIn at found
  split at found
  · exact ⟨_, _, by assumption, rfl⟩
  · cases found
end
end PySem.W
namespace QL
open PySem PySem.Spec L2
def rIsD (K : PySem.W.Frag) (D a dd : Addr) : List V → Hp → VK → Prop := fun xs H Q => ∃ (c : V) (cv : Value) (b : Bool) (fs : List (Str × V)), xs = [.ref a, c] ∧ H dd = some (.xd fs) ∧ (∀ u, RelV c u → u = cv) ∧ PySem.W.kitOne K (.ref D) cv = some b ∧ Q (.bl b) H
/-- isinstance(e, (C1, C2, ..)) -/
def rIsDT (K : PySem.W.Frag) (D a dd : Addr) : List V → Hp → VK → Prop := fun xs H Q => ∃ (tp : Addr) (cs : List V) (us : List Value) (b : Bool) (fs : List (Str × V)), xs = [.ref a, .ref tp] ∧ H tp = some (.tup cs) ∧ Paired ClsV cs us ∧ H dd = some (.xd fs) ∧ PySem.W.kitAny K (.ref D) us = some b ∧ Q (.bl b) H
end QL
end
section
set_option Elab.async false
set_option linter.all false
set_option maxRecDepth 100000
set_option maxHeartbeats 4000000
set_option autoImplicit false
/-! QExc: own errors raised and caught. -/
namespace QL
open PySem PySem.Spec L2
open PyProof.Rows (envOfC)
open Classical
/-! ### an own error's __init__: its fields are stored -/
/-- the fields of an error, the last stored first -/
def fls {α : Type} (fl : List Str) (ys : List α) : List (Str × α) := (fl.zip ys).reverse
/-- the promise of such an __init__ -/
def spI (K : PySem.W.Frag) (fl : List Str) : Sp := fun vs H Q E => ∃ (a C : Addr) (ys : List V), vs = .ref a :: ys ∧ ys.length = fl.length ∧ OexC K C ∧ (∀ f ∈ fl, PySem.W.findIn K (.ref C) f = some none) ∧ H a = some (exo a C none) ∧
  ∀ dx, H dx = none → dx ≠ a → Q .non (upd (upd H dx (exd dx (fls fl ys))) a (exo a C (some dx)))
/-- what the written part says of an own error class with such an __init__ -/
structure ErC (P : Program) (w : World) (K : PySem.W.Frag) (mg : Str → Option Value) (base : Heap) (n : Str) (fl : List Str) : Prop where
  ex : ∃ C fI fd ps, mg n = some (.ref C) ∧ OexC K C ∧ PySem.W.EcD K C ∧ PySem.W.findIn K (.ref C) "__init__" = some (some (.ref fI)) ∧ PySem.W.typeIn K (.ref fI) = some (.type "function") ∧
    (∀ f ∈ fl, PySem.W.findIn K (.ref C) f = some none) ∧ Binds K fd ps [] ∧ FnOk P w K mg base (L2.CX P w) 1 fI fd ps (spI K fl)
section
variable {P : Program} {w : World} {K : PySem.W.Frag} {mg : Str → Option Value} {base : Heap}
end
/-! ### raise C(..) -/
def kRz (n : Str) (fl : List Str) (a : AF) : TF := fun S M => (a S M).thn S fun ds M1 => if ds.length = fl.length ∧ ds.length ≤ 1000 then .rz ⟨n, fls fl ds⟩ S M1 else .bad
section
variable {X : Cx} {W : WX} {n : Str} {fl : List Str} {e : Expr} {es : List Expr} {a : AF} {p pos pos' : Pos}
end
/-! ### try: .. except C as e: .. -/
def SR.off (i : Nat) : SR → SR
  | .nx S M => .nx (S.set i none) M
  | .bk S M => .bk (S.set i none) M
  | .ct S M => .ct (S.set i none) M
  | .rt d M => .rt d M
  | _ => .bad
/-- the answer that does not hang on where the error lies -/
noncomputable def pick (f : Addr → Addr → SR) : SR := if ∀ a b, f a b = f 0 0 then f 0 0 else .bad
noncomputable def kTry (cl : List Str) (i : Nat) (tb : TF) (su : Addr → Addr → Ex → TF) : TF := fun S M => match tb S M with
  | .rz x S2 M2 => if x.c ∈ cl ∧ x.fs ≠ [] then pick fun a dd => (su a dd x (S2.set i (some (.exc a dd x.c x.fs))) M2).off i else .bad
  | r => r
theorem SlR.offs {c : Cn} {G : Gd} {S : Sl} {σ : St} (h : SlR c G S σ) (i : Nat) : SlR c G (S.set i none) (σ.set i none) := by
  refine ⟨by rw [List.length_set, List.length_set]; exact h.1, fun j d e => ?_⟩
  by_cases z : i = j
  · subst z
    have hl : i < S.length := by
      have := (List.getElem?_eq_some_iff.mp e).1
      rwa [List.length_set] at this
    rw [List.getElem?_set_self hl] at e
    cases Option.some.inj e
  · rw [List.getElem?_set_ne z] at e
    rw [List.getElem?_set_ne z]
    exact h.2 j d e
section
variable {X : Cx} {W : WX} {cx n : Str} {c : Value} {i : Nat} {body suite : List Stmt} {b0 : Stmt} {np pos pos' : Pos} {tb : TF} {su : Addr → Addr → Ex → TF} {cl : List Str}
end
/-! ### in the suite: isinstance(e, C), isinstance(e, (C, D)), e.f -/
def eIsX (a dd : Addr) (b : Bool) (e : EF) : EF := fun S M => (e S M).bind fun d M1 => match d with
  | .exc a' dd' _ _ => if a' = a ∧ dd' = dd then .ok (.bl b) M1 else .bad
  | _ => .bad
def eXF (a dd : Addr) (f : Str) (e : EF) : EF := fun S M => (e S M).bind fun d M1 => match d with
  | .exc a' dd' _ fs => if a' = a ∧ dd' = dd then match fs.lookup f with
      | some y => .ok y M1
      | none => .bad
    else .bad
  | _ => .bad
section
variable {X : Cx} {W : WX} {a dd C Ct : Addr} {oe : Obj} {pn : List (Addr × Obj)} {e : Expr} {fe : EF} {p p2 pos : Pos} {t f : Str} {b : Bool}
end
end QL
end
section
set_option Elab.async false
set_option linter.all false
set_option maxRecDepth 100000
set_option maxHeartbeats 4000000
set_option autoImplicit false
/-! QPur: isinstance of built-in types, walks over dicts and texts, dict(pairs), xs.pop(i). -/
namespace QL
open PySem PySem.Spec L2
open Classical
/-! ### isinstance(x, T) -/
def eIsT (t : String) (e : EF) : EF := fun S M => (e S M).bind fun d M1 => match tyName M1 d with
  | some n => .ok (.bl (isTy n t)) M1
  | none => .bad
section
variable {X : Cx} {W : WX} {e : Expr} {fe : EF} {p p2 pos : Pos} {t : Str} {T : String}
theorem qisT (hT : T ∈ ["bool", "int", "str", "tuple", "list", "dict"]) (hg : Gl X "isinstance") (hm : X.mg "isinstance" = none) (he : QE X W e fe) (gt : Gl X t) (mt : X.mg t = none) (hv : bootBuiltins t = some (.type T)) (hn : t ≠ "__name__" := by decide) (hdt : (t == ("__debug__" : Str)) = false := by decide)
    (h1 : starEach [e, .Name t p2] X.env = (false, eval e X.env) :: starEach [.Name t p2] X.env := by rfl) (h2 : starEach [.Name t p2] X.env = (false, eval (.Name t p2) X.env) :: starEach [] X.env := by rfl) (hp : (backTo pos (starEach [.Name t p2] X.env)).any (·.1) = false := by rfl) :
    QE X W (.Call (.Name "isinstance" p) [e, .Name t p2] [] pos) (eIsT T fe) :=
  PE.imp (pe_callB call_isi hg hm (by decide +kernel) (pa_cons he (pa_cons (pe_bltn (v := .ty T) gt mt hv rfl hn hdt) pa_nil h2) h1) (by decide) (by decide) h1 hp) fun σ H Q h => by
    refine Up.imp (Up.bind h) fun v H1 ⟨G, S, d, M, r, s, q, p⟩ => ?_
    split at p
    · rename_i n hn
      exact ⟨v, .ty T, .type n, .type T, isTy n T, rfl, .ty T, tyName_at r q hn, kit_ty (kit_all n (tyName_in hn) T hT), p G _ H1 (Gr.refl _) r rfl⟩
    · exact p.elim
end
/-! ### walks -/
theorem PI.or {X : Cx} {tg e : Expr} {t t' : TI} (h : PI X tg e t) (h' : PI X tg e t') : PI X tg e (fun σ H R => t σ H R ∨ t' σ H R) := ⟨fun pins s σ H R I z => z.elim (h.run pins s σ H R I) (h'.run pins s σ H R I)⟩
def kD : Key → D
  | .inl i => .int i
  | .inr x => .str x
theorem kD_V {c : Cn} {G : Gd} (k : Key) : DV c G (kD k) (kV k) := by cases k <;> rfl
/-- for x in d, d a dict that will not change -/
def iKeysF (e : EF) : IF := fun S M => (e S M).bind fun d M1 => match d with
  | .dK kvs => .ok ⟨kvs.map fun kv => kD kv.1, none⟩ M1
  | _ => .bad
/-- .. in d.items() -/
def iItemsF (e : EF) : IF := fun S M => (e S M).bind fun d M1 => match d with
  | .dK kvs => .ok ⟨kvs.map fun kv => .tup [kD kv.1, kv.2], none⟩ M1
  | _ => .bad
theorem fz_at {F H : Hp} (z : Fz F H) {a : Addr} {o : Obj} {u : HO} (h : F a = some (.frz o u)) : H a = some (.frz o u) := by
  rcases z _ _ h with y | ⟨y, _⟩
  · exact y
  · cases y
section
variable {X : Cx} {W : WX} {tg l : Expr} {f : EF} {apos cpos : Pos}
theorem kr_at {c : Cn} {G : Gd} : ∀ {kvs : List (Key × D)} {ws : List (Key × V)}, Paired (KR c G) kvs ws → ∀ i : Nat, (h : i < kvs.length) → ∃ w, ws[i]? = some (kvs[i].1, w) ∧ DV c G kvs[i].2 w
  | _, _, .cons r t, 0, _ => ⟨_, by rw [List.getElem?_cons_zero, List.getElem_cons_zero, ← r.1], r.2⟩
  | _ :: kvs, _, .cons r t, i + 1, h => by
    obtain ⟨w, e, q⟩ := kr_at t i (by rw [List.length_cons] at h; omega)
    exact ⟨w, e, q⟩
theorem qi_items {elts : List Expr} {kk : Nat} {tpos : Pos} (h : QE X W l f) (hbase : attributeBase l "items" X.env (eval l X.env) = eval l X.env := by rfl) (hline : (apos.endLine == cpos.line) = true := by rfl) :
    QI X W (.Tuple elts kk tpos) (.Call (.Attribute l "items" apos) [] [] cpos) (iItemsF f) := PI.imp (pi_items h hbase hline) fun σ H R h => by
  refine Up.imp (UpI.bind h) fun v H1 ⟨G, S, d, M, r, s, q, p⟩ => ?_
  split at p
  · rename_i kvs
    obtain ⟨a, ws, o, rfl, fz, t⟩ := q
    have lw := kr_len t.pr
    refine ⟨a, o, ws, rfl, fz_at r.fz fz, p G _ H1 (Gr.refl _) r fun G' H' M' g r' _ => ?_⟩
    have hl : (kvs.map fun kv => D.tup [kD kv.1, kv.2]).length = kvs.length := List.length_map _
    have hd := fz_at r'.fz (g.F _ _ fz)
    refine ⟨fun i hi => ?_, fun i hi => ⟨hd, by rw [hl] at hi; show ws.length ≤ i; omega⟩⟩
    rw [hl] at hi
    refine ⟨⟨hd, by omega⟩, fun x H2 y => ?_⟩
    obtain ⟨T, k, w, e, rfl, hT, rfl⟩ := y
    obtain ⟨w', e', qw⟩ := kr_at (t.mono0 g).pr i hi
    rw [e'] at e
    cases e
    have gn : Gr G' { G' with F := upd G'.F T (.tup [kV kvs[i].1, w]) } := Gr.newF (r'.fz.free hT)
    refine ⟨_, .tup [kD kvs[i].1, kvs[i].2], ?_, gn, r'.newF hT, ⟨T, _, rfl, upd_same, DVs.cons (kD_V _) (DVs.one (qw.mono gn))⟩⟩
    rw [List.getElem?_map, List.getElem?_eq_getElem hi]
    rfl
  · exact p.elim
end
/-! ### dict(pairs) -/
def pairsOf : List D → Option (List (Key × D))
  | [] => some []
  | .tup [k, v] :: r => match keyOf k, pairsOf r with
    | some key, some t => some ((key, v) :: t)
    | _, _ => none
  | _ => none
def mergeKD (kvs more : List (Key × D)) : List (Key × D) := more.foldl (fun acc kv => putKD acc kv.1 kv.2) kvs
def bDictP (ds : List D) (M : Mem) : Res D := match ds with
  | [d] => match asL M d with
    | some xs => match pairsOf xs with
      | some kvs => .ok (.ptr M.length) (M ++ [.dK (mergeKD [] kvs)])
      | none => .bad
    | none => .bad
  | _ => .bad
section
variable {X : Cx} {W : WX} {e : Expr} {a : AF} {p pos : Pos}
end
/-! ### xs.pop(i) -/
def ePopI (o v : EF) : EF := fun S M => (o S M).bind fun d M1 => match asL M1 d with
  | some _ => (v S M1).bind fun y M2 => match d with
    | .ptr k => match M2[k]? with
      | some (.lst ds) => match y with
        | .int i => match L2.ixN ds.length i with
          | some j => match ds[j]? with
            | some w => if ds.length ≤ sizeLine then .ok w (M2.set k (.lst (ds.eraseIdx j))) else .bad
            | none => .bad
          | none => .bad
        | _ => .bad
      | _ => .bad
    | _ => .bad
  | none => .bad
theorem DVs.eraseIdx {c : Cn} {G : Gd} : ∀ {ds : List D} {vs : List V} (h : DVs c G ds vs) (j : Nat), DVs c G (ds.eraseIdx j) (vs.eraseIdx j)
  | [], _, h, j => by
    cases (show _ = [] from h)
    exact rfl
  | d :: r, _, h, 0 => by
    obtain ⟨v, t, rfl, q, h⟩ := h
    exact h
  | d :: r, _, h, j + 1 => by
    obtain ⟨v, t, rfl, q, h⟩ := h
    exact ⟨v, _, rfl, q, DVs.eraseIdx h j⟩
section
variable {X : Cx} {W : WX} {o e : Expr} {fo fe : EF} {apos pos : Pos}
theorem qpopI (ho : QE X W o fo) (he : QE X W e fe)
    (hbase : attributeBase o "pop" X.env (eval o X.env) = eval o X.env := by rfl)
    (hfew : ((backTo pos (starEach [e] X.env)).all (fun x => !x.1) && (backToKw pos (keywordEach [] X.env)).all (fun x => x.1.isSome)
      && decide ([e].length + ([] : List Keyword).length + (if ([] : List Keyword).isEmpty then 0 else 1) < 30)) = true := by rfl)
    (hline : (apos.endLine == pos.line) = true := by rfl) (hs : starEach [e] X.env = (false, eval e X.env) :: starEach [] X.env := by rfl) (hplain : (backTo pos (starEach [] X.env)).any (·.1) = false := by rfl) :
    QE X W (.Call (.Attribute o "pop" apos) [e] [] pos) (ePopI fo fe) := PE.imp (pe_bm PySem.F.plainAttrs_list PySem.F.slot_list_pop PySem.F.type_list_pop mt_popAt ho (pa_cons he pa_nil hs) hbase hfew hline hs hplain) fun σ H Q h => by
  refine Up.imp (Up.bind h) fun x H1 ⟨G, S, d, M, r, s, q, p⟩ => ?_
  split at p
  · rename_i ds0 hds
    obtain ⟨a, vs, rfl, sq, t⟩ := asL_at r q hds
    refine ⟨.inl ⟨rfl, vs, sq⟩, G, S, M, r, s, (Post.bind (rel := DV (cn X)) p).imp fun y H2 ⟨G2, dy, M2, g2, r2, q2, p2⟩ => ?_⟩
    obtain ⟨k, rfl⟩ : ∃ k, d = .ptr k := by cases d <;> first | exact ⟨_, rfl⟩ | exact p2.elim
    simp only at p2
    split at p2
    · rename_i ds ek
      split at p2
      · rename_i i
        split at p2
        · rename_i j hj
          split at p2
          · rename_i w hw
            split at p2
            · rename_i hz
              obtain ⟨a2, e1, e2⟩ := q.mono g2
              cases e2
              obtain ⟨us, hu, q3⟩ := r2.mem k _ a ek e1
              obtain ⟨v, ev, qv⟩ := q3.get hw
              obtain ⟨s1, _, b1, b2⟩ := ixN_seq hj
              have z : (sizeLine : Int) < 2 ^ 63 := by decide
              exact ⟨a, us, i, j, v, rfl, by rw [show y = V.int i from q2], hu, by omega, by omega, by rw [q3.length]; exact s1, ev, p2 G2 _ _ (Gr.refl _) (r2.write ek e1 rfl ⟨_, upd_same, q3.eraseIdx j⟩) qv⟩
            · exact p2.elim
          · exact p2.elim
        · exact p2.elim
      · exact p2.elim
    · exact p2.elim
  · exact p.elim
end
end QL
end
section
set_option Elab.async false
set_option linter.all false
set_option maxRecDepth 100000
set_option maxHeartbeats 4000000
set_option autoImplicit false
/-! QSet: sets of texts: made of a list, put in order. -/
namespace QL
open PySem PySem.Spec L2
open Classical
open PySem.Froz (SD sObj TxOk addTx tailTx)
/-- the different ones, each where it first stands -/
def addNew (acc : List Str) (x : Str) : List Str := if x ∈ acc then acc else x :: acc
def dedup (l : List Str) : List Str := l.foldl addNew []
/-! ### the object -/
structure TxS (P : Program) (w : World) (h : Heap) (a : Addr) (D : SD) (l : List Str) : Prop where
  ob : h.get? a = some (sObj "set" D)
  tx : TxOk P w D l
  nd : l.Nodup
  ri : Ris D.2.2.place.toList
  ld : w.params.followText "set-order" = true ∨ D.2.2.led = true
section
variable {P : Program} {w : World} {A : Around} {E : Value → Shared → Prop} {s : Shared} {a : Addr} {D : SD} {l : List Str}
theorem TxS.at {h h' : Heap} (R : TxS P w h a D l) (k : ∀ o, h.get? a = some o → h'.get? a = some o) : TxS P w h' a D l := ⟨k _ R.ob, R.tx, R.nd, R.ri, R.ld⟩
end
end QL
end
section
set_option Elab.async false
set_option linter.all false
set_option maxRecDepth 100000
set_option maxHeartbeats 4000000
set_option autoImplicit false
/-! QSet2: sorted(set(xs)). -/
namespace QL
open PySem PySem.Spec L2
open Classical
open PyProof.Rows (seqObj StrsAre strKind_oneLt keyKind_strs sorted_out_str sortedHeap_at sortedHeap_old arrOf list_sort_treeK)
open PySem.Froz (SD sObj TxOk)
def SetT (P : Program) (w : World) (a : Addr) (l : List Str) : HO := .ext fun h => ∃ D, TxS P w h a D l
section
variable {X : Cx}
end
/-- sorted(set(xs)), xs a list of texts, fewer than 64 different ones -/
noncomputable def ssR (r : Res D) : Res D := r.bind fun d M1 => match asL M1 d with
  | some xs => match strsOf xs with
    | some ns => if ns.length + 1 < scanBound ∧ (dedup ns).length < 64 then .ok (.lst ((srt (dedup ns)).map D.str)) M1 else .bad
    | none => .bad
  | none => .bad
noncomputable def eSortSet (e : EF) : EF := fun S M => ssR (e S M)
end QL
end
section
set_option Elab.async false
set_option linter.all false
set_option maxRecDepth 100000
set_option maxHeartbeats 4000000
set_option autoImplicit false
/-! QEv: what the plain functions come to, step by step, without a look under what is not yet reached. -/
namespace QL
open PySem PySem.Spec L2
open Classical
section
variable {f : D → D → Mem → Res D} {a b e o v i' fo fi : EF} {S : Sl} {M : Mem} {d x y z : D} {X : Ex} {t u : TF} {p q : BF} {g : GF} {ar : AF} {F : List D → Mem → Res D} {ds : List D} {n : Nat}
/-- slots -/
def vR (o : Option (Option D)) (M : Mem) : Res D := match o with
  | some (some d) => .ok d M
  | _ => .bad
@[simp] theorem vR_some : vR (some (some d)) M = .ok d M := (rfl)
@[simp] theorem eVar_ap {i : Nat} : eVar i S M = vR (S[i]?) M := (rfl)
@[simp] theorem eC_ap : eC d S M = .ok d M := (rfl)
/-- two operands -/
def s2 (f : D → D → Mem → Res D) (b : EF) (S : Sl) (r : Res D) : Res D := r.bind fun x M1 => (b S M1).bind fun y M2 => f x y M2
def s3 (f : D → D → Mem → Res D) (x : D) (r : Res D) : Res D := r.bind fun y M2 => f x y M2
@[simp] theorem e2_ap : e2 f a b S M = s2 f b S (a S M) := (rfl)
@[simp] theorem s2_ok : s2 f b S (.ok x M) = s3 f x (b S M) := (rfl)
@[simp] theorem s3_ok : s3 f x (.ok y M) = f x y M := (rfl)
/-- lists of arguments -/
def c1 (r : AF) (S : Sl) (k : Res D) : Res (List D) := k.bind fun d M1 => (r S M1).bind fun ds M2 => .ok (d :: ds) M2
def c2 (d : D) (k : Res (List D)) : Res (List D) := k.bind fun ds M2 => .ok (d :: ds) M2
@[simp] theorem aNil_ap : aNil S M = .ok [] M := (rfl)
@[simp] theorem aCons_ap : aCons a ar S M = c1 ar S (a S M) := (rfl)
@[simp] theorem c1_ok : c1 ar S (.ok d M) = c2 d (ar S M) := (rfl)
@[simp] theorem c2_ok : c2 d (.ok ds M) = .ok (d :: ds) M := (rfl)
def cR (F : List D → Mem → Res D) (k : Res (List D)) : Res D := k.bind fun ds M1 => F ds M1
@[simp] theorem eCall_ap : eCall F ar S M = cR F (ar S M) := (rfl)
@[simp] theorem cR_ok : cR F (.ok ds M) = F ds M := (rfl)
def tpR (k : Res (List D)) : Res D := k.bind fun ds M1 => if ds.length ≤ sizeLine then .ok (.tup ds) M1 else .bad
@[simp] theorem eTup_ap : eTup ar S M = tpR (ar S M) := (rfl)
theorem tpR_ok (h : ds.length ≤ sizeLine) : tpR (.ok ds M) = .ok (.tup ds) M := if_pos h
def lsR (k : Res (List D)) : Res D := k.bind fun ds M1 => if ds.length ≤ sizeLine then .ok (.lst ds) M1 else .bad
@[simp] theorem eLst_ap : eLst ar S M = lsR (ar S M) := (rfl)
theorem lsR_ok (h : ds.length ≤ sizeLine) : lsR (.ok ds M) = .ok (.lst ds) M := if_pos h
def lpR (k : Res (List D)) : Res D := k.bind fun ds M1 => if ds.length ≤ sizeLine then .ok (.ptr M1.length) (M1 ++ [.lst ds]) else .bad
@[simp] theorem eLstP_ap : eLstP ar S M = lpR (ar S M) := (rfl)
theorem lpR_ok (h : ds.length ≤ sizeLine) : lpR (.ok ds M) = .ok (.ptr M.length) (M ++ [.lst ds]) := if_pos h
theorem small {k : Nat} (h : k ≤ 64) : k ≤ sizeLine := by rw [sizeLine_eq]; omega
@[simp] theorem tpR_0 : tpR (.ok [] M) = .ok (.tup []) M := tpR_ok (small (by decide))
@[simp] theorem tpR_2 {d1 d2 : D} : tpR (.ok [d1, d2] M) = .ok (.tup [d1, d2]) M := tpR_ok (small (by show 2 ≤ 64; decide))
@[simp] theorem tpR_3 {d1 d2 d3 : D} : tpR (.ok [d1, d2, d3] M) = .ok (.tup [d1, d2, d3]) M := tpR_ok (small (by show 3 ≤ 64; decide))
@[simp] theorem lsR_0 : lsR (.ok [] M) = .ok (.lst []) M := lsR_ok (small (by decide))
@[simp] theorem lsR_1 {d1 : D} : lsR (.ok [d1] M) = .ok (.lst [d1]) M := lsR_ok (small (by show 1 ≤ 64; decide))
@[simp] theorem lsR_2 {d1 d2 : D} : lsR (.ok [d1, d2] M) = .ok (.lst [d1, d2]) M := lsR_ok (small (by show 2 ≤ 64; decide))
@[simp] theorem lsR_3 {d1 d2 d3 : D} : lsR (.ok [d1, d2, d3] M) = .ok (.lst [d1, d2, d3]) M := lsR_ok (small (by show 3 ≤ 64; decide))
@[simp] theorem lsR_4 {d1 d2 d3 d4 : D} : lsR (.ok [d1, d2, d3, d4] M) = .ok (.lst [d1, d2, d3, d4]) M := lsR_ok (small (by show 4 ≤ 64; decide))
@[simp] theorem lsR_5 {d1 d2 d3 d4 d5 : D} : lsR (.ok [d1, d2, d3, d4, d5] M) = .ok (.lst [d1, d2, d3, d4, d5]) M := lsR_ok (small (by show 5 ≤ 64; decide))
@[simp] theorem lpR_0 : lpR (.ok [] M) = .ok (.ptr M.length) (M ++ [.lst []]) := lpR_ok (small (by decide))
@[simp] theorem lpR_1 {d1 : D} : lpR (.ok [d1] M) = .ok (.ptr M.length) (M ++ [.lst [d1]]) := lpR_ok (small (by show 1 ≤ 64; decide))
@[simp] theorem lpR_6 {d1 d2 d3 d4 d5 d6 : D} : lpR (.ok [d1, d2, d3, d4, d5, d6] M) = .ok (.ptr M.length) (M ++ [.lst [d1, d2, d3, d4, d5, d6]]) := lpR_ok (small (by show 6 ≤ 64; decide))
/-- tests -/
def bR (r : Res D) : Res Bool := r.bind fun x M1 => match x with
  | .bl b => .ok b M1
  | _ => .bad
@[simp] theorem bV_ap : bV a S M = bR (a S M) := (rfl)
@[simp] theorem bR_ok {k : Bool} : bR (.ok (.bl k) M) = .ok k M := (rfl)
def nR (r : Res Bool) : Res Bool := r.bind fun x M1 => .ok (!x) M1
@[simp] theorem bNot_ap : bNot p S M = nR (p S M) := (rfl)
@[simp] theorem nR_ok {k : Bool} : nR (.ok k M) = .ok (!k) M := (rfl)
def anR (q : BF) (S : Sl) (r : Res Bool) : Res Bool := r.bind fun x M1 => if x = true then q S M1 else .ok false M1
@[simp] theorem bAnd_ap : bAnd p q S M = anR q S (p S M) := (rfl)
@[simp] theorem anR_t : anR q S (.ok true M) = q S M := (rfl)
@[simp] theorem anR_f : anR q S (.ok false M) = .ok false M := (rfl)
def orRr (q : BF) (S : Sl) (r : Res Bool) : Res Bool := r.bind fun x M1 => if x = true then .ok true M1 else q S M1
@[simp] theorem bOr_ap : bOr p q S M = orRr q S (p S M) := (rfl)
@[simp] theorem orRr_t : orRr q S (.ok true M) = .ok true M := (rfl)
@[simp] theorem orRr_f : orRr q S (.ok false M) = q S M := (rfl)
def eaR (b : EF) (S : Sl) (r : Res D) : Res D := r.bind fun x M1 => match x with
  | .bl true => b S M1
  | .bl false => .ok (.bl false) M1
  | _ => .bad
@[simp] theorem eAnd_ap : eAnd a b S M = eaR b S (a S M) := (rfl)
@[simp] theorem eaR_t : eaR b S (.ok (.bl true) M) = b S M := (rfl)
@[simp] theorem eaR_f : eaR b S (.ok (.bl false) M) = .ok (.bl false) M := (rfl)
def eoR (b : EF) (S : Sl) (r : Res D) : Res D := r.bind fun x M1 => match x with
  | .bl true => .ok (.bl true) M1
  | .bl false => b S M1
  | _ => .bad
@[simp] theorem eOr_ap : eOr a b S M = eoR b S (a S M) := (rfl)
@[simp] theorem eoR_t : eoR b S (.ok (.bl true) M) = .ok (.bl true) M := (rfl)
@[simp] theorem eoR_f : eoR b S (.ok (.bl false) M) = b S M := (rfl)
def enR (r : Res D) : Res D := r.bind fun x M1 => match x with
  | .bl b => .ok (.bl (!b)) M1
  | _ => .bad
@[simp] theorem eNot_ap : eNot a S M = enR (a S M) := (rfl)
@[simp] theorem enR_ok {k : Bool} : enR (.ok (.bl k) M) = .ok (.bl (!k)) M := (rfl)
def eiR (a b : EF) (S : Sl) (r : Res Bool) : Res D := r.bind fun x M1 => if x = true then a S M1 else b S M1
@[simp] theorem eIf_ap : eIf p a b S M = eiR a b S (p S M) := (rfl)
@[simp] theorem eiR_t : eiR a b S (.ok true M) = a S M := (rfl)
@[simp] theorem eiR_f : eiR a b S (.ok false M) = b S M := (rfl)
/-- statements -/
@[simp] theorem kNil_ap : kNil S M = .nx S M := (rfl)
@[simp] theorem kSeq_ap : kSeq t u S M = (t S M).thn u := (rfl)
@[simp] theorem thn_nx : (SR.nx S M).thn u = u S M := (rfl)
@[simp] theorem thn_rt : (SR.rt d M).thn u = .rt d M := (rfl)
@[simp] theorem thn_bk : (SR.bk S M).thn u = .bk S M := (rfl)
@[simp] theorem thn_ct : (SR.ct S M).thn u = .ct S M := (rfl)
@[simp] theorem thn_rz : (SR.rz X S M).thn u = .rz X S M := (rfl)
def rtR (S : Sl) (r : Res D) : SR := r.thn S fun d M1 => .rt d M1
@[simp] theorem kRet_ap : kRet e S M = rtR S (e S M) := (rfl)
@[simp] theorem rtR_ok : rtR S (.ok d M) = .rt d M := (rfl)
@[simp] theorem kRetN_ap : kRetN S M = .rt .non M := (rfl)
def drR (S : Sl) (r : Res D) : SR := r.thn S fun _ M1 => .nx S M1
@[simp] theorem kDrop_ap : kDrop e S M = drR S (e S M) := (rfl)
@[simp] theorem drR_ok : drR S (.ok d M) = .nx S M := (rfl)
def ifR (t u : TF) (S : Sl) (r : Res Bool) : SR := r.thn S fun x M1 => if x = true then t S M1 else u S M1
@[simp] theorem kIf_ap : kIf p t u S M = ifR t u S (p S M) := (rfl)
@[simp] theorem ifR_t : ifR t u S (.ok true M) = t S M := (rfl)
@[simp] theorem ifR_f : ifR t u S (.ok false M) = u S M := (rfl)
@[simp] theorem kBreak_ap : kBreak S M = .bk S M := (rfl)
@[simp] theorem kCont_ap : kCont S M = .ct S M := (rfl)
/-- stores -/
def asR (g : GF) (S : Sl) (r : Res D) : SR := r.thn S fun d M1 => (g d S M1).thn S fun S2 M2 => .nx S2 M2
def stR (S : Sl) (r : Res Sl) : SR := r.thn S fun S2 M2 => .nx S2 M2
@[simp] theorem kAsg_ap : kAsg e g S M = asR g S (e S M) := (rfl)
@[simp] theorem asR_ok : asR g S (.ok d M) = stR S (g d S M) := (rfl)
@[simp] theorem stR_ok {S2 : Sl} : stR S (.ok S2 M) = .nx S2 M := (rfl)
@[simp] theorem gN_ap {i : Nat} : gN i d S M = .ok (S.set i (some d)) M := (rfl)
@[simp] theorem gNilF_ap : gNilF [] S M = .ok S M := (rfl)
def gcR (r : GsF) (ds : List D) (k : Res Sl) : Res Sl := k.bind fun S1 M1 => r ds S1 M1
@[simp] theorem gConsF_ap {r : GsF} : gConsF g r (d :: ds) S M = gcR r ds (g d S M) := (rfl)
@[simp] theorem gcR_ok {r : GsF} : gcR r ds (.ok S M) = r ds S M := (rfl)
@[simp] theorem gTupF_2 {r : GsF} {d1 d2 : D} : gTupF 2 r (.tup [d1, d2]) S M = r [d1, d2] S M := (rfl)
@[simp] theorem gTupF_3 {r : GsF} {d1 d2 d3 : D} : gTupF 3 r (.tup [d1, d2, d3]) S M = r [d1, d2, d3] S M := (rfl)
def prR (i j : Nat) (S : Sl) (r : Res (List D)) : SR := r.thn S fun ds M1 => match ds with
  | [d, e] => .nx ((S.set i (some d)).set j (some e)) M1
  | _ => .bad
@[simp] theorem kPar_ap {i j : Nat} : kPar i j ar S M = prR i j S (ar S M) := (rfl)
@[simp] theorem prR_ok {i j : Nat} : prR i j S (.ok [x, y] M) = .nx ((S.set i (some x)).set j (some y)) M := (rfl)
def gs1 (i : EF) (d : D) (S : Sl) (r : Res D) : Res Sl := r.bind fun x M1 => (i S M1).bind fun y M2 => match lset x y d M2 with
  | some M3 => .ok S M3
  | none => .bad
def gs2 (x d : D) (S : Sl) (r : Res D) : Res Sl := r.bind fun y M2 => match lset x y d M2 with
  | some M3 => .ok S M3
  | none => .bad
def gs3 (S : Sl) (o : Option Mem) : Res Sl := match o with
  | some M3 => .ok S M3
  | none => .bad
@[simp] theorem gSubL_ap : gSubL fo fi d S M = gs1 fi d S (fo S M) := (rfl)
@[simp] theorem gs1_ok : gs1 fi d S (.ok x M) = gs2 x d S (fi S M) := (rfl)
@[simp] theorem gs2_ok : gs2 x d S (.ok y M) = gs3 S (lset x y d M) := (rfl)
@[simp] theorem gs3_ok : gs3 S (some M) = .ok S M := (rfl)
/-- d[k] = v -/
def dp1 (o i : EF) (S : Sl) (r : Res D) : SR := r.thn S fun dv M1 => (o S M1).thn S fun d M2 => (i S M2).thn S fun y M3 => match d with
  | .ptr k => match dput k y dv M3 with
    | some M4 => .nx S M4
    | none => .bad
  | _ => .bad
end
end QL
end
section
set_option Elab.async false
set_option linter.all false
set_option maxRecDepth 100000
set_option maxHeartbeats 4000000
set_option autoImplicit false
/-! QEv2: the plain functions at plain data. -/
namespace QL
open PySem PySem.Spec L2
open Classical
section
variable {M M' : Mem} {i j : Int} {x y : Str} {a b : Bool} {d e : D} {ds es : List D} {n m : Nat} {S : Sl} {t : TF} {f : EF}
@[simp] theorem fAdd_i : fAdd (.int i) (.int j) M = .ok (.int (i + j)) M := (rfl)
@[simp] theorem fSub_i : fSub (.int i) (.int j) M = .ok (.int (i - j)) M := (rfl)
theorem fMul_i (h : CMulW i j) : fMul (.int i) (.int j) M = .ok (.int (i * j)) M := if_pos h
theorem fMod_i (h : 0 < j) : fMod (.int i) (.int j) M = .ok (.int (i % j)) M := if_pos h
theorem fDiv_i (h : CDivW i j) : fDiv (.int i) (.int j) M = .ok (.int (i / j)) M := if_pos h
@[simp] theorem fLt_i : fLt (.int i) (.int j) M = .ok (.bl (decide (i < j))) M := (rfl)
@[simp] theorem fLe_i : fLe (.int i) (.int j) M = .ok (.bl (decide (i ≤ j))) M := (rfl)
@[simp] theorem fGt_i : fGt (.int i) (.int j) M = .ok (.bl (decide (j < i))) M := (rfl)
@[simp] theorem fGe_i : fGe (.int i) (.int j) M = .ok (.bl (decide (j ≤ i))) M := (rfl)
@[simp] theorem fEqA_i : fEqA (.int i) (.int j) M = .ok (.bl (decide (i = j))) M := (rfl)
@[simp] theorem fEqA_s : fEqA (.str x) (.str y) M = .ok (.bl (decide (x = y))) M := (rfl)
@[simp] theorem fNe_i : fNe (.int i) (.int j) M = .ok (.bl (!decide (i = j))) M := (rfl)
@[simp] theorem fNe_s : fNe (.str x) (.str y) M = .ok (.bl (!decide (x = y))) M := (rfl)
@[simp] theorem fNe_b : fNe (.bl a) (.bl b) M = .ok (.bl (a ^^ b)) M := by cases a <;> cases b <;> rfl
@[simp] theorem fIs0_n : fIs0 .non .non M = .ok (.bl true) M := (rfl)
@[simp] theorem fNot0_n : fNot0 .non .non M = .ok (.bl false) M := (rfl)
@[simp] theorem fIs0_i : fIs0 (.int i) .non M = .ok (.bl false) M := (rfl)
@[simp] theorem fNot0_i : fNot0 (.int i) .non M = .ok (.bl true) M := (rfl)
@[simp] theorem fNot0_p : fNot0 (.ptr n) .non M = .ok (.bl true) M := (rfl)
@[simp] theorem fNot0_k {kvs : List (Key × D)} : fNot0 (.dK kvs) .non M = .ok (.bl true) M := (rfl)
@[simp] theorem fAdd_l : fAdd (.lst ds) (.lst es) M = if ds.length + es.length ≤ sizeLine then .ok (.lst (ds ++ es)) M else .bad := (rfl)
@[simp] theorem fAdd_s : fAdd (.str x) (.str y) M = if x.length + y.length ≤ sizeLine then .ok (.str (x ++ y)) M else .bad := (rfl)
@[simp] theorem bLenA_l : bLenA [.lst ds] M = .ok (.int ds.length) M := (rfl)
@[simp] theorem bMax2_i : bMax2 [.int i, .int j] M = .ok (.int (max i j)) M := by
  show Res.ok (D.int (if j > i then j else i)) M = _
  congr 2
  rcases Int.lt_or_le i j with h | h
  · rw [if_pos h]; omega
  · rw [if_neg (by omega)]; omega
@[simp] theorem bMin2_i : bMin2 [.int i, .int j] M = .ok (.int (min i j)) M := by
  show Res.ok (D.int (if j < i then j else i)) M = _
  congr 2
  rcases Int.lt_or_le j i with h | h
  · rw [if_pos h]; omega
  · rw [if_neg (by omega)]; omega
@[simp] theorem bInt_b : bInt [.bl a] M = .ok (.int (if a then 1 else 0)) M := (rfl)
@[simp] theorem bInt_i : bInt [.int i] M = .ok (.int i) M := (rfl)
theorem fIxA_l (h : ds[n]? = some d) : fIxA (.lst ds) (.int (n : Nat)) M = .ok d M := by
  have hl := (List.getElem?_eq_some_iff.mp h).1
  have e : L2.atI ds (n : Int) = some d := by
    unfold L2.atI ixN
    rw [if_pos (Int.natCast_nonneg n), if_pos (by exact_mod_cast hl)]
    simpa using h
  simp [fIxA, or2, orR, fDIx, look, asK, asTt, fIx, asL, e]
theorem settle_ok {d : D} (h : M'.length ≤ n) : settle n (.ok d M') = .ok d M' := if_pos h
/-- a def at its end -/
def fnR (n : Nat) (r : SR) : Res D := settle n r.fin
theorem runF_ap (h : ds.length = n) : runF n m t ds M = fnR M.length (t (ds.map some ++ List.replicate m none) M) := if_pos h
@[simp] theorem fnR_rt : fnR n (.rt d M) = settle n (.ok d M) := (rfl)
@[simp] theorem fnR_nx : fnR n (.nx S M) = settle n (.ok .non M) := (rfl)
/-- x op= e, o[i] op= e -/
def laR (d y : D) (n : Int) (op : Int → Int → Int) (S : Sl) (r : Res D) : SR := r.thn S fun z M3 => match z with
  | .int m => match lset d y (.int (op n m)) M3 with
    | some M4 => .nx S M4
    | none => .bad
  | _ => .bad
def laO (S : Sl) (o : Option Mem) : SR := match o with
  | some M4 => .nx S M4
  | none => .bad
@[simp] theorem laR_ok {y : D} {op : Int → Int → Int} : laR d y i op S (.ok (.int j) M) = laO S (lset d y (.int (op i j)) M) := (rfl)
@[simp] theorem laO_some : laO S (some M) = .nx S M := (rfl)
theorem kLAug_at {o k v : EF} {op : Int → Int → Int} (h1 : o S M = .ok d M) (h2 : k S M = .ok (.int j) M) (h3 : asL M d = some ds) (h4 : L2.atI ds j = some (.int i)) : kLAug o k v op S M = laR d (.int j) i op S (v S M) := by
  unfold kLAug
  rw [h1]
  simp only [Res.thn, h2, h3, h4]
  rfl
end
end QL
end
section
set_option Elab.async false
set_option linter.all false
set_option maxRecDepth 100000
set_option maxHeartbeats 4000000
set_option autoImplicit false
/-! QEv3: slices, loops and comprehensions of the plain functions. -/
namespace QL
open PySem PySem.Spec L2
open Classical
section
variable {M M' : Mem} {i j : Int} {x y : Str} {d e : D} {ds es : List D} {n m : Nat} {S S' : Sl} {t : TF} {f : EF}
def soR (r : Res D) : Res (Option Int) := r.bind fun d M1 => match d with
  | .int i => .ok (some i) M1
  | _ => .bad
@[simp] theorem oNone_ap : oNone S M = .ok none M := (rfl)
@[simp] theorem oSome_ap : oSome f S M = soR (f S M) := (rfl)
@[simp] theorem soR_ok : soR (.ok (.int i) M) = .ok (some i) M := (rfl)
def sl1 (l h : OF) (S : Sl) (r : Res D) : Res D := r.bind fun d M1 => (l S M1).bind fun lo M2 => (h S M2).bind fun hi M3 => fSl d lo hi M3
def sl2 (d : D) (h : OF) (S : Sl) (r : Res (Option Int)) : Res D := r.bind fun lo M2 => (h S M2).bind fun hi M3 => fSl d lo hi M3
def sl3 (d : D) (lo : Option Int) (r : Res (Option Int)) : Res D := r.bind fun hi M3 => fSl d lo hi M3
@[simp] theorem eSl_ap {l h : OF} : eSl f l h S M = sl1 l h S (f S M) := (rfl)
@[simp] theorem sl1_ok {l h : OF} : sl1 l h S (.ok d M) = sl2 d h S (l S M) := (rfl)
@[simp] theorem sl2_ok {h : OF} {lo : Option Int} : sl2 d h S (.ok lo M) = sl3 d lo (h S M) := (rfl)
@[simp] theorem sl3_ok {lo hi : Option Int} : sl3 d lo (.ok hi M) = fSl d lo hi M := (rfl)
@[simp] theorem fSl_l {lo hi : Option Int} : fSl (.lst ds) lo hi M = .ok (.lst (cutD ds lo hi)) M := (rfl)
theorem cutD_take (h : 0 ≤ i) : cutD ds none (some i) = ds.take i.toNat := by
  obtain ⟨k, rfl⟩ := Int.eq_ofNat_of_zero_le h
  unfold cutD
  rw [HT.sIx_none, HT.sIx_nat]
  simp only [List.drop_zero, Nat.sub_zero, Int.toNat_natCast]
  by_cases q : k ≤ ds.length
  · rw [Nat.min_eq_left q]
  · rw [Nat.min_eq_right (by omega), List.take_length, List.take_of_length_le (by omega)]
theorem cutD_drop (h : 0 ≤ i) : cutD ds (some i) none = ds.drop i.toNat := by
  obtain ⟨k, rfl⟩ := Int.eq_ofNat_of_zero_le h
  unfold cutD
  rw [HT.sIx_none, HT.sIx_nat]
  simp only [Int.toNat_natCast]
  by_cases q : k ≤ ds.length
  · rw [Nat.min_eq_left q, List.take_of_length_le (by rw [List.length_drop]; omega)]
  · rw [Nat.min_eq_right (by omega), List.drop_length, List.take_nil, List.drop_of_length_le (by omega)]
theorem cutS_take (h : 0 ≤ i) : (cutS x none (some i)).cps.toList = x.cps.toList.take i.toNat := by
  obtain ⟨k, rfl⟩ := Int.eq_ofNat_of_zero_le h
  unfold cutS
  have hl : x.length = x.cps.toList.length := by simp [Str.length]
  rw [HT.sIx_none, HT.sIx_nat]
  simp only [List.drop_zero, Nat.sub_zero, Int.toNat_natCast]
  by_cases q : k ≤ x.length
  · rw [Nat.min_eq_left q]
  · rw [Nat.min_eq_right (by omega), hl, List.take_length, List.take_of_length_le (by omega)]
theorem cutS_drop (h : 0 ≤ i) : (cutS x (some i) none).cps.toList = x.cps.toList.drop i.toNat := by
  obtain ⟨k, rfl⟩ := Int.eq_ofNat_of_zero_le h
  unfold cutS
  have hl : x.length = x.cps.toList.length := by simp [Str.length]
  rw [HT.sIx_none, HT.sIx_nat]
  simp only [Int.toNat_natCast]
  by_cases q : k ≤ x.length
  · rw [Nat.min_eq_left q, List.take_of_length_le (by rw [List.length_drop]; omega)]
  · rw [Nat.min_eq_right (by omega), hl, List.drop_length, List.take_nil, List.drop_of_length_le (by omega)]
/-! ### comprehensions -/
@[simp] theorem bYes_ap : bYes S M = .ok true M := (rfl)
/-- the comprehension at the store M0 set at h to a thing of which P holds -/
theorem lcL_at {gd : Mem → Prop} (hg : ∀ M, gd M) {g : GF} {b : BF} {e : EF} {S0 : Sl} {h : Nat} {P : MO → Prop} {Y : D → Prop} :
    ∀ (ds acc : List D) (mo : MO), acc.length + ds.length ≤ sizeLine → P mo →
      (∀ d ∈ ds, ∀ mo, P mo → ∃ S1 y mo', P mo' ∧ Y y ∧ g d S0 (M.set h mo) = .ok S1 (M.set h mo) ∧ b S1 (M.set h mo) = .ok true (M.set h mo) ∧ e S1 (M.set h mo) = .ok y (M.set h mo')) →
      ∃ ys mo', P mo' ∧ ys.length = ds.length ∧ (∀ y ∈ ys, Y y) ∧ lcL gd g b e S0 ds acc (M.set h mo) = .ok (acc ++ ys) (M.set h mo')
  | [], acc, mo, _, hp, _ => ⟨[], mo, hp, rfl, (by simp), by unfold lcL; rw [if_pos (hg _), List.append_nil]⟩
  | d :: r, acc, mo, hl, hp, hs => by
    obtain ⟨S1, y, mo1, p1, yy, e1, e2, e3⟩ := hs d List.mem_cons_self mo hp
    rw [List.length_cons] at hl
    obtain ⟨ys, mo', p2, l2, a2, e4⟩ := lcL_at hg r (acc ++ [y]) mo1 (by rw [List.length_append, List.length_singleton]; omega) p1 fun d hd => hs d (List.mem_cons_of_mem _ hd)
    refine ⟨y :: ys, mo', p2, by rw [List.length_cons, List.length_cons, l2], fun z hz => ?_, ?_⟩
    · rcases List.mem_cons.mp hz with q | q
      · rw [q]; exact yy
      · exact a2 z q
    · unfold lcL
      rw [if_pos (hg _), e1]
      simp only [e2, e3]
      rw [if_pos (by omega), e4, List.append_assoc]
      rfl
/-- a comprehension that leaves the store as it is -/
theorem lcL_map {gd : Mem → Prop} (hg : gd M) {g : GF} {b : BF} {e : EF} {S0 : Sl} (F : D → Option D) :
    ∀ (ds acc : List D), acc.length + ds.length ≤ sizeLine →
      (∀ d ∈ ds, ∃ S1, g d S0 M = .ok S1 M ∧ match F d with | some y => b S1 M = .ok true M ∧ e S1 M = .ok y M | none => b S1 M = .ok false M) →
      lcL gd g b e S0 ds acc M = .ok (acc ++ ds.filterMap F) M
  | [], acc, _, _ => by unfold lcL; rw [if_pos hg, List.filterMap_nil, List.append_nil]
  | d :: r, acc, hl, hs => by
    obtain ⟨S1, e1, h1⟩ := hs d List.mem_cons_self
    rw [List.length_cons] at hl
    unfold lcL
    rw [if_pos hg, e1]
    cases q : F d with
    | none =>
      rw [q] at h1
      simp only [h1]
      rw [lcL_map hg F r acc (by omega) fun d hd => hs d (List.mem_cons_of_mem _ hd), List.filterMap_cons_none q]
    | some y =>
      rw [q] at h1
      simp only [h1.1, h1.2]
      rw [if_pos (by omega), lcL_map hg F r (acc ++ [y]) (by rw [List.length_append, List.length_singleton]; omega) fun d hd => hs d (List.mem_cons_of_mem _ hd), List.filterMap_cons_some q, List.append_assoc]
      rfl
/-! ### walks -/
def i1R (r : Res (List D)) : Res Its := r.bind fun ds M1 => match ds with
  | [.int j] => if -(2 ^ 62) ≤ j ∧ j < 2 ^ 62 then .ok ⟨rangeD 0 j.toNat, none⟩ M1 else .bad
  | _ => .bad
@[simp] theorem iRange1_ap {a : AF} : iRange1 a S M = i1R (a S M) := (rfl)
theorem i1R_ok (h : 0 ≤ i) (h2 : i < 2 ^ 62) : i1R (.ok [.int i] M) = .ok ⟨rangeD 0 i.toNat, none⟩ M := if_pos ⟨by omega, h2⟩
def isR (r : Res D) : Res Its := r.bind fun d M1 => match d with
  | .lst ds => .ok ⟨ds, none⟩ M1
  | .ptr k => match M1[k]? with
    | some (.lst ds) => .ok ⟨ds, some k⟩ M1
    | _ => .bad
  | _ => .bad
@[simp] theorem iSeq_ap : iSeq f S M = isR (f S M) := (rfl)
@[simp] theorem isR_l : isR (.ok (.lst ds) M) = .ok ⟨ds, none⟩ M := (rfl)
def itR (r : Res D) : Res Its := r.bind fun d M1 => match d with
  | .tup ds => .ok ⟨ds, none⟩ M1
  | _ => .bad
@[simp] theorem iTupF_ap : iTupF f S M = itR (f S M) := (rfl)
@[simp] theorem itR_t : itR (.ok (.tup ds) M) = .ok ⟨ds, none⟩ M := (rfl)
noncomputable def lcR (g : GF) (b : BF) (e : EF) (vs : List Nat) (S : Sl) (r : Res Its) : Res D := r.bind fun I M1 => (lcL I.gd g b e (kl vs S) I.ds [] M1).bind fun ys M2 => .ok (.lst ys) M2
theorem eLc_ap {I : IF} {g : GF} {b : BF} {vs : List Nat} : eLc I g b f vs S M = lcR g b f vs S (I S M) := (rfl)
noncomputable def lcE (r : Res (List D)) : Res D := r.bind fun ys M2 => .ok (.lst ys) M2
theorem lcR_ok {I : Its} {g : GF} {b : BF} {vs : List Nat} : lcR g b f vs S (.ok I M) = lcE (lcL I.gd g b f (kl vs S) I.ds [] M) := (rfl)
@[simp] theorem lcE_ok : lcE (.ok ds M) = .ok (.lst ds) M := (rfl)
@[simp] theorem kl_nil : kl [] S = S := (rfl)
@[simp] theorem kl_cons {r : List Nat} : kl (n :: r) S = kl r (S.set n none) := (rfl)
noncomputable def foR (g : GF) (t : TF) (vs : List Nat) (S : Sl) (r : Res Its) : SR := r.thn S fun I M1 => forL I.gd g t vs I.ds S M1
theorem kFor_ap {I : IF} {g : GF} {vs : List Nat} : kFor I g t vs S M = foR g t vs S (I S M) := (rfl)
theorem foR_ok {I : Its} {g : GF} {vs : List Nat} : foR g t vs S (.ok I M) = forL I.gd g t vs I.ds S M := (rfl)
end
end QL
end
section
set_option Elab.async false
set_option linter.all false
set_option maxRecDepth 100000
set_option maxHeartbeats 4000000
set_option autoImplicit false
/-! QStar: a dict display that begins with another dict's pairs and has one pair behind them. -/
namespace PySem
open Sem (wp)
section
variable {M : Model} {A : Around} {E : Value → Shared → Prop}
end
section
variable {prog : Program} {w : World} {K : Type} [DecidableEq K] {knd : KeyKind prog w K} {A : Around} {E : Value → Shared → Prop} {s : Shared} {d : Addr} {kvs : List (K × Value)} {k : K} {key v : Value}
end
end PySem
end
section
set_option Elab.async false
set_option linter.all false
set_option maxRecDepth 100000
set_option maxHeartbeats 4000000
set_option autoImplicit false
/-! QStar2: {**d, k: v}. -/
namespace QL
open PySem PySem.Spec L2
open Classical
section
variable {prog : Program} {w : World} {A : Around} {E : Value → Shared → Prop} {s : Shared}
end
/-! ### the reading and the rule -/
def tStar (td tk tv : TE) : TE := fun σ H Q => ∀ p, H p = none → td σ (upd H p (.dK [])) fun x H1 => ∃ a kvs, x = .ref a ∧ a ≠ p ∧ Rd H1 a (.dK kvs) ∧ kvs.length < sizeLine ∧ H1 p = some (.dK []) ∧
  ∀ q, upd H1 p (.dK kvs) q = none → tk σ (upd (upd H1 p (.dK kvs)) q (.dK [])) fun y H2 => tv σ H2 fun z H3 => H3 q = some (.dK []) ∧ H3 p = some (.dK kvs) ∧ ∃ k, y = kV k ∧ Q (.ref p) (upd (upd H3 q (.dK [(k, z)])) p (.dK (putK kvs k z)))
/-- {**d, k: v} -/
def eStar (d k v : EF) : EF := fun S M => match d S M with
  | .ok x M1 => match asK M1 x with
    | some kvs => if kvs.length < sizeLine then match k S M1 with
        | .ok y M2 => match keyOf y with
          | some key => match v S M2 with
            | .ok z M3 => .ok (.ptr M3.length) (M3 ++ [.dK (putKD kvs key z)])
            | _ => .bad
          | none => .bad
        | _ => .bad
      else .bad
    | none => .bad
  | _ => .bad
theorem gd_eta {G : Gd} {P : List (Addr × HO)} (e : G.P = P) : G = { G with P := P } := by
  obtain ⟨F, θ, P'⟩ := G
  have e' : P' = P := e
  rw [e']
end QL
end
section
set_option Elab.async false
set_option linter.all false
set_option maxRecDepth 100000
set_option maxHeartbeats 4000000
set_option autoImplicit false
/-! QRepr: repr of texts, tuples and lists. -/
namespace QL
open PySem PySem.Spec L2
open Classical
mutual
/-- more signs than the text of d has -/
def wtD : D → Nat
  | .non => 4
  | .bl _ => 5
  | .int i => i.natAbs.log2 + 2
  | .str x => 10 * x.length + 2
  | .tup ds => wtDs ds + 3
  | .lst ds => wtDs ds + 4
  | _ => 0
def wtDs : List D → Nat
  | [] => 0
  | d :: r => wtD d + 2 + wtDs r
end
mutual
def shD : D → Bool
  | .non => true
  | .bl _ => true
  | .int i => decide (i.natAbs.log2 < 1920)
  | .str _ => true
  | .tup ds => shDs ds
  | .lst ds => shDs ds
  | _ => false
def shDs : List D → Bool
  | [] => true
  | d :: r => shD d && shDs r
end
mutual
theorem shD_show : ∀ {d : D}, shD d = true → (toPy d).showable = true
  | .non, _ => rfl
  | .bl _, _ => rfl
  | .int i, h => by simpa [toPy, PyData.showable, shD] using h
  | .str _, _ => rfl
  | .tup ds, h => by
    have h' : shDs ds = true := by simpa [shD] using h
    simpa [toPy, PyData.showable] using shDs_show h'
  | .lst ds, h => by
    have h' : shDs ds = true := by simpa [shD] using h
    simpa [toPy, PyData.showable] using shDs_show h'
  | .ptr _, h => by simp [shD] at h
  | .raw _, h => by simp [shD] at h
  | .dK _, h => by simp [shD] at h
  | .dT _, h => by simp [shD] at h
  | .obj _ _, h => by simp [shD] at h
  | .exc _ _ _ _, h => by simp [shD] at h
theorem shDs_show : ∀ {ds : List D}, shDs ds = true → PyData.showableAll (toPys ds) = true
  | [], _ => rfl
  | d :: r, h => by
    have h' : shD d = true ∧ shDs r = true := by simpa [shDs] using h
    simp only [toPys, PyData.showableAll, Bool.and_eq_true]
    exact ⟨shD_show h'.1, shDs_show h'.2⟩
end
theorem textFrom_le : ∀ (ts : List Str) (k : Nat) (acc : Str), (textFrom k acc ts).length ≤ acc.length + piled ts
  | [], k, acc => Nat.le_add_right _ _
  | t :: r, k, acc => by
    have h := textFrom_le r (k + 1) (acc ++ (if k > 0 then ", " else "" : String) ++ t)
    have e : (acc ++ (if k > 0 then ", " else "" : String) ++ t).length ≤ acc.length + 2 + t.length := by
      rw [strLen_append, strLen_append]
      split
      · exact Nat.le_refl _
      · show acc.length + 0 + t.length ≤ _
        omega
    rw [piled_cons]
    show (textFrom (k + 1) (acc ++ (if k > 0 then ", " else "" : String) ++ t) r).length ≤ _
    omega
theorem listText_le (ts : List Str) : (listText ts).length ≤ piled ts + 2 := by
  have h := textFrom_le ts 0 "["
  have e : (listText ts).length = (textFrom 0 "[" ts).length + 1 := by
    show (textFrom 0 "[" ts ++ "]").length = _
    rw [strLen_append]
    rfl
  have e1 : (("[" : String) : Str).length = 1 := rfl
  omega
theorem tupleText_le (ts : List Str) : (tupleText ts).length ≤ piled ts + 3 := by
  have e : (tupleText ts).length = 1 + (Str.join ", " ts).length + ((if ts.length == 1 then ",)" else ")" : String) : Str).length := by
    unfold tupleText
    rw [strLen_append, strLen_append]
    rfl
  have j : (Str.join ", " ts).length ≤ piled ts := by
    cases ts with
    | nil => exact Nat.zero_le _
    | cons t r =>
      have := join_length_add (t :: r) (by simp)
      omega
  have l : ((if ts.length == 1 then ",)" else ")" : String) : Str).length ≤ 2 := by
    split
    · exact Nat.le_refl _
    · show 1 ≤ 2
      omega
  omega
mutual
theorem shown_le : ∀ {n : Nat} {d : D}, okD n d = true → (toPy d).shown.length ≤ wtD d
  | _, .non, _ => by simp only [toPy, PyData.shown, wtD]; decide
  | _, .bl true, _ => by simp only [toPy, PyData.shown, wtD]; decide
  | _, .bl false, _ => by simp only [toPy, PyData.shown, wtD]; decide
  | _, .int i, _ => by
    simp only [toPy, PyData.shown, wtD]
    have h := int_text_length_le (a := i) (k := i.natAbs.log2 + 1) (by omega) (by omega)
    rw [ofString_length]
    exact h
  | _, .str x, h => by
    simp only [toPy, PyData.shown, wtD]
    refine StrLaws.reprText_len x fun c hc => ?_
    have h' : PyData.strOk x = true := by simpa [okD] using h
    unfold PyData.strOk at h'
    have h2 := Array.all_eq_true'.mp h' c (Array.mem_toList_iff.mp hc)
    have h3 : c < 0x110000 := of_decide_eq_true h2
    omega
  | 0, .tup _, h => by simp [okD] at h
  | n + 1, .tup ds, h => by
    have h' : okDs n ds = true := by simpa [okD] using h
    simp only [toPy, PyData.shown, wtD]
    have e1 := tupleText_le (PyData.shownAll (toPys ds))
    have e2 := showns_le h'
    omega
  | 0, .lst _, h => by simp [okD] at h
  | n + 1, .lst ds, h => by
    have h' : okDs n ds = true := by simpa [okD] using h
    simp only [toPy, PyData.shown, wtD]
    have e1 := listText_le (PyData.shownAll (toPys ds))
    have e2 := showns_le h'
    omega
  | _, .ptr _, h => by simp [okD] at h
  | _, .raw _, h => by simp [okD] at h
  | _, .dK _, h => by simp [okD] at h
  | _, .dT _, h => by simp [okD] at h
  | _, .obj _ _, h => by simp [okD] at h
  | _, .exc _ _ _ _, h => by simp [okD] at h
theorem showns_le : ∀ {n : Nat} {ds : List D}, okDs n ds = true → piled (PyData.shownAll (toPys ds)) ≤ wtDs ds
  | _, [], _ => Nat.le_refl _
  | n, d :: r, h => by
    have h' : okD n d = true ∧ okDs n r = true := by simpa [okDs] using h
    simp only [toPys, PyData.shownAll, wtDs]
    rw [piled_cons]
    have e1 := shown_le h'.1
    have e2 := showns_le h'.2
    omega
end
mutual
theorem noDict_toPy : ∀ d : D, (toPy d).hasDict = false
  | .non => rfl
  | .bl _ => rfl
  | .int _ => rfl
  | .str _ => rfl
  | .tup ds => by simpa [toPy, PyData.hasDict] using noDict_toPys ds
  | .lst ds => by simpa [toPy, PyData.hasDict] using noDict_toPys ds
  | .ptr _ => rfl
  | .raw _ => rfl
  | .dK _ => rfl
  | .dT _ => rfl
  | .obj _ _ => rfl
  | .exc _ _ _ _ => rfl
theorem noDict_toPys : ∀ ds : List D, PyData.hasDictAll (toPys ds) = false
  | [] => rfl
  | d :: r => by
    simp only [toPys, PyData.hasDictAll]
    rw [noDict_toPy d, noDict_toPys r]
    rfl
end
mutual
theorem okD_up : ∀ {n m : Nat} {d : D}, okD n d = true → n ≤ m → okD m d = true
  | _, _, .non, _, _ => by simp [okD]
  | _, _, .bl _, _, _ => by simp [okD]
  | _, _, .int _, _, _ => by simp [okD]
  | _, _, .str x, h, _ => by simpa [okD] using h
  | 0, _, .tup _, h, _ => by simp [okD] at h
  | n + 1, 0, .tup ds, h, l => absurd l (by omega)
  | n + 1, m + 1, .tup ds, h, l => by
    simp only [okD] at h ⊢
    exact okDs_up h (by omega)
  | 0, _, .lst _, h, _ => by simp [okD] at h
  | n + 1, 0, .lst ds, h, l => absurd l (by omega)
  | n + 1, m + 1, .lst ds, h, l => by
    simp only [okD] at h ⊢
    exact okDs_up h (by omega)
  | _, _, .ptr _, h, _ => by simp [okD] at h
  | _, _, .raw _, h, _ => by simp [okD] at h
  | _, _, .dK _, h, _ => by simp [okD] at h
  | _, _, .dT _, h, _ => by simp [okD] at h
  | _, _, .obj _ _, h, _ => by simp [okD] at h
  | _, _, .exc _ _ _ _, h, _ => by simp [okD] at h
theorem okDs_up : ∀ {n m : Nat} {ds : List D}, okDs n ds = true → n ≤ m → okDs m ds = true
  | _, _, [], _, _ => by simp [okDs]
  | n, m, d :: r, h, l => by
    have h' : okD n d = true ∧ okDs n r = true := by simpa [okDs] using h
    simp only [okDs, Bool.and_eq_true]
    exact ⟨okD_up h'.1 l, okDs_up h'.2 l⟩
end
def isSeqD : D → Bool
  | .tup _ => true
  | .lst _ => true
  | _ => false
/-- repr of a text, a tuple, a list -/
def bReprD (ds : List D) (M : Mem) : Res D := match ds with
  | [.str x] => if 10 * x.length + 2 ≤ sizeLine ∧ PyData.strOk x = true then .ok (.str (reprText x)) M else .bad
  | [d] => if okD 60 (der M d) = true ∧ shD (der M d) = true ∧ wtD (der M d) ≤ sizeLine ∧ isSeqD (der M d) = true then .ok (.str (toPy (der M d)).shown) M else .bad
  | _ => .bad
def rReprD (K : PySem.W.Frag) : List V → Hp → VK → Prop := fun xs H Q => (∃ x, xs = [.str x] ∧ (reprText x).length ≤ sizeLine ∧ Q (.str (reprText x)) H) ∨
  ∃ a d, xs = [.ref a] ∧ Dp K H (.ref a) d ∧ d.showable = true ∧ d.hasDict = false ∧ d.depth ≤ 60 ∧ d.shown.length ≤ sizeLine ∧ Q (.str d.shown) H
theorem call_reprD {X : Cx} (hgd : X.A.guards = some []) (hu : X.A.units + 64 < cLine) : CallR X (.builtin "repr") (rReprD X.K) := by
  intro pins s σ H xs us Q I r h
  rcases h with ⟨x, rfl, hz, q⟩ | ⟨a, d, rfl, dp, sh, nd, dd, hz, q⟩
  · obtain ⟨u, rfl, t, rfl⟩ := vals1 r
    exact PySem.P.repr_of_str ⟨.str _, H, I.tok _, ⟨_, rfl⟩, q⟩ hz
  · rw [Vals.ref1 r]
    obtain ⟨as, rd⟩ := Dp.reads I d (.ref a) (.ref a) dp rfl
    exact repr_of_reads' rd sh (PyData.noDict_hsm nd) hgd (by omega) (fun _ _ e => e) (fun h' u tk hk => ⟨.str _, H, I.kept hk, ⟨u, rfl⟩, q⟩) hz
theorem isSeq_ref {c : Cn} {G : Gd} {H : Hp} {M : Mem} {d : D} {v : V} (r : Rep c G H M) (q : DV c G d v) (h : isSeqD (der M d) = true) : ∃ a, v = .ref a := by
  unfold der at h
  cases e : asL M d with
  | some ds =>
    obtain ⟨a, vs, rfl, _⟩ := asL_at r q e
    exact ⟨a, rfl⟩
  | none =>
    rw [e] at h
    cases d with
    | tup ds => obtain ⟨a, vs, rfl, _⟩ := q; exact ⟨a, rfl⟩
    | lst ds => obtain ⟨a, vs, rfl, _⟩ := q; exact ⟨a, rfl⟩
    | _ => cases h
theorem rc_reprD {c : Cn} : RCs c bReprD (rReprD c.K) := by
  intro W σ G H M vs ds Q r q p
  unfold bReprD at p
  split at p
  · split at p
    · rename_i x hz
      refine .inl ⟨x, DVs.strs (ns := [x]) q, Nat.le_trans (StrLaws.reprText_len x fun c hc => ?_) hz.1, p G _ H (Gr.refl _) r rfl⟩
      have h' := hz.2
      unfold PyData.strOk at h'
      have h2 := Array.all_eq_true'.mp h' c (Array.mem_toList_iff.mp hc)
      have h3 : c < 0x110000 := of_decide_eq_true h2
      omega
    · exact p.elim
  · split at p
    · rename_i d _ hz
      obtain ⟨h1, h2, h3, h4⟩ := hz
      obtain ⟨v, t, rfl, q1, qt⟩ := q
      cases (show t = [] from qt)
      obtain ⟨a, rfl⟩ := isSeq_ref r q1 h4
      have h64 : okD 64 (der M d) = true := okD_up h1 (by omega)
      exact .inr ⟨a, toPy (der M d), rfl, der_dp r q1 h64, shD_show h2, noDict_toPy _, (okD_lay h1).2, Nat.le_trans (shown_le h1) h3, p G _ H (Gr.refl _) r rfl⟩
    · exact p.elim
  · exact p.elim
def bReprA := orC bRepr0 bReprD
theorem qreprA {X : Cx} {W : WX} {p pos : Pos} {e : Expr} {a : AF} (hgd : X.A.guards = some []) (hu : X.A.units + 64 < cLine) (hg : Gl X "repr") (hm : X.mg "repr" = none) (ha : QA X W [e] a) (he : starEach [e] X.env = (false, eval e X.env) :: starEach [] X.env := by rfl) (hpl : (backTo pos (starEach [] X.env)).any (·.1) = false := by rfl) :
    QE X W (.Call (.Name "repr" p) [e] [] pos) (eCall bReprA a) := (qrepr0 hg hm ha he hpl).call (q_cb (call_reprD hgd hu) rc_reprD hg hm ha (by decide +kernel) (by decide) (by decide) he hpl)
end QL
end
section
set_option Elab.async false
set_option linter.all false
set_option maxRecDepth 100000
set_option maxHeartbeats 4000000
set_option autoImplicit false
/-! QSetI: sorted(set(xs)), xs a list of ints. -/
namespace QL
open PySem PySem.Spec L2
open Classical
/-- put into a rising list, if it is not there -/
def insI (x : Int) : List Int → List Int
  | [] => [x]
  | y :: r => if x < y then x :: y :: r else if x = y then y :: r else y :: insI x r
/-- the different ones, rising -/
def upI (l : List Int) : List Int := l.foldr insI []
section
variable {P : Program} {w : World} {A : Around} {E : Value → Shared → Prop} {s : Shared}
end
section
variable {X : Cx}
end
/-- sorted(set(xs)), xs a list of ints, fewer than 64 different ones -/
noncomputable def ssI (r : Res D) : Res D := r.bind fun d M1 => match asL M1 d with
  | some xs => match intsOf xs with
    | some ns => if ns.length + 1 < scanBound ∧ (upI ns).length < 64 then .ok (.lst ((upI ns).map D.int)) M1 else .bad
    | none => .bad
  | none => .bad
noncomputable def eSortSetI (e : EF) : EF := fun S M => ssI (e S M)
noncomputable def eSortSetA (e : EF) : EF := fun S M => orR (eSortSet e S M) (eSortSetI e S M)
end QL
end
section
set_option Elab.async false
set_option linter.all false
set_option maxRecDepth 100000
set_option maxHeartbeats 4000000
set_option autoImplicit false
/-! QRng: list(range(..)). -/
namespace QL
open PySem PySem.Spec L2
open Classical
def rgD (i j : Int) : List D := (List.range (j - i).toNat).map fun k => .int (i + (k : Nat))
noncomputable def fLRg (x y : D) (M : Mem) : Res D := match x, y with
  | .int i, .int j => if RgOk i j then .ok (.lst (rgD i j)) M else .bad
  | _, _ => .bad
noncomputable def eLRg2 (a b : EF) : EF := e2 fLRg a b
noncomputable def eLRg1 (a : EF) : EF := fun S M => (a S M).bind fun x M1 => fLRg (.int 0) x M1
section
variable {X : Cx} {W : WX} {p p2 pos pos2 : Pos} {a b : Expr} {fa fb : EF}
end
end QL
end
section
set_option Elab.async false
set_option linter.all false
set_option maxRecDepth 100000
set_option maxHeartbeats 4000000
set_option autoImplicit false
/-! QNe: lists of other lengths are unequal, whatever they hold. -/
namespace QL
open PySem PySem.Spec L2
open Classical
theorem op_neLen {X : Cx} (hu : X.A.units + 64 < cLine) : OpR X (compareOp .NotEq) (rLen X.K true) := by
  intro pins s σ H x y v u Q I rx ry h
  obtain ⟨l, b, xs, ys, rfl, rfl, h1, h2, hz, q⟩ := h
  cases rx
  cases ry
  obtain ⟨its, r1, p1, z1⟩ := I.list h1
  obtain ⟨jts, r2, p2, z2⟩ := I.list h2
  have l1 := r1.length
  have l2 := r2.length
  obtain ⟨⟨c1, d1, a1, s1⟩, o1, e1, n1, f1⟩ := p1.isList
  obtain ⟨⟨c2, d2, a2, s2⟩, o2, e2, n2, f2⟩ := p2.isList
  simp only at e1 f1 e2 f2
  subst e1 f1 e2 f2
  have other : (its.toArray.size != jts.toArray.size) = true := by
    rw [bne_iff_ne, List.size_toArray, List.size_toArray]
    omega
  exact wpAny_richCompare_same_room (op := .NotEq) ⟨_, o1, rfl⟩ ⟨_, o2, rfl⟩ PySem.F.slot_list_ne (call_meets PySem.F.slot_list_ne ⟨_, o1, rfl⟩ PySem.F.entry_list_ne (PySem.F.args_list_ne_2 _ _) (SeqAt.list_ne_lengthsAt l b its.toArray jts.toArray n1 n2 _ _ _ _ other)
    ⟨o1, o2, show Value.bool true ≠ Value.notImplemented ∧ EP X pins σ Q (.bool true) s from ⟨(fun x => nomatch x), .bl true, H, I, rfl, q⟩⟩) (by omega)
def fNeLen (x y : D) (M : Mem) : Res D := match asL M x, asL M y with
  | some xs, some ys => if xs.length ≠ ys.length then .ok (.bl true) M else .bad
  | _, _ => .bad
theorem r2_neLen {c : Cn} : R2s c fNeLen (rLen c.K true) := by
  intro W σ G H M x y dx dy Q r qx qy p
  unfold fNeLen at p
  split at p
  · rename_i xs ys hx hy
    split at p
    · rename_i hz
      obtain ⟨a, us, rfl, s1, t1⟩ := asL_at r qx hx
      obtain ⟨b, ws, rfl, s2, t2⟩ := asL_at r qy hy
      exact ⟨a, b, us, ws, rfl, rfl, s1, s2, by rw [t1.length, t2.length]; exact hz, p G _ H (Gr.refl _) r rfl⟩
    · exact p.elim
  · exact p.elim
def fNeA := or2 fNe fNeLen
section
variable {X : Cx} {W : WX} {pos : Pos} {a b : Expr} {fa fb : EF}
theorem tNeA (hu : X.A.units + 64 < cLine) (ha : QE X W a fa) (hb : QE X W b fb) : QT X W (.Compare a [.NotEq] [b] pos) (bV (e2 fNeA fa fb)) := (tNe hu ha hb).e2 (qt_cmp (op_neLen hu) r2_neLen (nomark _) ha hb)
end
end QL
end
section
set_option Elab.async false
set_option linter.all false
set_option maxRecDepth 100000
set_option maxHeartbeats 4000000
set_option autoImplicit false
/-! QTop: classes and errors by their names. -/
namespace QL
open PySem PySem.Spec L2
open PyProof.Rows (envOfC)
open Classical
/-- where the thing of that name lies -/
def adr (mg : Str → Option Value) (n : Str) : Addr := match mg n with
  | some (.ref a) => a
  | _ => 0
theorem adr_eq {mg : Str → Option Value} {n : Str} {a : Addr} (h : mg n = some (.ref a)) : adr mg n = a := by
  unfold adr
  rw [h]
theorem adr_at {mg : Str → Option Value} {n : Str} {a : Addr} (h : mg n = some (.ref a)) : mg n = some (.ref (adr mg n)) := by rw [adr_eq h]; exact h
section
variable {P : Program} {w : World} {K : PySem.W.Frag} {mg : Str → Option Value} {base : Heap}
def RawC (K : PySem.W.Frag) (mg : Str → Option Value) (cl qual : Str) (st : Stmt) (ps : List Str) : Prop :=
  ∃ C f fd, mg cl = some (.ref C) ∧ Mk K C f ∧ Fun K "__init__" qual st f fd ∧ Binds K fd ps []
theorem RawC.has {cl qual : Str} {st : Stmt} {N ps : List Str} {k m : Nat} {t : TF} (R : RawC K mg cl qual st ps) (S : FnScope N ps (defScope st)) (hN : N.length = ps.length + m)
    (hb : ∀ (f : Addr) (cdv : Value) (A : Around) (outer : List Env) (s : Shared) (H : Hp) (E : XK), RoomG k (A.deeper (envOfC qual (defScope st) s.heap.objs.size f cdv)) → QSs (cxQ P w K mg base N qual st f cdv A outer s H E) (WF E) (defBody st) t) :
    HasC P w K mg base (k + 1) cl ps (runF ps.length m t) := by
  obtain ⟨C, f, fd, m1, me, F, b⟩ := R
  exact ⟨C, f, fd, m1, me, b, okQ F S hN (hb f)⟩
end
section
variable {X : Cx} {W : WX} {pos : Pos}
theorem qgI {x : Str} {i : Int} (hg : Gl X x) (hm : ∃ t, X.mg x = some (.int i t)) (hd : (x == ("__debug__" : Str)) = false := by decide) : QE X W (.Name x pos) (eC (.int i)) := by
  obtain ⟨t, h⟩ := hm
  exact qglobI hg h hd
theorem qgS {x : Str} {i : Str} (hg : Gl X x) (hm : ∃ t, X.mg x = some (.str i t)) (hd : (x == ("__debug__" : Str)) = false := by decide) : QE X W (.Name x pos) (eC (.str i)) := by
  obtain ⟨t, h⟩ := hm
  exact qglobS hg h hd
end
/-- the own errors all stand one below the base class -/
def subE (n t : Str) : Bool := decide (n = t) || decide (t = "ClubError")
section
variable {X : Cx} {W : WX} {cx n : Str} {i : Nat} {body suite : List Stmt} {b0 : Stmt} {np pos pos' : Pos} {tb : TF} {su : Addr → Addr → Ex → TF} {cl : List Str}
end
end QL
end
section
set_option Elab.async false
set_option linter.all false
set_option maxRecDepth 100000
set_option maxHeartbeats 4000000
set_option autoImplicit false
/-! QLc2: list comprehensions with two fors. -/
namespace QL
open PySem PySem.Spec L2
open Classical
/-- the outer turns -/
noncomputable def lcO (gd : Mem → Prop) (g : GF) (b : BF) (f1 : IF) (g1 : GF) (b1 : BF) (e : EF) (S0 : Sl) (vs1 : List Nat) : List D → List D → Mem → Res (List D)
  | [], acc, M => if gd M then .ok acc M else .bad
  | d :: r, acc, M => if gd M then match g d S0 M with
      | .ok S1 M1 => match b S1 M1 with
        | .ok true M2 => match f1 S1 M2 with
          | .ok I M3 => match lcL I.gd g1 b1 e (kl vs1 S1) I.ds acc M3 with
            | .ok acc2 M4 => lcO gd g b f1 g1 b1 e S0 vs1 r acc2 M4
            | _ => .bad
          | _ => .bad
        | .ok false M2 => lcO gd g b f1 g1 b1 e S0 vs1 r acc M2
        | _ => .bad
      | _ => .bad
    else .bad
noncomputable def eLc2 (f : IF) (g : GF) (b : BF) (f1 : IF) (g1 : GF) (b1 : BF) (e : EF) (vs vs1 : List Nat) : EF := fun S M => (f S M).bind fun I M1 => (lcO I.gd g b f1 g1 b1 e (kl vs S) vs1 I.ds [] M1).bind fun ys M2 => .ok (.lst ys) M2
section
variable {X : Cx} {W : WX} {tg iter tg1 iter1 elt : Expr} {ifs ifs1 : List Expr} {scope : Scope} {own : List (Str × Nat)} {pos : Pos} {f f1 : IF} {g g1 : GF} {b b1 : BF} {e : EF}
end
end QL
end
section
set_option Elab.async false
set_option linter.all false
set_option maxRecDepth 100000
set_option maxHeartbeats 4000000
set_option autoImplicit false
/-! QRev: a list turned about. -/
namespace QL
open PySem PySem.Spec L2
open Classical
def eRev (e : EF) : EF := fun S M => (e S M).bind fun d M1 => match asL M1 d with
  | some ds => .ok (.lst ds.reverse) M1
  | none => .bad
def eRevP (e : EF) : EF := fun S M => (e S M).bind fun d M1 => match asL M1 d with
  | some ds => .ok (.ptr M1.length) (M1 ++ [.lst ds.reverse])
  | none => .bad
section
variable {X : Cx} {W : WX} {e : Expr} {fe : EF} {k : Nat} {p1 p2 p3 pos : Pos}
end
/-- a, b, c = x, y, z on one line -/
def kPar3 (i j l : Nat) (a : AF) : TF := fun S M => (a S M).thn S fun ds M1 => match ds with
  | [d, e, u] => .nx (((S.set i (some d)).set j (some e)).set l (some u)) M1
  | _ => .bad
def prR3 (i j l : Nat) (S : Sl) (r : Res (List D)) : SR := r.thn S fun ds M1 => match ds with
  | [d, e, u] => .nx (((S.set i (some d)).set j (some e)).set l (some u)) M1
  | _ => .bad
end QL
end
section
set_option Elab.async false
set_option linter.all false
set_option maxRecDepth 100000
set_option maxHeartbeats 1000000
set_option autoImplicit false
/-! QKat: tuples of texts and ints with a text at the head, in order; the sort of a list of them. -/
namespace QP
open PySem PySem.W PyProof.Rows PySem.Spec L2
/-! ### texts in order -/
def ltS (x y : Str) : Bool := decide (x.cps.toList < y.cps.toList)
theorem ltS_irr (x : Str) : ltS x x = false := decide_eq_false (List.lt_irrefl _)
theorem ltS_asym {x y : Str} (h : ltS x y = true) : ltS y x = false := decide_eq_false fun z => List.lt_irrefl _ (List.lt_trans (of_decide_eq_true h) z)
theorem ltS_tr {x y z : Str} (h1 : ltS y x = false) (h2 : ltS z y = false) : ltS z x = false := by
  refine decide_eq_false fun h => ?_
  have a : x.cps.toList ≤ y.cps.toList := of_decide_eq_false h1
  have b : y.cps.toList ≤ z.cps.toList := of_decide_eq_false h2
  exact (List.le_trans a b) h
theorem ltS_conn {x y : Str} (h1 : ltS x y = false) (h2 : ltS y x = false) : x = y := by
  have e := List.le_antisymm (show x.cps.toList ≤ y.cps.toList from of_decide_eq_false h2) (show y.cps.toList ≤ x.cps.toList from of_decide_eq_false h1)
  obtain ⟨⟨la⟩⟩ := x
  obtain ⟨⟨lb⟩⟩ := y
  simp at e
  rw [e]
/-! ### parts in order: ints come ahead of texts (they never meet where it counts) -/
def ltKey (p q : Key) : Bool := match p, q with
  | .inl i, .inl j => decide (i < j)
  | .inr x, .inr y => ltS x y
  | .inl _, .inr _ => true
  | .inr _, .inl _ => false
theorem ltKey_asym {p q : Key} (h : ltKey p q = true) : ltKey q p = false := by
  rcases p with i | x <;> rcases q with j | y
  · exact decide_eq_false (Int.lt_asymm (of_decide_eq_true h))
  · rfl
  · cases h
  · exact ltS_asym h
theorem ltKey_tr {p q r : Key} (h1 : ltKey q p = false) (h2 : ltKey r q = false) : ltKey r p = false := by
  rcases p with i | x <;> rcases q with j | y <;> rcases r with k | z
  · have a := of_decide_eq_false h1
    have b := of_decide_eq_false h2
    exact decide_eq_false (by omega)
  · rfl
  · cases h2
  · rfl
  · cases h1
  · cases h1
  · cases h2
  · exact ltS_tr h1 h2
theorem ltKey_conn {p q : Key} (h1 : ltKey p q = false) (h2 : ltKey q p = false) : p = q := by
  rcases p with i | x <;> rcases q with j | y
  · have a := of_decide_eq_false h1
    have b := of_decide_eq_false h2
    rw [show i = j by omega]
  · cases h1
  · cases h2
  · rw [ltS_conn h1 h2]
/-! ### rows of parts, the first difference decides -/
def ltL : List Key → List Key → Bool
  | _, [] => false
  | [], _ :: _ => true
  | p :: ps, q :: qs => if p = q then ltL ps qs else ltKey p q
theorem ltL_nil (ps : List Key) : ltL ps [] = false := by cases ps <;> rfl
theorem ltL_eq (p : Key) (ps qs : List Key) : ltL (p :: ps) (p :: qs) = ltL ps qs := if_pos rfl
theorem ltL_ne {p q : Key} (n : p ≠ q) (ps qs : List Key) : ltL (p :: ps) (q :: qs) = ltKey p q := if_neg n
theorem ltL_irr (ps : List Key) : ltL ps ps = false := by
  induction ps with
  | nil => rfl
  | cons p ps ih => rw [ltL_eq, ih]
theorem ltL_asym {ps qs : List Key} (h : ltL ps qs = true) : ltL qs ps = false := by
  induction ps generalizing qs with
  | nil => exact ltL_nil qs
  | cons p ps ih =>
    cases qs with
    | nil => cases h
    | cons q qs =>
      by_cases e : p = q
      · subst e
        rw [ltL_eq] at h ⊢
        exact ih h
      · rw [ltL_ne e] at h
        rw [ltL_ne (Ne.symm e)]
        exact ltKey_asym h
theorem ltL_conn {ps qs : List Key} (h1 : ltL ps qs = false) (h2 : ltL qs ps = false) : ps = qs := by
  induction ps generalizing qs with
  | nil => cases qs with
    | nil => rfl
    | cons q qs => cases h1
  | cons p ps ih =>
    cases qs with
    | nil => cases h2
    | cons q qs =>
      by_cases e : p = q
      · subst e
        rw [ltL_eq] at h1 h2
        rw [ih h1 h2]
      · rw [ltL_ne e] at h1
        rw [ltL_ne (Ne.symm e)] at h2
        exact absurd (ltKey_conn h1 h2) e
theorem ltL_tr {ps qs rs : List Key} (h1 : ltL qs ps = false) (h2 : ltL rs qs = false) : ltL rs ps = false := by
  induction ps generalizing qs rs with
  | nil => exact ltL_nil rs
  | cons p ps ih =>
    cases qs with
    | nil => cases h1
    | cons q qs =>
      cases rs with
      | nil => cases h2
      | cons r rs =>
        by_cases a : q = p
        · subst a
          by_cases b : r = q
          · subst b
            rw [ltL_eq] at h1 h2 ⊢
            exact ih h1 h2
          · rw [ltL_ne b] at h2 ⊢
            exact h2
        · rw [ltL_ne a] at h1
          by_cases b : r = q
          · subst b
            rw [ltL_ne a]
            exact h1
          · rw [ltL_ne b] at h2
            have c := ltKey_tr h1 h2
            by_cases d : r = p
            · subst d
              exact absurd (ltKey_conn h1 h2) a
            · rw [ltL_ne d]
              exact c
theorem swoL {α : Type} (k : α → List Key) : SrtO.Swo (fun v u : α => ltL (k v) (k u)) := ⟨fun x y h => ltL_asym h, fun x y z h1 h2 => ltL_tr h1 h2⟩
/-- rows whose parts are of the same kinds, place by place -/
def sameK : List Key → List Key → Bool
  | [], [] => true
  | .inl _ :: r, .inl _ :: t => sameK r t
  | .inr _ :: r, .inr _ :: t => sameK r t
  | _, _ => false
theorem sameK_len {ps qs : List Key} (h : sameK ps qs = true) : ps.length = qs.length := by
  induction ps generalizing qs with
  | nil => cases qs with
    | nil => rfl
    | cons q qs => cases h
  | cons p ps ih => rcases p with i | x <;> rcases qs with _ | ⟨j | y, qs⟩ <;> first | (cases h; done) | exact congrArg (· + 1) (ih h)
/-- a text at the head -/
def hdT : List Key → Bool
  | .inr _ :: _ => true
  | _ => false
/-- v is a tuple of these -/
def TupV (h : Heap) (v : Value) (ks : List Key) : Prop := ∃ (a : Addr) (us : List Value), v = .ref a ∧ Vals (ks.map kV) us ∧ IsTup h a us.toArray
theorem TupV.keeps {h h' : Heap} {v : Value} {ks : List Key} (z : TupV h v ks) (k : ∀ b o, h.get? b = some o → o.cls = .type "tuple" → h'.get? b = some o) : TupV h' v ks := by
  obtain ⟨a, us, e, r, ⟨o, ho, hc, d⟩⟩ := z
  exact ⟨a, us, e, r, ⟨o, k _ _ ho hc, hc, d⟩⟩
/-- the text that leads a tuple, found in the heap -/
theorem TupV.lead {h : Heap} {v : Value} {ks : List Key} (z : TupV h v ks) (hh : hdT ks = true) : ∃ (y : Str) (t : Tok) (a : Addr) (o : Obj) (us : Array Value) (n : Nat), v = .ref a ∧ h.get? a = some o ∧ o.cls = .type "tuple" ∧ o.data = .seq us n ∧ us[0]? = some (.str y t) := by
  obtain ⟨a, us, e, r, ⟨o, ho, hc, n, hd⟩⟩ := z
  rcases ks with _ | ⟨i | y, ks⟩
  · cases hh
  · cases hh
  · cases r with
    | cons r0 _ =>
      obtain ⟨t, r0⟩ := r0
      exact ⟨y, t, a, o, _, n, e, ho, hc, hd, by rw [r0]; rfl⟩
theorem leads {h : Heap} {k : Value → List Key} (vs : List Value) (z : ∀ v ∈ vs, TupV h v (k v) ∧ hdT (k v) = true) : ∃ fs : List Value, KatTups h vs fs ∧ fs.length = vs.length ∧ ∀ f ∈ fs, ∃ (y : Str) (t : Tok), f = Value.str y t := by
  induction vs with
  | nil => exact ⟨[], trivial, rfl, by intro f hf; cases hf⟩
  | cons v vs ih =>
    obtain ⟨y, t, a, o, us, n, there⟩ := (z v (.head _)).1.lead (z v (.head _)).2
    obtain ⟨fs, kt, len, txt⟩ := ih fun u m => z u (.tail _ m)
    refine ⟨.str y t :: fs, ⟨⟨a, o, us, n, there⟩, kt⟩, congrArg (· + 1) len, fun f m => ?_⟩
    cases m with
    | head => exact ⟨y, t, rfl⟩
    | tail _ m => exact txt f m
section
variable {prog : Program} {w : World} {A : Around} {E : Value → Shared → Prop} {s : Shared}
/-- one part after another: `lead` says that the kit's short way for texts is taken at the head -/
theorem walk_parts {lead : Bool} {Q : Bool → Shared → Prop} : ∀ (ks ks' : List Key) (us us' : List Value) (i : Nat), (lead = true → i = 0 → hdT ks = true ∨ ks = []) → sameK ks ks' = true → Vals (ks.map kV) us → Vals (ks'.map kV) us' → Q (ltL ks ks') s → KatLex prog w A lead false Q (us.zip us') i s := by
  intro ks
  induction ks with
  | nil =>
    intro ks' us us' i _ hs r r' q
    cases ks' with
    | nil => cases r; cases r'; exact kat_nil q
    | cons q qs => cases hs
  | cons p ps ih =>
    intro ks' us us' i hl hs r r' q
    cases ks' with
    | nil => rcases p with i | x <;> cases hs
    | cons p' ps' =>
      rw [List.map_cons] at r r'
      cases r with
      | @cons _ u _ us0 ru rt =>
        cases r' with
        | @cons _ u' _ us1 ru' rt' =>
          show KatLex prog w A lead false Q ((u, u') :: us0.zip us1) i s
          rcases p with a | a <;> rcases p' with b | b
          · obtain ⟨tk, rfl⟩ := (show ∃ t, u = Value.int a t from ru)
            obtain ⟨tl, rfl⟩ := (show ∃ t, u' = Value.int b t from ru')
            refine kat_cons (SeqAt.EqAt.int_int a tk b tl prog w _ _ ?_)
            by_cases e : a = b
            · subst e
              rw [ltL_eq] at q
              rw [beq_self_eq_true]
              exact kat_yes (ih ps' _ _ (i + 1) (fun _ z => absurd z (Nat.succ_ne_zero i)) hs rt rt' q)
            · rw [ltL_ne fun z => e (Sum.inl.inj z)] at q
              rw [beq_eq_false_iff_ne.mpr e]
              have slow : (lead && i == 0) = false := by
                cases lead with
                | false => rfl
                | true => cases i with
                  | zero => rcases hl rfl rfl with z | z <;> cases z
                  | succ i => rfl
              refine kat_no ?_
              rw [slow]
              exact kat_one _ _ (PyProof.Rows.lt_int q)
          · cases hs
          · cases hs
          · obtain ⟨tk, rfl⟩ := (show ∃ t, u = Value.str a t from ru)
            obtain ⟨tl, rfl⟩ := (show ∃ t, u' = Value.str b t from ru')
            refine kat_cons (SeqAt.EqAt.str_str a tk b tl prog w _ _ ?_)
            by_cases e : a = b
            · subst e
              rw [ltL_eq] at q
              rw [beq_self_eq_true]
              exact kat_yes (ih ps' _ _ (i + 1) (fun _ z => absurd z (Nat.succ_ne_zero i)) hs rt rt' q)
            · rw [ltL_ne fun z => e (Sum.inr.inj z)] at q
              rw [beq_eq_false_iff_ne.mpr e]
              refine kat_no ?_
              cases lead && i == 0 with
              | true => exact oneLt_str q
              | false => exact kat_one _ _ (DT.rcLt_str _ _ _ _ _ _ _ _ _ _ q)
theorem tups_cmp {vs : List Value} {k : Value → List Key} (hp : ∀ v ∈ vs, TupV s.heap v (k v) ∧ hdT (k v) = true) (hs : ∀ v ∈ vs, ∀ u ∈ vs, sameK (k v) (k u) = true) : SrtO.Cmp prog w A s (tuples' true) (fun p => p.1 ∈ vs) (SrtO.lt2 fun v u => ltL (k v) (k u)) := by
  intro p q mp mq
  obtain ⟨⟨a, us, ea, ra, o, ho, _, n, hd⟩, ha⟩ := hp _ mp
  obtain ⟨⟨b, ws, eb, rb, o', ho', _, n', hd'⟩, _⟩ := hp _ mq
  have same := hs _ mp _ mq
  have len : us.length = ws.length := by
    have x := ra.length
    have y := rb.length
    rw [List.length_map] at x y
    rw [← x, ← y, sameK_len same]
  have go := walk_parts (prog := prog) (w := w) (A := A) (s := s) (lead := true) (Q := fun r s' => s' = s ∧ r = ltL (k p.1) (k q.1)) _ _ us ws 0 (fun _ _ => .inl ha) same ra rb ⟨rfl, rfl⟩
  have fin : decide (us.toArray.size < ws.toArray.size) = false := decide_eq_false (by rw [List.size_toArray, List.size_toArray, len]; exact Nat.lt_irrefl _)
  have run := kat_lt (prog := prog) (w := w) (A := A) (E := fun _ _ => False) (b := true) (Q := fun r s' => s' = s ∧ r = ltL (k p.1) (k q.1)) ho hd ho' hd' (by rw [fin]; exact go)
  rw [← ea, ← eb] at run
  exact run
theorem tups_sortable {a : Addr} {vs : List Value} {k : Value → List Key} (h0 : 0 < vs.length) (hp : ∀ v ∈ vs, TupV s.heap v (k v) ∧ hdT (k v) = true) (hs : ∀ v ∈ vs, ∀ u ∈ vs, sameK (k v) (k u) = true) (ha : ∀ o, s.heap.get? a = some o → o.cls ≠ .type "tuple") : SrtO.SortableO prog w A s a vs fun v u => ltL (k v) (k u) := by
  intro h1 keep
  have there : ∀ v ∈ vs, TupV h1 v (k v) ∧ hdT (k v) = true := fun v m => ⟨(hp v m).1.keeps fun b o e c => keep b o (by intro z; rw [z] at e; exact ha o e c) e, (hp v m).2⟩
  obtain ⟨fs, kt, len, txt⟩ := leads vs there
  refine ⟨tuples' true, fun Q E q => kat_kind (T := .type "str") kt (len ▸ h0) (fun f m => ?_) rfl ?_, tups_cmp there hs⟩
  · obtain ⟨y, t, ef⟩ := txt f m
    rw [ef]
    exact PySem.W.Looks.now
  · rw [show (Value.type "str" != Value.type "tuple") = true by first | decide +kernel | rfl | decide]
    exact q
/-- a list's object is no tuple -/
theorem list_no_tuple {us : Array Value} {n : Nat} {o u : Obj} (x : some o = some u) (y : u = seqObj "list" us n) : o.cls ≠ .type "tuple" := fun c => by
  rw [Option.some.inj x, y] at c
  exact absurd (Value.type.inj c) (by decide)
/-- l.sort(), l a list of such tuples -/
theorem call_sort_tups {l : Addr} {vs : List Value} {k : Value → List Key} {Q : Value → Shared → Prop} (ho : s.heap.get? l = some (seqObj "list" vs.toArray 0)) (hz : vs.length ≤ sizeLine) (hp : ∀ v ∈ vs, TupV s.heap v (k v) ∧ hdT (k v) = true) (hs : ∀ v ∈ vs, ∀ u ∈ vs, sameK (k v) (k u) = true)
    (q : ∀ out : List Value, SrtO.Srtd (fun v u => ltL (k v) (k u)) out → SrtO.Stb (fun v u => ltL (k v) (k u)) out vs → Q .none { s with heap := sortedHeap s.heap l vs out.toArray }) :
    wpAny (model prog w) A (call (.builtin "list.sort") [.ref l]) Q E s :=
  wpAny_call_entry slot_list_sort ⟨_, ho, rfl⟩ entry_list_sort (SrtO.list_sort_ord (swoL k) ho hz (fun two => tups_sortable (Nat.lt_of_lt_of_le Nat.zero_lt_two two) hp hs fun o e => list_no_tuple (e.symm.trans ho) rfl) fun out h1 h2 => ⟨_, rfl, q out h1 h2⟩) (args_list_sort _)
end
/-- where a list was sorted in its place, all else stays -/
theorem sortedHeap_keep {h : Heap} {l : Addr} {vs : List Value} {out : Array Value} {b : Addr} {o : Obj} (n : b ≠ l) (e : h.get? b = some o) : (sortedHeap h l vs out).get? b = some o := (sortedHeap_old n (Heap.lt_size e)).trans e
end QP
end
section
set_option Elab.async false
set_option linter.all false
set_option maxRecDepth 100000
set_option maxHeartbeats 1000000
set_option autoImplicit false
/-! QItm: sorted(d.items()), keys texts, values ints. -/
namespace QL
open PySem PySem.Spec L2 PyProof.Rows
open Classical
section
variable {X : Cx} {e : Expr} {td : TE} {apos cpos : Pos}
end
abbrev entS (e : Str × Int) : Key × V := (Sum.inr e.1, V.int e.2)
/-- ρ the texts' rank -/
def rSortItK : List V → Hp → VK → Prop := fun vs H Q => ∃ (p a : Addr) (ks : List (Str × Int)) (ρ : Str → Int), vs = [.ref p] ∧ H p = some (L2.DX.itemsO p a) ∧ Rd H a (.dK (ks.map entS)) ∧ ks.length < 64 ∧
  ((ks.map (·.1)).Nodup → (∀ e ∈ ks, ∀ f ∈ ks, decide (e.1.cps.toList < f.1.cps.toList) = decide (ρ e.1 < ρ f.1)) ∧
  ∀ (H' : Hp) (l : Addr) (ps : List (Addr × Str × Int)), (ps.map (·.2)).Perm ks → (ps.map (·.2)).Pairwise (fun e f => ρ e.1 ≤ ρ f.1) → H l = none → (∀ z ∈ ps, H z.1 = none ∧ H' z.1 = some (.tup [.str z.2.1, .int z.2.2])) → H' l = some (.lst (ps.map fun z => V.ref z.1)) →
    (∀ b, b ≠ l → (∀ z ∈ ps, b ≠ z.1) → H' b = H b) → Q (.ref l) H')
/-- the parts of an entry as a row -/
abbrev rowE (e : Str × Int) : List Key := [.inr e.1, .inl e.2]
end QL
end
section
set_option Elab.async false
set_option linter.all false
set_option maxRecDepth 100000
set_option maxHeartbeats 1000000
set_option autoImplicit false
/-! QItm2: sorted(d.items()) as a plain function. -/
namespace QL
open PySem PySem.Spec L2
open Classical
def itemsOf : List (Key × D) → Option (List (Str × Int))
  | [] => some []
  | (.inr x, .int i) :: r => (itemsOf r).map ((x, i) :: ·)
  | _ => none
def srtI (ks : List (Str × Int)) : List (Str × Int) := ks.mergeSort fun a b => leS a.1 b.1
def itD (z : Str × Int) : D := .tup [.str z.1, .int z.2]
def eSortIt (e : EF) : EF := fun S M => (e S M).bind fun d M1 => match asK M1 d with
  | some kvs => match itemsOf kvs with
    | some ks => if ks.length < 64 then .ok (.lst ((srtI ks).map itD)) M1 else .bad
    | none => .bad
  | none => .bad
/-- a text's place -/
noncomputable def rk (ks : List (Str × Int)) (x : Str) : Int := ((ks.filter fun z => decide (z.1.cps.toList < x.cps.toList)).length : Nat)
section
variable {X : Cx} {W : WX} {e : Expr} {fe : EF} {p apos cpos pos : Pos}
end
/-! ### min of a list of ints -/
def bMinL (ds : List D) (M : Mem) : Res D := match ds with
  | [d] => match asL M d with
    | some xs => match intsOf xs with
      | some (n :: r) => .ok (.int (r.foldl min n)) M
      | _ => .bad
    | none => .bad
  | _ => .bad
end QL
end
section
set_option Elab.async false
set_option linter.all false
set_option maxRecDepth 100000
set_option maxHeartbeats 1000000
set_option autoImplicit false
/-! QIs2: is of truths; isinstance(e, ValueError); sorted(d.items()) as a list that changes. -/
namespace QL
open PySem PySem.Spec L2
open Classical
def fIsB (x y : D) (M : Mem) : Res D := match x, y with
  | .bl a, .bl b => .ok (.bl (decide (a = b))) M
  | _, _ => .bad
def fNotB (x y : D) (M : Mem) : Res D := match x, y with
  | .bl a, .bl b => .ok (.bl (!decide (a = b))) M
  | _, _ => .bad
section
variable {X : Cx} {W : WX} {pos : Pos} {a b : Expr} {fa fb : EF}
end
section
variable {X : Cx} {W : WX} {a dd C : Addr} {oe : Obj} {pn : List (Addr × Obj)} {e : Expr} {fe : EF} {p p2 pos : Pos} {t : Str} {T : String} {b : Bool}
end
def eSortItP (e : EF) : EF := fun S M => (e S M).bind fun d M1 => match asK M1 d with
  | some kvs => match itemsOf kvs with
    | some ks => if ks.length < 64 then .ok (.ptr M1.length) (M1 ++ [.lst ((srtI ks).map itD)]) else .bad
    | none => .bad
  | none => .bad
section
variable {X : Cx} {W : WX} {e : Expr} {fe : EF} {p apos cpos pos : Pos}
end
end QL
end
section
set_option Elab.async false
set_option linter.all false
set_option maxRecDepth 100000
set_option maxHeartbeats 1000000
set_option autoImplicit false
/-! QNest: a comprehension within a comprehension. -/
namespace QL
open PySem PySem.Spec L2
/-- a name's kind behind the change of some free ones to cells -/
def toCell (env : Env) (x : Str × NameKind) : Str × NameKind := if (x.2 == NameKind.free && env.scope.kind == .function && env.kindOf x.1 == some .cell) then (x.1, NameKind.cell) else x
theorem toCell_fst (env : Env) (x : Str × NameKind) : (toCell env x).1 = x.1 := by
  unfold toCell
  split <;> rfl
theorem toCell_snd (env : Env) (x : Str × NameKind) (h : x.2 = .cell ∨ x.2 = .free) : (toCell env x).2 = .cell ∨ (toCell env x).2 = .free := by
  unfold toCell
  split
  · exact .inl rfl
  · exact h
theorem lookup_relab {env : Env} (names : List (Str × NameKind)) {x : Str} (h : names.lookup x = some .cell ∨ names.lookup x = some .free) : (names.map (toCell env)).lookup x = some .cell ∨ (names.map (toCell env)).lookup x = some .free := by
  induction names with
  | nil => exact h.elim (fun z => nomatch z) fun z => nomatch z
  | cons y r ih =>
    obtain ⟨m, k⟩ := y
    rw [List.map_cons]
    have e := toCell_fst env (m, k)
    have f := toCell_snd env (m, k)
    generalize toCell env (m, k) = z at e f ⊢
    obtain ⟨m', k'⟩ := z
    cases (show m' = m from e)
    unfold List.lookup at h ⊢
    split at h
    · exact (f (h.imp Option.some.inj Option.some.inj)).imp (congrArg some) (congrArg some)
    · exact ih h
theorem relabOk {N : List Str} {sc scope : Scope} {own : List (Str × Nat)} {env : Env} (h : BlkOk N sc scope own) : BlkOk N (relabel sc env) scope own := by
  refine ⟨h.kind, h.uniq, h.ix, fun y hy e => ?_, h.own⟩
  exact lookup_relab _ (h.free y hy e)
end QL
end
section
set_option Elab.async false
set_option linter.all false
set_option maxRecDepth 100000
set_option maxHeartbeats 1000000
set_option autoImplicit false
/-! QReprK: repr of data with dicts. -/
namespace QL
open PySem PySem.Spec L2 PyProof.Rows
open Classical
def keyPy : Key → PyData
  | .inl i => .int i
  | .inr x => .str x
mutual
/-- v is data, dicts too -/
inductive Dk (K : PySem.W.Frag) (H : Hp) : V → PyData → Prop
  | non : Dk K H V.non PyData.none
  | bl (b : Bool) : Dk K H (V.bl b) (PyData.bool b)
  | int (i : Int) : Dk K H (V.int i) (PyData.int i)
  | str (x : Str) : Dk K H (V.str x) (PyData.str x)
  | lst {a : Addr} {vs : List V} {ds : List PyData} (h : SqL K H a vs) (t : DkS K H vs ds) : Dk K H (V.ref a) (PyData.list ds)
  | tup {a : Addr} {vs : List V} {ds : List PyData} (h : SqT K H a vs) (t : DkS K H vs ds) : Dk K H (V.ref a) (PyData.tuple ds)
  | dct {a : Addr} {vs : List (Key × V)} {ds : List (PyData × PyData)} (h : Rd H a (.dK vs)) (t : DkV K H vs ds) : Dk K H (V.ref a) (PyData.dict ds)
inductive DkS (K : PySem.W.Frag) (H : Hp) : List V → List PyData → Prop
  | nil : DkS K H [] []
  | cons {v : V} {d : PyData} {vs : List V} {ds : List PyData} (h : Dk K H v d) (t : DkS K H vs ds) : DkS K H (v :: vs) (d :: ds)
inductive DkV (K : PySem.W.Frag) (H : Hp) : List (Key × V) → List (PyData × PyData) → Prop
  | nil : DkV K H [] []
  | cons {k : Key} {v : V} {d : PyData} {vs : List (Key × V)} {ds : List (PyData × PyData)} (h : Dk K H v d) (t : DkV K H vs ds) : DkV K H ((k, v) :: vs) ((keyPy k, d) :: ds)
end
/-- what the repr of u in the heap is -/
def Sh (P : Program) (w : World) (h : Heap) (u : Value) (d : PyData) : Prop := (∃ as, Reads h u d as) ∧ ∃ bs, ReadAtMost h d.depth bs ∧ ReprK P w bs h d.depth u d.shown
def ShS (P : Program) (w : World) (h : Heap) (us : List Value) (ds : List PyData) : Prop := (∃ as, ReadsAll h us ds as) ∧ ∃ bs, ReadAtMost h (PyData.depthAll ds) bs ∧ ReprAllK P w bs h (PyData.depthAll ds) us (PyData.shownAll ds)
section
variable {P : Program} {w : World} {h : Heap} {u : Value} {us : List Value} {d : PyData} {ds : List PyData}
theorem Sh.atom (r : Reads h u d []) (q : ReprIs P w u d.shown) : Sh P w h u d := ⟨⟨_, r⟩, [], fun b hb => (List.not_mem_nil hb).elim, ReprK.of_is q _ _ _⟩
theorem ShS.nil : ShS P w h [] [] := ⟨⟨_, ReadsAll.nil⟩, [], fun b hb => (List.not_mem_nil hb).elim, ReprAllK.nil⟩
theorem ShS.cons (a : Sh P w h u d) (b : ShS P w h us ds) : ShS P w h (u :: us) (d :: ds) := by
  obtain ⟨⟨as1, r1⟩, b1, m1, k1⟩ := a
  obtain ⟨⟨as2, r2⟩, b2, m2, k2⟩ := b
  have l1 : d.depth ≤ PyData.depthAll (d :: ds) := by rw [PyData.depthAll]; omega
  have l2 : PyData.depthAll ds ≤ PyData.depthAll (d :: ds) := by rw [PyData.depthAll]; omega
  refine ⟨⟨_, ReadsAll.cons r1 r2⟩, b1 ++ b2, ReadAtMost.append (m1.mono l1) (m2.mono l2), ?_⟩
  rw [PyData.shownAll]
  have j1 : ReprK P w (b1 ++ b2) h (PyData.depthAll (d :: ds)) u d.shown := (k1.more (as' := b1 ++ b2) fun z hz => List.mem_append.mpr (.inl hz)).level_le l1
  exact ReprAllK.cons j1 (k2.more_le (fun z hz => List.mem_append.mpr (.inr hz)) l2)
end
section
variable {X : Cx} {pins : List (Addr × Obj)} {σ : L2.St} {H : Hp} {s : Shared}
theorem keys_sh {h : Heap} {P : Program} {w : World} : ∀ {el : List DictEntry} {ws : List (Key × Value)} {kl : List (Key × V)} {ds : List (PyData × PyData)} {K : PySem.W.Frag}, Pairs (mixKind P w) el ws → KV kl ws → DkV K H kl ds → PyData.showableAll (ds.map (·.1)) = true → (∀ t ∈ PyData.shownAll (ds.map (·.1)), t.length ≤ sizeLine) → ShS P w h (el.map (·.key)) (ds.map (·.1))
  | _, _, _, _, _, .nil, r, q, _, _ => by
    cases r
    cases q
    exact ShS.nil
  | _, _, _, _, _, .cons p1 p2 p3, r, q, hs, hz => by
    cases r with
    | cons r0 rr =>
      cases q with
      | cons q0 qr =>
        simp only [List.map_cons, PyData.showableAll, Bool.and_eq_true, PyData.shownAll, List.mem_cons] at hs hz
        have ih := keys_sh (h := h) p3 rr qr hs.2 fun t ht => hz t (.inr ht)
        have z0 := hz _ (.inl rfl)
        rw [← r0.1] at p1
        rcases keyIs_shape p1 with ⟨i, t, rfl, e2⟩ | ⟨x, t, rfl, e2⟩
        · rw [List.map_cons, e2]
          exact ShS.cons (d := PyData.int i) (Sh.atom (Reads.int i t) (by rw [PyData.shown]; exact ReprIs.int t (by simpa [PyData.showable, keyPy] using hs.1))) ih
        · rw [List.map_cons, e2]
          exact ShS.cons (d := PyData.str x) (Sh.atom (Reads.str x t) (by rw [PyData.shown]; exact ReprIs.str x t (by simpa only [PyData.shown, keyPy] using z0))) ih
theorem vals_of {P : Program} {w : World} : ∀ {el : List DictEntry} {ws : List (Key × Value)} {kl : List (Key × V)}, Pairs (mixKind P w) el ws → KV kl ws → Vals (kl.map (·.2)) (el.map (·.val))
  | _, _, _, .nil, r => by cases r; exact .nil
  | _, _, _, .cons p1 p2 p3, r => by
    cases r with
    | cons r0 rr =>
      rw [List.map_cons, List.map_cons, p2]
      exact .cons r0.2 (vals_of p3 rr)
theorem depth_kv (ds : List (PyData × PyData)) : PyData.depthAll (ds.map (·.1)) ≤ PyData.depthKv ds ∧ PyData.depthAll (ds.map (·.2)) ≤ PyData.depthKv ds := ⟨PyData.depthAll_keys_le ds, PyData.depthAll_vals_le ds⟩
/-- a dict's parts -/
theorem dct_sh {a : Addr} {kl : List (Key × V)} {ds : List (PyData × PyData)} (I : Inv X pins σ H s) (hd : Rd H a (.dK kl)) (q : DkV X.K H kl ds) (hs : PyData.showableKv ds = true) (hz : (dictText (PyData.shownKv ds)).length ≤ sizeLine)
    (vals : ∀ {us : List Value}, Vals (kl.map (·.2)) us → PyData.showableAll (ds.map (·.2)) = true → (∀ t ∈ PyData.shownAll (ds.map (·.2)), t.length ≤ sizeLine) → ShS X.prog X.w s.heap us (ds.map (·.2))) :
    (a == sysModules) = false ∧ ∃ (o : Obj) (es : Array DictEntry) (ep : Nat) (bs : List Addr), s.heap.get? a = some o ∧ o.cls = Value.type "dict" ∧ o.data = .dict es ep ∧ (∃ as, Reads s.heap (.ref a) (.dict ds) as) ∧ a ∉ bs ∧ ReadAtMost s.heap (PyData.depthKv ds) bs ∧
      ReprEntriesK X.prog X.w bs s.heap (PyData.depthKv ds) es.toList (PyData.shownKv ds) := by
  obtain ⟨z, hsm, ws, kv, o, es, ep, ho, hx, hdat, _, prs, _⟩ := dk_rd I.hok hd
  obtain ⟨s1, s2⟩ := PyData.showableKv_split ds hs
  obtain ⟨⟨as1, r1⟩, b1, m1, k1⟩ := keys_sh (h := s.heap) prs kv q s1 fun t ht => by
    obtain ⟨p, hp, l⟩ := PyData.shownKv_key_le ds t ht
    exact Nat.le_trans (Nat.le_trans l (dictText_mem_le hp)) hz
  obtain ⟨⟨as2, r2⟩, b2, m2, k2⟩ := vals (vals_of prs kv) s2 fun t ht => by
    obtain ⟨p, hp, l⟩ := PyData.shownKv_val_le ds t ht
    exact Nat.le_trans (Nat.le_trans l (dictText_mem_le hp)) hz
  have rr : Reads s.heap (.ref a) (.dict ds) _ := Reads.dict ho hx.1 hdat r1 r2
  obtain ⟨d1, d2⟩ := depth_kv ds
  have mm : ReadAtMost s.heap (PyData.depthKv ds) (b1 ++ b2) := ReadAtMost.append (m1.mono d1) (m2.mono d2)
  refine ⟨hsm, o, es, ep, b1 ++ b2, ho, hx.1, hdat, ⟨_, rr⟩, not_mem_of_deeper rr (by rw [PyData.depth]; omega) mm, mm, ?_⟩
  rw [PyData.shownKv_eq]
  exact ReprEntriesK.of_two _ _ _ (k1.more_le (fun y hy => List.mem_append.mpr (.inl hy)) d1) (k2.more_le (fun y hy => List.mem_append.mpr (.inr hy)) d2)
/-- a list's parts -/
theorem lst_sh {a : Addr} {vs : List V} {ds : List PyData} (I : Inv X pins σ H s) (hd : SqL X.K H a vs)
    (all : ∀ {us : List Value}, Vals vs us → ShS X.prog X.w s.heap us ds) :
    ∃ (o : Obj) (us : List Value) (n : Nat) (bs : List Addr), s.heap.get? a = some o ∧ o.cls = Value.type "list" ∧ o.data = .seq us.toArray n ∧ (∃ as, Reads s.heap (.ref a) (.list ds) as) ∧ a ∉ bs ∧ ReadAtMost s.heap (PyData.depthAll ds) bs ∧ (∃ as, ReadsAll s.heap us ds as) ∧
      ReprAllK X.prog X.w bs s.heap (PyData.depthAll ds) us (PyData.shownAll ds) := by
  obtain ⟨us, rv, ⟨o, n, ho, hc, _, hdat⟩, _⟩ := I.list hd
  obtain ⟨⟨as, r⟩, bs, m, k⟩ := all rv
  have rr : Reads s.heap (.ref a) (.list ds) _ := Reads.list ho hc hdat r
  exact ⟨o, us, n, bs, ho, hc, hdat, ⟨_, rr⟩, not_mem_of_deeper rr (by rw [PyData.depth]; omega) m, m, ⟨as, r⟩, k⟩
theorem tup_sh {a : Addr} {vs : List V} {ds : List PyData} (I : Inv X pins σ H s) (hd : SqT X.K H a vs)
    (all : ∀ {us : List Value}, Vals vs us → ShS X.prog X.w s.heap us ds) :
    ∃ (o : Obj) (us : List Value) (n : Nat) (bs : List Addr), s.heap.get? a = some o ∧ o.cls = Value.type "tuple" ∧ o.data = .seq us.toArray n ∧ (∃ as, Reads s.heap (.ref a) (.tuple ds) as) ∧ a ∉ bs ∧ ReadAtMost s.heap (PyData.depthAll ds) bs ∧
      ReprAllK X.prog X.w bs s.heap (PyData.depthAll ds) us (PyData.shownAll ds) := by
  obtain ⟨us, rv, ⟨o, ho, hc, n, hdat⟩, _⟩ := I.tuple hd
  obtain ⟨⟨as, r⟩, bs, m, k⟩ := all rv
  have rr : Reads s.heap (.ref a) (.tuple ds) _ := Reads.tuple ho hc hdat r
  exact ⟨o, us, n, bs, ho, hc, hdat, ⟨_, rr⟩, not_mem_of_deeper rr (by rw [PyData.depth]; omega) m, m, k⟩
theorem szL {ds : List PyData} (h : (PyData.list ds).shown.length ≤ sizeLine) : ∀ t ∈ PyData.shownAll ds, t.length ≤ sizeLine := fun t ht => by
  rw [PyData.shown] at h
  exact Nat.le_trans (listText_mem_le ht) h
theorem szT {ds : List PyData} (h : (PyData.tuple ds).shown.length ≤ sizeLine) : ∀ t ∈ PyData.shownAll ds, t.length ≤ sizeLine := fun t ht => by
  rw [PyData.shown] at h
  exact Nat.le_trans (tupleText_mem_le ht) h
mutual
theorem Dk.sh (I : Inv X pins σ H s) : ∀ {v : V} {d : PyData} {u : Value}, Dk X.K H v d → RelV v u → d.showable = true → d.shown.length ≤ sizeLine → Sh X.prog X.w s.heap u d
  | _, _, _, .non, r, _, _ => by
    cases r
    exact Sh.atom Reads.none (by rw [PyData.shown]; exact ReprIs.none)
  | _, _, _, .bl b, r, _, _ => by
    cases r
    exact Sh.atom (Reads.bool b) (by rw [PyData.shown]; exact ReprIs.bool b)
  | _, _, _, .int i, r, hs, _ => by
    obtain ⟨t, rfl⟩ := r
    exact Sh.atom (Reads.int i t) (by rw [PyData.shown]; exact ReprIs.int t (by simpa [PyData.showable] using hs))
  | _, _, _, .str x, r, _, hz => by
    obtain ⟨t, rfl⟩ := r
    exact Sh.atom (Reads.str x t) (by rw [PyData.shown]; exact ReprIs.str x t (by simpa only [PyData.shown] using hz))
  | _, _, _, .lst (ds := ds) h t, r, hs, hz => by
    cases r
    have hs' : PyData.showableAll ds = true := by simpa [PyData.showable] using hs
    obtain ⟨o, us, n, bs, ho, hc, hdat, rr, na, m, ⟨as, ra⟩, k⟩ := lst_sh (ds := ds) I h fun rv => DkS.sh I t rv hs' (szL hz)
    refine ⟨rr, _ :: bs, ReadAtMost.cons rr.choose_spec (by rw [PyData.depth]; omega) m, ?_⟩
    rw [PyData.depth, PyData.shown]
    cases us with
    | nil =>
      cases ra
      rw [PyData.shownAll, listText_nil]
      exact ReprK.listEmpty ho hc hdat
    | cons u0 ur => exact ReprK.list ho hc hdat na (by simpa using k.length_eq) fun i y e => k.item i y (by simpa using e)
  | _, _, _, .tup (ds := ds) h t, r, hs, hz => by
    cases r
    have hs' : PyData.showableAll ds = true := by simpa [PyData.showable] using hs
    obtain ⟨o, us, n, bs, ho, hc, hdat, rr, na, m, k⟩ := tup_sh (ds := ds) I h fun rv => DkS.sh I t rv hs' (szT hz)
    refine ⟨rr, _ :: bs, ReadAtMost.cons rr.choose_spec (by rw [PyData.depth]; omega) m, ?_⟩
    rw [PyData.depth, PyData.shown]
    exact ReprK.tuple ho hc hdat na k
  | _, _, _, .dct (ds := ds) h t, r, hs, hz => by
    cases r
    have hs' : PyData.showableKv ds = true := by simpa [PyData.showable] using hs
    have hz' : (dictText (PyData.shownKv ds)).length ≤ sizeLine := by simpa only [PyData.shown] using hz
    obtain ⟨hsm, o, es, ep, bs, ho, hc, hdat, rr, na, m, k⟩ := dct_sh I h t hs' hz' fun rv s2 z2 => DkV.sh I t rv s2 z2
    refine ⟨rr, _ :: bs, ReadAtMost.cons rr.choose_spec (by rw [PyData.depth]; omega) m, ?_⟩
    rw [PyData.depth, PyData.shown]
    exact ReprK.dict ho hc hdat hsm na k
theorem DkS.sh (I : Inv X pins σ H s) : ∀ {vs : List V} {ds : List PyData} {us : List Value}, DkS X.K H vs ds → Vals vs us → PyData.showableAll ds = true → (∀ t ∈ PyData.shownAll ds, t.length ≤ sizeLine) → ShS X.prog X.w s.heap us ds
  | _, _, _, .nil, r, _, _ => by
    cases r
    exact ShS.nil
  | _, _, _, .cons h t, r, hs, hz => by
    cases r with
    | cons r0 rr =>
      simp only [PyData.showableAll, Bool.and_eq_true, PyData.shownAll, List.mem_cons] at hs hz
      exact ShS.cons (Dk.sh I h r0 hs.1 (hz _ (.inl rfl))) (DkS.sh I t rr hs.2 fun y hy => hz y (.inr hy))
theorem DkV.sh (I : Inv X pins σ H s) : ∀ {vs : List (Key × V)} {ds : List (PyData × PyData)} {us : List Value}, DkV X.K H vs ds → Vals (vs.map (·.2)) us → PyData.showableAll (ds.map (·.2)) = true → (∀ t ∈ PyData.shownAll (ds.map (·.2)), t.length ≤ sizeLine) → ShS X.prog X.w s.heap us (ds.map (·.2))
  | _, _, _, .nil, r, _, _ => by
    cases r
    exact ShS.nil
  | _, _, _, .cons h t, r, hs, hz => by
    rw [List.map_cons] at r
    cases r with
    | cons r0 rr =>
      simp only [List.map_cons, PyData.showableAll, Bool.and_eq_true, PyData.shownAll, List.mem_cons] at hs hz
      rw [List.map_cons]
      exact ShS.cons (Dk.sh I h r0 hs.1 (hz _ (.inl rfl))) (DkV.sh I t rr hs.2 fun y hy => hz y (.inr hy))
end
end
end QL
end
section
set_option Elab.async false
set_option linter.all false
set_option maxRecDepth 100000
set_option maxHeartbeats 1000000
set_option autoImplicit false
/-! QReprK2: the rule of repr of data with dicts. -/
namespace QL
open PySem PySem.Spec L2 PyProof.Rows
open Classical
section
variable {X : Cx} {pins : List (Addr × Obj)} {σ : L2.St} {H : Hp} {s : Shared}
theorem Dk.show {a : Addr} {d : PyData} {Q : Value → Shared → Prop} {E : Value → Shared → Prop} (I : Inv X pins σ H s) (h : Dk X.K H (.ref a) d) (hs : d.showable = true) (hz : d.shown.length ≤ sizeLine) (hg : X.A.guards = some []) (hu : X.A.units + 64 < cLine) (dd : d.depth ≤ 60)
    (hQ : ∀ h' u tk, (∀ b o, s.heap.get? b = some o → h'.get? b = some o) → Q (.str d.shown u) { s with heap := h', toks := tk }) : wpAny (model X.prog X.w) X.A (call (.builtin "repr") [.ref a]) Q E s := by
  cases h with
  | lst h t =>
    rename_i vs ds
    have hs' : PyData.showableAll ds = true := by simpa [PyData.showable] using hs
    obtain ⟨o, us, n, bs, ho, hc, hdat, _, na, _, ⟨as, ra⟩, k⟩ := lst_sh (ds := ds) I h fun rv => DkS.sh I t rv hs' (szL hz)
    rw [PyData.depth] at dd
    rw [PyData.shown] at hz hQ
    refine call_repr_slot (T := "list") (by omega) ⟨o, ho, hc⟩ F.slot_list_repr.toG ?_
    cases us with
    | nil =>
      cases ra
      rw [PyData.shownAll, listText_nil] at hQ
      exact call_list_repr_empty ⟨o, ho, hc⟩ ho hdat ⟨_, _, rfl, hQ s.heap _ _ fun _ _ e => e⟩
    | cons u0 ur => exact call_list_reprK ho hc hdat na (by simpa using k.length_eq) (fun i y e => k.item i y (by simpa using e)) hg (fun b _ => Clear.nil b) (by show X.A.units + 1 + _ < cLine; omega) (fun _ _ e => e) (fun h' u tk hk => ⟨_, _, rfl, hQ h' u tk hk⟩) hz
  | tup h t =>
    rename_i vs ds
    have hs' : PyData.showableAll ds = true := by simpa [PyData.showable] using hs
    obtain ⟨o, us, n, bs, ho, hc, hdat, _, na, _, k⟩ := tup_sh (ds := ds) I h fun rv => DkS.sh I t rv hs' (szT hz)
    rw [PyData.depth] at dd
    rw [PyData.shown] at hz hQ
    refine call_repr_slot (T := "tuple") (by omega) ⟨o, ho, hc⟩ F.slot_tuple_repr ?_
    exact call_tuple_reprK ho hc hdat na k hg (fun b _ => Clear.nil b) (by show X.A.units + 1 + _ < cLine; omega) (fun _ _ e => e) (fun h' u tk hk => ⟨_, _, rfl, hQ h' u tk hk⟩) hz
  | dct h t =>
    rename_i vs ds
    have hs' : PyData.showableKv ds = true := by simpa [PyData.showable] using hs
    rw [PyData.depth] at dd
    rw [PyData.shown] at hz hQ
    obtain ⟨hsm, o, es, ep, bs, ho, hc, hdat, _, na, _, k⟩ := dct_sh I h t hs' hz fun rv s2 z2 => DkV.sh I t rv s2 z2
    refine call_repr_slot (T := "dict") (by omega) ⟨o, ho, hc⟩ F.slot_dict_repr ?_
    exact call_dict_reprK ho hc hdat hsm na k hg (fun b _ => Clear.nil b) (by show X.A.units + 1 + _ < cLine; omega) (fun _ _ e => e) (fun h' u tk hk => ⟨_, _, rfl, hQ h' u tk hk⟩) hz
end
def rReprK (K : PySem.W.Frag) : List V → Hp → VK → Prop := fun xs H Q => ∃ a d, xs = [.ref a] ∧ Dk K H (.ref a) d ∧ d.showable = true ∧ d.depth ≤ 60 ∧ d.shown.length ≤ sizeLine ∧ Q (.str d.shown) H
theorem call_reprKd {X : Cx} (hgd : X.A.guards = some []) (hu : X.A.units + 64 < cLine) : CallR X (.builtin "repr") (rReprK X.K) := by
  intro pins s σ H xs us Q I r h
  obtain ⟨a, d, rfl, dk, sh, dd, hz, q⟩ := h
  rw [Vals.ref1 r]
  exact Dk.show I dk sh hz hgd hu dd fun h' u tk hk => ⟨.str _, H, I.kept hk, ⟨u, rfl⟩, q⟩
/-! ### as data -/
mutual
def pyK : D → PyData
  | .non => .none
  | .bl b => .bool b
  | .int i => .int i
  | .str x => .str x
  | .tup ds => .tuple (pyKs ds)
  | .lst ds => .list (pyKs ds)
  | .dK kvs => .dict (pyKv kvs)
  | _ => .none
def pyKs : List D → List PyData
  | [] => []
  | d :: r => pyK d :: pyKs r
def pyKv : List (Key × D) → List (PyData × PyData)
  | [] => []
  | e :: r => pyK1 e :: pyKv r
def pyK1 : Key × D → PyData × PyData
  | (k, d) => (keyPy k, pyK d)
end
def okKey : Key → Bool
  | .inl i => decide (i.natAbs.log2 < 1920)
  | .inr x => PyData.strOk x
def wtKey : Key → Nat
  | .inl i => i.natAbs.log2 + 2
  | .inr x => 10 * x.length + 2
mutual
/-- data of depth at most n that can be shown -/
def okK : Nat → D → Bool
  | _, .non => true
  | _, .bl _ => true
  | _, .int i => decide (i.natAbs.log2 < 1920)
  | _, .str x => PyData.strOk x
  | n, .tup ds => match n with
    | 0 => false
    | n + 1 => okKs n ds
  | n, .lst ds => match n with
    | 0 => false
    | n + 1 => okKs n ds
  | n, .dK kvs => match n with
    | 0 => false
    | n + 1 => okKv n kvs
  | _, _ => false
def okKs : Nat → List D → Bool
  | _, [] => true
  | n, d :: r => okK n d && okKs n r
def okKv : Nat → List (Key × D) → Bool
  | _, [] => true
  | n, e :: r => okK1 n e && okKv n r
def okK1 : Nat → Key × D → Bool
  | n, (k, d) => okKey k && okK n d
end
mutual
def wtK : D → Nat
  | .non => 4
  | .bl _ => 5
  | .int i => i.natAbs.log2 + 2
  | .str x => 10 * x.length + 2
  | .tup ds => wtKs ds + 3
  | .lst ds => wtKs ds + 4
  | .dK kvs => wtKv kvs + 4
  | _ => 0
def wtKs : List D → Nat
  | [] => 0
  | d :: r => wtK d + 2 + wtKs r
def wtKv : List (Key × D) → Nat
  | [] => 0
  | e :: r => wtK1 e + 2 + wtKv r
def wtK1 : Key × D → Nat
  | (k, d) => wtKey k + 2 + wtK d
end
theorem str_len {x : Str} (h : PyData.strOk x = true) : (reprText x).length ≤ 10 * x.length + 2 := StrLaws.reprText_len x fun c hc => by
  unfold PyData.strOk at h
  have h2 := Array.all_eq_true'.mp h c (Array.mem_toList_iff.mp hc)
  have h3 : c < 0x110000 := of_decide_eq_true h2
  omega
theorem key_ok {k : Key} (h : okKey k = true) : (keyPy k).showable = true ∧ (keyPy k).depth = 0 ∧ (keyPy k).shown.length ≤ wtKey k := by
  cases k with
  | inl i =>
    refine ⟨by simpa [keyPy, PyData.showable, okKey] using h, rfl, ?_⟩
    simp only [keyPy, PyData.shown, wtKey]
    rw [PySem.ofString_length]
    exact int_text_length_le (a := i) (k := i.natAbs.log2 + 1) (by omega) (by omega)
  | inr x =>
    refine ⟨rfl, rfl, ?_⟩
    simp only [keyPy, PyData.shown, wtKey]
    exact str_len h
theorem dictText_le (ps : List Str) : (dictText ps).length ≤ piled ps + 4 := by
  have j : (Str.join ", " ps).length ≤ piled ps := by
    cases ps with
    | nil => exact Nat.zero_le _
    | cons t r =>
      have := join_length_add (t :: r) (by simp)
      omega
  have e : (dictText ps).length = 1 + (Str.join ", " ps).length + 1 := by
    unfold dictText
    rw [strLen_append, strLen_append]
    rfl
  omega
mutual
theorem okK_py : ∀ {n : Nat} {d : D}, okK n d = true → (pyK d).showable = true ∧ (pyK d).depth ≤ n ∧ (pyK d).shown.length ≤ wtK d
  | _, .non, _ => ⟨rfl, Nat.zero_le _, by simp only [pyK, PyData.shown, wtK]; decide⟩
  | _, .bl true, _ => ⟨rfl, Nat.zero_le _, by simp only [pyK, PyData.shown, wtK]; decide⟩
  | _, .bl false, _ => ⟨rfl, Nat.zero_le _, by simp only [pyK, PyData.shown, wtK]; decide⟩
  | _, .int i, h => by
    have k := key_ok (k := .inl i) h
    exact ⟨k.1, Nat.zero_le _, k.2.2⟩
  | _, .str x, h => by
    have k := key_ok (k := .inr x) h
    exact ⟨k.1, Nat.zero_le _, k.2.2⟩
  | 0, .tup _, h => by simp [okK] at h
  | n + 1, .tup ds, h => by
    have h' : okKs n ds = true := by simpa [okK] using h
    obtain ⟨a, b, c⟩ := okKs_py h'
    have e := tupleText_le (PyData.shownAll (pyKs ds))
    refine ⟨by simpa [pyK, PyData.showable] using a, ?_, ?_⟩
    · simp only [pyK, PyData.depth]; omega
    · simp only [pyK, PyData.shown, wtK]; omega
  | 0, .lst _, h => by simp [okK] at h
  | n + 1, .lst ds, h => by
    have h' : okKs n ds = true := by simpa [okK] using h
    obtain ⟨a, b, c⟩ := okKs_py h'
    have e := listText_le (PyData.shownAll (pyKs ds))
    refine ⟨by simpa [pyK, PyData.showable] using a, ?_, ?_⟩
    · simp only [pyK, PyData.depth]; omega
    · simp only [pyK, PyData.shown, wtK]; omega
  | 0, .dK _, h => by simp [okK] at h
  | n + 1, .dK kvs, h => by
    have h' : okKv n kvs = true := by simpa [okK] using h
    obtain ⟨a, b, c⟩ := okKv_py h'
    have e := dictText_le (PyData.shownKv (pyKv kvs))
    refine ⟨by simpa [pyK, PyData.showable] using a, ?_, ?_⟩
    · simp only [pyK, PyData.depth]; omega
    · simp only [pyK, PyData.shown, wtK]; omega
  | _, .ptr _, h => by simp [okK] at h
  | _, .raw _, h => by simp [okK] at h
  | _, .dT _, h => by simp [okK] at h
  | _, .obj _ _, h => by simp [okK] at h
  | _, .exc _ _ _ _, h => by simp [okK] at h
theorem okKs_py : ∀ {n : Nat} {ds : List D}, okKs n ds = true → PyData.showableAll (pyKs ds) = true ∧ PyData.depthAll (pyKs ds) ≤ n ∧ piled (PyData.shownAll (pyKs ds)) ≤ wtKs ds
  | _, [], _ => ⟨rfl, Nat.zero_le _, Nat.le_refl _⟩
  | n, d :: r, h => by
    have h' : okK n d = true ∧ okKs n r = true := by simpa [okKs] using h
    obtain ⟨a1, a2, a3⟩ := okK_py h'.1
    obtain ⟨b1, b2, b3⟩ := okKs_py h'.2
    refine ⟨by simp only [pyKs, PyData.showableAll, a1, b1, Bool.and_self], ?_, ?_⟩
    · simp only [pyKs, PyData.depthAll]; omega
    · simp only [pyKs, PyData.shownAll, wtKs]
      rw [piled_cons]
      omega
theorem okKv_py : ∀ {n : Nat} {kvs : List (Key × D)}, okKv n kvs = true → PyData.showableKv (pyKv kvs) = true ∧ PyData.depthKv (pyKv kvs) ≤ n ∧ piled (PyData.shownKv (pyKv kvs)) ≤ wtKv kvs
  | _, [], _ => ⟨rfl, Nat.zero_le _, Nat.le_refl _⟩
  | n, (k, d) :: r, h => by
    have h' : (okKey k = true ∧ okK n d = true) ∧ okKv n r = true := by simpa [okKv, okK1] using h
    obtain ⟨a1, a2, a3⟩ := okK_py h'.1.2
    obtain ⟨b1, b2, b3⟩ := okKv_py h'.2
    obtain ⟨k1, k2, k3⟩ := key_ok h'.1.1
    refine ⟨by simp only [pyKv, pyK1, PyData.showableKv, a1, b1, k1, Bool.and_self], ?_, ?_⟩
    · simp only [pyKv, pyK1, PyData.depthKv]; omega
    · simp only [pyKv, pyK1, PyData.shownKv, wtKv, wtK1]
      rw [piled_cons, strLen_append, strLen_append]
      have : ((": " : String) : Str).length = 2 := rfl
      omega
end
section
variable {c : Cn} {G : Gd} {H : Hp}
mutual
theorem DV.dk (z : Fz G.F H) : ∀ {n : Nat} {d : D} {v : V}, okK n d = true → DV c G d v → Dk c.K H v (pyK d)
  | _, .non, _, _, q => by rw [show _ = V.non from q, pyK]; exact .non
  | _, .bl b, _, _, q => by rw [show _ = V.bl b from q, pyK]; exact .bl b
  | _, .int b, _, _, q => by rw [show _ = V.int b from q, pyK]; exact .int b
  | _, .str b, _, _, q => by rw [show _ = V.str b from q, pyK]; exact .str b
  | 0, .tup ds, _, h, q => by simp [okK] at h
  | n + 1, .tup ds, _, h, q => by
    have h' : okKs n ds = true := by simpa [okK] using h
    obtain ⟨a, vs, rfl, s, t⟩ := q
    rw [pyK]
    exact .tup (.inl (.inl (z.tup s))) (DVs.dk z h' t)
  | 0, .lst ds, _, h, q => by simp [okK] at h
  | n + 1, .lst ds, _, h, q => by
    have h' : okKs n ds = true := by simpa [okK] using h
    obtain ⟨a, vs, rfl, s, t⟩ := q
    rw [pyK]
    exact .lst (z.sqL s) (DVs.dk z h' t)
  | 0, .dK kvs, _, h, q => by simp [okK] at h
  | n + 1, .dK kvs, _, h, q => by
    have h' : okKv n kvs = true := by simpa [okK] using h
    obtain ⟨a, vs, o, rfl, s, t⟩ := q
    rw [pyK]
    refine .dct (.inr ⟨o, ?_⟩) (DVk.dk z h' t)
    rcases z _ _ s with y | ⟨y, _⟩
    · exact y
    · cases y
  | _, .ptr _, _, h, _ => by simp [okK] at h
  | _, .raw _, _, h, _ => by simp [okK] at h
  | _, .dT _, _, h, _ => by simp [okK] at h
  | _, .obj _ _, _, h, _ => by simp [okK] at h
  | _, .exc _ _ _ _, _, h, _ => by simp [okK] at h
theorem DVs.dk (z : Fz G.F H) : ∀ {n : Nat} {ds : List D} {vs : List V}, okKs n ds = true → DVs c G ds vs → DkS c.K H vs (pyKs ds)
  | _, [], _, _, q => by rw [show _ = ([] : List V) from q, pyKs]; exact .nil
  | n, d :: r, _, h, q => by
    have h' : okK n d = true ∧ okKs n r = true := by simpa [okKs] using h
    obtain ⟨v, t, rfl, q1, q2⟩ := q
    rw [pyKs]
    exact .cons (DV.dk z h'.1 q1) (DVs.dk z h'.2 q2)
theorem DVk.dk (z : Fz G.F H) : ∀ {n : Nat} {ds : List (Key × D)} {vs : List (Key × V)}, okKv n ds = true → DVk c G ds vs → DkV c.K H vs (pyKv ds)
  | _, [], _, _, q => by rw [show _ = ([] : List (Key × V)) from q, pyKv]; exact .nil
  | n, (k, d) :: r, _, h, q => by
    have h' : (okKey k = true ∧ okK n d = true) ∧ okKv n r = true := by simpa [okKv, okK1] using h
    obtain ⟨⟨k', v⟩, t, rfl, ⟨q0, q1⟩, q2⟩ := q
    cases (show k' = k from q0)
    rw [pyKv, pyK1]
    exact .cons (DV.dk z h'.1.2 q1) (DVk.dk z h'.2 q2)
end
end
/-- what a place of the store holds, as data -/
def derK (M : Mem) (d : D) : D := match asL M d with
  | some ds => .lst ds
  | none => match asK M d with
    | some kvs => .dK kvs
    | none => d
def isRefK : D → Bool
  | .tup _ => true
  | .lst _ => true
  | .dK _ => true
  | _ => false
theorem derK_dk {c : Cn} {G : Gd} {H : Hp} {M : Mem} {d : D} {v : V} (r : Rep c G H M) (q : DV c G d v) (h : okK 60 (derK M d) = true) : Dk c.K H v (pyK (derK M d)) := by
  unfold derK at h ⊢
  cases e : asL M d with
  | some ds =>
    rw [e] at h
    simp only at h ⊢
    obtain ⟨a, vs, rfl, s, t⟩ := asL_at r q e
    rw [pyK]
    have h' : okKs 59 ds = true := by simpa [okK] using h
    exact .lst s (DVs.dk r.fz h' t)
  | none =>
    rw [e] at h
    simp only at h ⊢
    cases e2 : asK M d with
    | some kvs =>
      rw [e2] at h
      simp only at h ⊢
      obtain ⟨a, vs, rfl, s, t⟩ := asK_at r q e2
      rw [pyK]
      have h' : okKv 59 kvs = true := by simpa [okK] using h
      exact .dct s (DVk.dk r.fz h' t)
    | none =>
      rw [e2] at h
      exact DV.dk r.fz h q
theorem isRef_ref {c : Cn} {G : Gd} {H : Hp} {M : Mem} {d : D} {v : V} (r : Rep c G H M) (q : DV c G d v) (h : isRefK (derK M d) = true) : ∃ a, v = .ref a := by
  unfold derK at h
  cases e : asL M d with
  | some ds =>
    obtain ⟨a, vs, rfl, _⟩ := asL_at r q e
    exact ⟨a, rfl⟩
  | none =>
    rw [e] at h
    simp only at h
    cases e2 : asK M d with
    | some kvs =>
      obtain ⟨a, vs, rfl, _⟩ := asK_at r q e2
      exact ⟨a, rfl⟩
    | none =>
      rw [e2] at h
      cases d with
      | tup ds => obtain ⟨a, vs, rfl, _⟩ := q; exact ⟨a, rfl⟩
      | lst ds => obtain ⟨a, vs, rfl, _⟩ := q; exact ⟨a, rfl⟩
      | dK ds => obtain ⟨a, vs, o, rfl, _⟩ := q; exact ⟨a, rfl⟩
      | _ => cases h
/-- repr of data, dicts too -/
def bReprK (ds : List D) (M : Mem) : Res D := match ds with
  | [d] => if okK 60 (derK M d) = true ∧ wtK (derK M d) ≤ sizeLine ∧ isRefK (derK M d) = true then .ok (.str (pyK (derK M d)).shown) M else .bad
  | _ => .bad
theorem rc_reprK {c : Cn} : RCs c bReprK (rReprK c.K) := by
  intro W σ G H M vs ds Q r q p
  unfold bReprK at p
  split at p
  · split at p
    · rename_i d hz
      obtain ⟨h1, h2, h3⟩ := hz
      obtain ⟨v, t, rfl, q1, qt⟩ := q
      cases (show t = [] from qt)
      obtain ⟨a, rfl⟩ := isRef_ref r q1 h3
      obtain ⟨s1, s2, s3⟩ := okK_py h1
      exact ⟨a, pyK (derK M d), rfl, derK_dk r q1 h1, s1, s2, Nat.le_trans s3 h2, p G _ H (Gr.refl _) r rfl⟩
    · exact p.elim
  · exact p.elim
def bReprAK := orC bReprA bReprK
theorem qreprAK {X : Cx} {W : WX} {p pos : Pos} {e : Expr} {a : AF} (hgd : X.A.guards = some []) (hu : X.A.units + 64 < cLine) (hg : Gl X "repr") (hm : X.mg "repr" = none) (ha : QA X W [e] a) (he : starEach [e] X.env = (false, eval e X.env) :: starEach [] X.env := by rfl) (hpl : (backTo pos (starEach [] X.env)).any (·.1) = false := by rfl) :
    QE X W (.Call (.Name "repr" p) [e] [] pos) (eCall bReprAK a) := (qreprA hgd hu hg hm ha he hpl).call (q_cb (call_reprKd hgd hu) rc_reprK hg hm ha (by decide +kernel) (by decide) (by decide) he hpl)
end QL
end
section
set_option Elab.async false
set_option linter.all false
set_option maxRecDepth 100000
set_option maxHeartbeats 1000000
set_option autoImplicit false
/-! QIso: isinstance(x, T), T built in, x an object of the program's own too. -/
namespace QL
open PySem PySem.Spec L2
open Classical
def eIsO (os : List Str) (t : String) (e : EF) : EF := fun S M => (e S M).bind fun d M1 => match tyName M1 d with
  | some n => .ok (.bl (isTy n t)) M1
  | none => match d with
    | .obj n _ => if n ∈ os then .ok (.bl false) M1 else .bad
    | .dT _ => .ok (.bl (isTy "dict" t)) M1
    | _ => .bad
/-- what is known of own classes -/
def IsoC (K : PySem.W.Frag) (mg : Str → Option Value) (os : List Str) (ts : List String) : Prop := ∀ n ∈ os, mg n = some (.ref (adr mg n)) ∧ Cls K (adr mg n) ∧ PySem.W.findIn K (.ref (adr mg n)) "__class__" = some (some (.builtin "object.__class__")) ∧ PySem.W.specialIn K (.builtin "object.__class__") "__get__" = some (some (.builtin "getset_descriptor.__get__")) ∧ PySem.W.takesIn K (.builtin "object.__class__") = some true ∧ PySem.W.mroIn K (adr mg n) (.type "object") = some true ∧ ∀ t ∈ ts, PySem.W.kitOne K (.ref (adr mg n)) (.type t) = some false
section
variable {X : Cx} {W : WX} {e : Expr} {fe : EF} {p p2 pos : Pos} {t : Str} {T : String} {os : List Str} {ts : List String}
end
end QL
end
section
set_option Elab.async false
set_option linter.all false
set_option maxRecDepth 100000
set_option maxHeartbeats 1000000
set_option autoImplicit false
/-! QLen: str(n); a text times a number; a slice laid at a place of its own; len(o) by an own __len__. -/
namespace QL
open PySem PySem.Spec L2
open Classical
/-- str(n) -/
def bStrI (ds : List D) (M : Mem) : Res D := match ds with
  | [.int i] => if i.natAbs.log2 < 1920 then .ok (.str (toString i)) M else .bad
  | _ => .bad
theorem rc_strI {c : Cn} : RCs c bStrI (fun xs H Q => ∃ i, xs = [.int i] ∧ i.natAbs.log2 < 1920 ∧ Q (.str (toString i)) H) := by
  intro W σ G H M vs ds Q r q p
  unfold bStrI at p
  split at p
  · split at p
    · rename_i hz
      exact ⟨_, DVs.ints (ns := [_]) q, hz, p G _ H (Gr.refl _) r rfl⟩
    · exact p.elim
  · exact p.elim
section
variable {X : Cx} {W : WX} {p pos : Pos} {e : Expr} {a : AF}
theorem qstrI (hg : Gl X "str") (hm : X.mg "str" = none) (ha : QA X W [e] a) (he : starEach [e] X.env = (false, eval e X.env) :: starEach [] X.env := by rfl) (hpl : (backTo pos (starEach [] X.env)).any (·.1) = false := by rfl) :
    QE X W (.Call (.Name "str" p) [e] [] pos) (eCall bStrI a) := q_ct call_str_int rc_strI hg hm ha (by decide +kernel) (by decide) (by decide) he hpl
end
/-! ### a text times a number; xs * n -/
def fMulS (x y : D) (M : Mem) : Res D := match x, y with
  | .str z, .int n => if 0 ≤ n ∧ n ≤ 100 ∧ z.length ≤ 1000 then .ok (.str (Txt.mul z n)) M else .bad
  | _, _ => .bad
def rMulS : R2 := fun x y H Q => ∃ z n, x = .str z ∧ y = .int n ∧ MulOk z n ∧ Q (.str (Txt.mul z n)) H
section
variable {X : Cx} {W : WX} {p p2 pos : Pos} {a b : Expr} {fa fb : EF} {lo hi : Option Expr}
/-- a list's slice, at a place of its own -/
def fSlP (d : D) (lo hi : Option Int) (M : Mem) : Res D := match asL M d with
  | some ds => .ok (.ptr M.length) (M ++ [.lst (cutD ds lo hi)])
  | none => .bad
def eSlP (e : EF) (l h : OF) : EF := fun S M => (e S M).bind fun d M1 => (l S M1).bind fun lo M2 => (h S M2).bind fun hi M3 => fSlP d lo hi M3
end
/-! ### len(o), o an object with an own __len__ -/
theorem RoomG.in1 {n : Nat} {B : Around} (r : RoomG (n + 1) B) : RoomG n B.in1 := ⟨r.toRoom.in1, r.gd⟩
def eLenO (cl : Str) (g : List D → Mem → Res D) (e : EF) : EF := fun S M => (e S M).bind fun d M1 => match isObj cl d M1 with
  | some _ => match g [d] M1 with
    | .ok (.int n) M2 => if 0 ≤ n ∧ n < 2 ^ 63 then .ok (.int n) M2 else .bad
    | _ => .bad
  | none => .bad
section
variable {X : Cx} {W : WX} {p pos : Pos} {e : Expr} {fe : EF} {k : Nat} {ps : List Str} {g : List D → Mem → Res D} {cl : Str} {C f : Addr} {fd : FuncData}
/-- what len answers of an own __len__'s int -/
theorem len_ans {prog : Program} {w : World} {A : Around} {E : Value → Shared → Prop} {s : Shared} {K : PySem.W.Frag} {x : Addr} {ox : Obj} {od : Option Obj} {Q : Value → Shared → Prop} (X : K.In s.heap) (I : PySem.W.InstAt s.heap x ox C od)
    (hs : PySem.W.findIn K (.ref C) "__len__" = some (some (.ref f))) (hf : PySem.W.isFn K (.ref f) = true)
    (h : wpAny (model prog w) A.in1 (call (.ref f) [.ref x]) (fun r s1 => ∃ n u, r = Value.int n u ∧ (0 ≤ n ∧ n < 2 ^ 63) ∧ Q (.int n s1.toks) { s1 with toks := s1.toks + 1 }) E s) : wpAny (model prog w) A (call (.builtin "len") [.ref x]) Q E s := by
  refine Calls.call_function_entry kind_len plain_len entry_len (args_len1 _) ?_
  unfold Builtin.«len»
  refine wpAny_bind (m := oneArg "len" _) (wpAny_pure ?_)
  refine wpAny_bind (m := callSpecial? (.ref x) (Str.ofString "__len__")) (PySem.W.special_fn X I hs (beq_iff_eq.mp hf) (wpAny_mono h (fun r s1 hr => ?_) fun _ _ y => y))
  obtain ⟨n, u, rfl, ⟨h0, h1⟩, hq⟩ := hr
  refine wpAny_bind (wpAny_holding (wpAny_pure ?_))
  refine wpAny_bind (wpAny_letGo ?_)
  refine wpAny_ite_false (decide_eq_false (by omega)) ?_
  refine wpAny_ite_false (decide_eq_false (by omega)) ?_
  exact wpAny_bind (wpAny_mkInt (wpAny_pure ⟨_, rfl, hq⟩))
theorem call_lenO (ok : FnOkG X.prog X.w X.K X.mg X.base k f fd ps (spF (cn X) g)) (hm : Meth X.K C "__len__" f) (b : Binds X.K fd ps []) (hr : RoomG (k + 1) X.A) :
    CallR X (.builtin "len") (fun xs H Q => ∃ a dx ws, xs = [.ref a] ∧ H a = some (.ins C dx ws) ∧ spF (cn X) g [.ref a] H (fun v H1 => ∃ n, v = .int n ∧ (0 ≤ n ∧ n < 2 ^ 63) ∧ Q (.int n) H1) (fun _ _ _ => False)) := by
  intro pins s σ H xs us Q I r h
  obtain ⟨a, dx, ws, rfl, e, h⟩ := h
  rw [Vals.ref1 r]
  obtain ⟨mA, O, _⟩ := ins_get I.hok e
  obtain ⟨od, J, _⟩ := O.look
  refine len_ans I.kIn J hm.at_ hm.fn ?_
  have r1 : Vals [V.ref a] [Value.ref a] := .cons rfl .nil
  have bind0 := b s [.ref a] I.kIn (by rw [List.append_nil, ← r1.length]; exact ok.len _ _ _ _ h)
  rw [List.append_nil] at bind0
  have e0 : Env0 X.prog X.w X.K X.mg X.base X.A.in1 X.stack s H := ⟨I.env0.frames, I.env0.mod, I.env0.bs, I.env0.bsz, I.env0.funs, I.env0.frf, I.env0.hok, I.env0.bare⟩
  refine wpAny_call (codeAny_mono (ok.run X.A.in1 X.stack s H ⟨[.ref a], []⟩ [.ref a] [.ref a] _ _ hr.in1 e0 bind0 r1 h) fun res s1 z => ?_)
  match res, z with
  | .error err, z =>
    obtain ⟨_, _, _, _, _, _, _, _, _, _, _, _, hE⟩ := z
    exact hE.elim
  | .ok (.ret u), z =>
    obtain ⟨v, H1, I1, rv, n, rfl, hn, q⟩ := I.after z
    obtain ⟨t, rfl⟩ := rv
    exact ⟨n, t, rfl, hn, .int n, H1, I1.tok _, ⟨_, rfl⟩, q⟩
  | .ok .next, z => exact (show False from z).elim
  | .ok .brk, z => exact (show False from z).elim
  | .ok .cont, z => exact (show False from z).elim
theorem qlenO (F : HasM X.prog X.w X.K X.mg X.base k cl "__len__" ps g) (hC : X.mg cl = some (.ref C)) (hr : RoomG (k + 1) X.A) (hg : Gl X "len") (hm : X.mg "len" = none) (ho : QE X W e fe)
    (he : starEach [e] X.env = (false, eval e X.env) :: starEach [] X.env := by rfl) (hpl : (backTo pos (starEach [] X.env)).any (·.1) = false := by rfl) :
    QE X W (.Call (.Name "len" p) [e] [] pos) (eLenO cl g fe) := by
  obtain ⟨C1, f, fd, m1, hme, b, ok⟩ := F
  have eC : C1 = C := by
    rw [hC] at m1
    cases m1
    rfl
  subst eC
  refine PE.imp (pe_callB (call_lenO ok hme b hr) hg hm PySem.boot_len (pa_cons ho pa_nil he) (by decide) (by decide) he hpl) fun σ H Q h => ?_
  refine Up.imp (Up.bind h) fun v H1 ⟨G, S, d, M, r, s, q, p⟩ => ?_
  split at p
  · rename_i fs hfs
    obtain ⟨a, dx, ws, rfl, e1, e2⟩ := isObj_at r hC hfs q
    split at p
    · rename_i n M2 hgd
      split at p
      · rename_i hn
        refine ⟨a, dx, ws, rfl, e1, G, [d], M, r, DVs.one q, ?_⟩
        rw [hgd]
        exact fun G2 v2 H2 g2 r2 q2 => ⟨n, q2, hn, (show v2 = V.int n from q2) ▸ p G2 v2 H2 g2 r2 q2⟩
      · exact p.elim
    · exact p.elim
  · exact p.elim
end
end QL
end
section
set_option Elab.async false
set_option linter.all false
set_option maxRecDepth 100000
set_option maxHeartbeats 1000000
set_option autoImplicit false
/-! QFz: from here on the list that a name holds is taken as one that will not change any more. -/
namespace QL
open PySem PySem.Spec L2
open Classical
def kFz (i : Nat) (t : TF) : TF := fun S M => match S[i]? with
  | some (some (.ptr k)) => match M[k]? with
    | some (.lst ds) => t (S.set i (some (.lst ds))) (M.set k .gone)
    | _ => t S M
  | _ => t S M
end QL
end
section
set_option Elab.async false
set_option linter.all false
set_option maxRecDepth 100000
set_option maxHeartbeats 1000000
set_option autoImplicit false
/-! QPair: sorted(d), keys pairs of texts, any number of them. -/
/-! ### pairs of texts in order -/
namespace QP
open PySem PySem.W PyProof.Rows PySem.Spec
/-- (x, y) < (x', y') -/
def lt2S (p q : Str × Str) : Bool := if p.1 = q.1 then ltS p.2 q.2 else ltS p.1 q.1
/-- a pair as a row of parts -/
abbrev rowP (p : Str × Str) : List L2.Key := [.inr p.1, .inr p.2]
theorem lt2S_row (p q : Str × Str) : ltL (rowP p) (rowP q) = lt2S p q := by
  unfold lt2S
  by_cases a : p.1 = q.1
  · rw [if_pos a]
    show ltL (.inr p.1 :: _) (.inr q.1 :: _) = _
    rw [a, ltL_eq]
    by_cases b : p.2 = q.2
    · rw [b, ltL_irr, ltS_irr]
    · exact ltL_ne (fun z => b (Sum.inr.inj z)) [] []
  · rw [if_neg a]
    exact ltL_ne (fun z => a (Sum.inr.inj z)) _ _
theorem lt2S_asym (p q : Str × Str) (h : lt2S p q = true) : lt2S q p = false := by
  rw [← lt2S_row] at h ⊢
  exact ltL_asym h
theorem lt2S_tr (p q r : Str × Str) (h1 : lt2S q p = false) (h2 : lt2S r q = false) : lt2S r p = false := by
  rw [← lt2S_row] at h1 h2 ⊢
  exact ltL_tr h1 h2
theorem lt2S_conn {p q : Str × Str} (h1 : lt2S p q = false) (h2 : lt2S q p = false) : p = q := by
  rw [← lt2S_row] at h1 h2
  have e := ltL_conn h1 h2
  injection e with e1 e2
  injection e2 with e2
  exact Prod.ext (Sum.inr.inj e1) (Sum.inr.inj e2)
end QP
namespace L2
open PySem PySem.Spec PyProof.Rows
abbrev k2 (p : Str × Str) : List Key := [.inr p.1, .inr p.2]
/-- sorted(d), keys pairs of texts, any number of them -/
def rSortDT : List V → Hp → VK → Prop := fun xs H Q => ∃ (a : Addr) (kvs : List (List Key × V)) (ks : List (Str × Str)), xs = [.ref a] ∧ Rd H a (.dT kvs) ∧ kvs.map (·.1) = ks.map k2 ∧
  ∀ (L : List (Addr × Str × Str)) (p : Addr), (L.map (·.2)).Perm ks → L.Pairwise (fun q r => QP.lt2S r.2 q.2 = false) → (∀ q ∈ L, H q.1 = some (.tup [.str q.2.1, .str q.2.2])) → H p = none → Q (.ref p) (upd H p (.lst (L.map fun q => V.ref q.1)))
/-- the tuples that are a table's keys, in its order -/
theorem key_tups {H : Hp} {kvs : List (List Key × V)} {kx : List (List Key × Addr × Value)} {ks : List (Str × Str)} (kt : KT H kvs kx) (e : kvs.map (·.1) = ks.map k2) {j : Nat} {x : List Key × Addr × Value} (at1 : kx[j]? = some x) : ∃ p, ks[j]? = some p ∧ H x.2.1 = some (.tup ((k2 p).map kV)) := by
  obtain ⟨kv, at2, same⟩ := L2.DX.pget kt at1
  have at3 : (ks.map k2)[j]? = some kv.1 := by rw [← e, List.getElem?_map, at2]; rfl
  rw [List.getElem?_map] at at3
  obtain ⟨p, at4, ep⟩ := Option.map_eq_some_iff.mp at3
  exact ⟨p, at4, by rw [ep]; exact same.2.1⟩
theorem cr_sortedDT {X : Cx} (hc : X.calm = true) : CallR X (.builtin "sorted") rSortDT := by
  intro pins s σ H xs us Q I r q
  obtain ⟨a, kvs, ks, rfl, hd, hks, q⟩ := q
  obtain rfl := Vals.ref1 r
  obtain ⟨_, raw, kx, kt, o, es, ep, ho, hx, hdt, he, _⟩ := (show ObjOk X.prog X.w H s.heap a (.dT kvs) from hd.ok I.hok)
  have many : kx.length = ks.length := by
    have x := Paired.length kt
    have y := congrArg List.length hks
    rw [List.length_map, List.length_map] at y
    omega
  have lkx : es.size = kx.length := size_of_entries he
  have lkt : kvs.length = kx.length := Paired.length kt
  refine Calls.call_function_entry PyProof.Rows.kind_sorted PyProof.Rows.plain_sorted PyProof.Rows.entry_sorted (PyProof.Rows.args_sorted1 _) ?_
  unfold Builtin.«sorted»
  refine wpAny_bind (m := checkCount "sorted" 1 1 _) (wpAny_pure ?_)
  refine wpAny_bind (PySem.W.kdu_collect (A := X.A.in1) (kdl_raw raw hx hdt) (I.ok.hd hc) ho (by omega) fun h' tk acc keep it => ?_)
  -- what was gathered, place by place
  have place : ∀ {j : Nat} {v : Value}, acc.toList[j]? = some v → ∃ (b : Addr) (p : Str × Str), v = .ref b ∧ ks[j]? = some p ∧ H b = some (.tup ((k2 p).map kV)) := fun {j v} at1 => by
    obtain ⟨en, at2, rfl⟩ := it.2 j v (by rw [← Array.getElem?_toList]; exact at1)
    have at3 := entry_at he j
    rw [at2] at at3
    cases at4 : kx[j]? with
    | none => rw [at4] at at3; cases at3
    | some x =>
      rw [at4] at at3
      obtain ⟨p, at5, tracked⟩ := key_tups kt hks at4
      exact ⟨x.2.1, p, by rw [Option.some.inj at3]; rfl, at5, tracked⟩
  have len : acc.toList.length = ks.length := by rw [Array.length_toList, it.1]; omega
  have small : acc.toList.length ≤ sizeLine := by omega
  let key : Value → Str × Str := fun v => match H (DT.refOf (some v)) with
    | some (.tup [.str x, .str y]) => (x, y)
    | _ => (⟨#[]⟩, ⟨#[]⟩)
  have keyAt : ∀ {b : Addr} {p : Str × Str}, H b = some (.tup ((k2 p).map kV)) → key (.ref b) = p := fun {b p} e => by
    show (match H b with | some (.tup [.str x, .str y]) => (x, y) | _ => (⟨#[]⟩, ⟨#[]⟩)) = p
    rw [e]
    rfl
  have ofMem : ∀ {v : Value}, v ∈ acc.toList → ∃ b, v = .ref b ∧ H b = some (.tup ((k2 (key v)).map kV)) := fun m => by
    obtain ⟨j, at1⟩ := List.mem_iff_getElem?.mp m
    obtain ⟨b, p, rfl, _, e⟩ := place at1
    exact ⟨b, rfl, by rw [keyAt e]; exact e⟩
  have keys : acc.toList.map key = ks := by
    refine List.ext_getElem? fun j => ?_
    rw [List.getElem?_map]
    cases at1 : acc.toList[j]? with
    | none => rw [List.getElem?_eq_none (by rw [← len]; exact List.getElem?_eq_none_iff.mp at1)]; rfl
    | some v =>
      obtain ⟨b, p, rfl, at2, e⟩ := place at1
      rw [at2, ← keyAt e]
      rfl
  refine wpAny_bind (wpAny_newList ?_ small)
  have lay : (h'.push (seqObj "list" acc.toList.toArray 0)).get? h'.objs.size = some (seqObj "list" acc.toList.toArray 0) := Heap.get?_push_size _ rfl
  have old : ∀ {b : Addr} {u : Obj}, s.heap.get? b = some u → (h'.push (seqObj "list" acc.toList.toArray 0)).get? b = some u ∧ b ≠ h'.objs.size := fun {b u} e => ⟨Heap.get?_push_of_some _ (keep b u e), Nat.ne_of_lt (Heap.lt_size (keep b u e))⟩
  refine wpAny_bind (wpAny_holding (QP.call_sort_tups (s := { s with heap := h'.push (seqObj "list" acc.toList.toArray 0), toks := tk }) (k := fun v => k2 (key v)) lay small (fun v m => ?_) (fun _ _ _ _ => rfl) fun out srt stb => ?_))
  · obtain ⟨b, rfl, tracked⟩ := ofMem m
    obtain ⟨_, us, rv, o', ho', hc', n', hd'⟩ := I.hok _ _ tracked
    exact ⟨⟨b, us, rfl, rv, o', (old ho').1, hc', n', hd'⟩, rfl⟩
  · obtain ⟨n, new⟩ := PyProof.Rows.sortedHeap_at (vs := acc.toList) (out := out.toArray) lay
    have inAcc : ∀ {v : Value}, v ∈ out → ∃ b, v = .ref b ∧ H b = some (.tup ((k2 (key v)).map kV)) := fun m => ofMem (stb.perm.mem_iff.mp m)
    let L : List (Addr × Str × Str) := out.map fun v => (DT.refOf (some v), key v)
    have second : L.map (·.2) = out.map key := by rw [List.map_map]; rfl
    have back : out = L.map fun z => Value.ref z.1 := by
      rw [List.map_map]
      refine (List.map_id out).symm.trans (List.map_congr_left fun v m => ?_)
      obtain ⟨b, rfl, _⟩ := inAcc m
      rfl
    have rv : Vals (L.map fun z => V.ref z.1) out := by
      have x := vals_maps (fun z : Addr × Str × Str => V.ref z.1) (fun z => Value.ref z.1) L fun _ _ => rfl
      rwa [← back] at x
    have fits : (L.map fun z => V.ref z.1).length ≤ sizeLine := by
      rw [List.length_map, List.length_map, stb.perm.length_eq]
      exact small
    have I1 := (I.kept (t' := tk) keep).laid (h' := sortedHeap (h'.push (seqObj "list" acc.toList.toArray 0)) h'.objs.size acc.toList out.toArray) (t' := tk) (a := h'.objs.size) (o := .lst (L.map fun z => V.ref z.1)) (fun b u e => QP.sortedHeap_keep (Nat.ne_of_lt (Heap.lt_size e)) (Heap.get?_push_of_some _ e)) (Nat.le_refl _) ⟨fits, out, n, rv, new⟩
    refine wpAny_pure ⟨_, rfl, .ref h'.objs.size, _, I1, rfl, q L _ ?_ ?_ (fun z m => ?_) ((I.kept (t' := tk) keep).hok.fresh (Nat.le_refl _))⟩
    · rw [second, ← keys]
      exact stb.perm.map key
    · refine List.pairwise_map.mpr (srt.imp fun {v u} z => ?_)
      rw [← QP.lt2S_row]
      exact z
    · obtain ⟨v, mv, rfl⟩ := List.mem_map.mp m
      obtain ⟨b, rfl, e⟩ := inAcc mv
      exact e
end L2
namespace QL
open PySem PySem.Spec L2
open Classical
/-! ### a tuple found in the heap is a thing that will not change -/
section
variable {c : Cn} {G G' : Gd} {H H' : Hp} {M : Mem}
theorem Rep.tupF (r : Rep c G H M) {b : Addr} {vs : List V} (h : H b = some (.tup vs)) : Gr G { G with F := upd G.F b (.tup vs) } ∧ Rep c { G with F := upd G.F b (.tup vs) } H M := by
  have g : Gr G { G with F := upd G.F b (.tup vs) } := ⟨⟨fun a u e => by
    show upd G.F b (.tup vs) a = some u
    by_cases z : a = b
    · subst z
      rw [upd_same]
      rcases r.fz _ _ e with y | ⟨y1, o, y2⟩
      · rw [h] at y
        exact y
      · rw [h] at y2
        cases y2
    · rw [upd_ne z]; exact e, [], (List.append_nil _).symm⟩, rfl⟩
  refine ⟨g, fun a u e => ?_, r.len, r.nd, fun k mo a e1 e2 => (r.mem k mo a e1 e2).mono g, fun k mo a e1 e2 l => ?_, r.liv, fun q hq => ?_⟩
  · by_cases z : a = b
    · subst z
      have e' : upd G.F a (.tup vs) a = some u := e
      rw [upd_same] at e'
      cases e'
      exact .inl h
    · have e' : upd G.F b (.tup vs) a = some u := e
      rw [upd_ne z] at e'
      exact r.fz a u e'
  · have na : a ≠ b := fun z => by
      subst z
      have m := r.mem k mo a e1 e2
      cases mo with
      | lst ds => obtain ⟨ws, e, _⟩ := m; rw [h] at e; cases e
      | dK ds => obtain ⟨ws, e, _⟩ := m; rw [h] at e; cases e
      | dT ds => obtain ⟨ws, e, _⟩ := m; rw [h] at e; cases e
      | obj n fs => obtain ⟨C, dx, ws, e, _⟩ := m; rw [h] at e; cases e
      | lkK ds => cases l
      | lkT ds => cases l
      | wkT ds ep => obtain ⟨ws, o, e, _⟩ := m; rw [h] at e; cases e
      | wkK ds ep => obtain ⟨ws, o, e, _⟩ := m; rw [h] at e; cases e
      | gone => cases l
    show upd G.F b (.tup vs) a = none
    rw [upd_ne na]
    exact r.sep k mo a e1 e2 l
  · obtain ⟨h1, h2, h3⟩ := r.pin q hq
    have nq : q.1 ≠ b := fun z => by
      rw [z, h] at h1
      have e := Option.some.inj h1
      have h4 := h3.2
      rw [← e] at h4
      exact h4
    exact ⟨h1, by show upd G.F b (.tup vs) q.1 = none; rw [upd_ne nq]; exact h2, h3⟩
/-- a key of a dict with tuple keys, as data -/
def kTD (k : List Key) : D := .tup (k.map kD)
theorem kDs_V (G : Gd) : ∀ k : List Key, DVs c G (k.map kD) (k.map kV)
  | [] => rfl
  | x :: r => DVs.cons (kD_V x) (kDs_V G r)
theorem Rep.keyF (r : Rep c G H M) {b : Addr} {k : List Key} (h : H b = some (.tup (k.map kV))) : ∃ G', Gr G G' ∧ Rep c G' H M ∧ DV c G' (kTD k) (.ref b) := by
  obtain ⟨g, r'⟩ := r.tupF h
  exact ⟨_, g, r', b, _, rfl, upd_same, kDs_V _ k⟩
abbrev kT2 (p : Str × Str) : D := .tup [.str p.1, .str p.2]
theorem Rep.keysF : ∀ (L : List (Addr × Str × Str)) {G : Gd}, Rep c G H M → (∀ q ∈ L, H q.1 = some (.tup [.str q.2.1, .str q.2.2])) → ∃ G', Gr G G' ∧ Rep c G' H M ∧ DVs c G' (L.map fun q => kT2 q.2) (L.map fun q => V.ref q.1)
  | [], G, r, _ => ⟨G, Gr.refl _, r, rfl⟩
  | q :: L, G, r, h => by
    obtain ⟨G1, g1, r1, q1⟩ := r.keyF (k := [.inr q.2.1, .inr q.2.2]) (h q List.mem_cons_self)
    obtain ⟨G2, g2, r2, q2⟩ := Rep.keysF L r1 fun z hz => h z (List.mem_cons_of_mem _ hz)
    exact ⟨G2, g1.trans g2, r2, DVs.cons (q1.mono g2) q2⟩
end
/-! ### sorted(d), keys pairs of texts -/
def le2S (p q : Str × Str) : Bool := !QP.lt2S q p
theorem le2S_iff {p q : Str × Str} : le2S p q = true ↔ QP.lt2S q p = false := by
  unfold le2S
  cases QP.lt2S q p <;> simp
theorem le2S_trans (a b c : Str × Str) (h1 : le2S a b = true) (h2 : le2S b c = true) : le2S a c = true := le2S_iff.mpr (QP.lt2S_tr _ _ _ (le2S_iff.mp h1) (le2S_iff.mp h2))
theorem le2S_total (a b : Str × Str) : (le2S a b || le2S b a) = true := by
  rw [Bool.or_eq_true, le2S_iff, le2S_iff]
  cases h : QP.lt2S b a with
  | true => exact .inr (QP.lt2S_asym _ _ h)
  | false => exact .inl rfl
theorem le2S_anti {a b : Str × Str} (h1 : le2S a b = true) (h2 : le2S b a = true) : a = b := QP.lt2S_conn (le2S_iff.mp h2) (le2S_iff.mp h1)
def srt2 (l : List (Str × Str)) : List (Str × Str) := l.mergeSort le2S
theorem srt2_perm (l : List (Str × Str)) : (srt2 l).Perm l := List.mergeSort_perm _ _
theorem srt2_pw (l : List (Str × Str)) : (srt2 l).Pairwise fun a b => le2S a b = true := List.pairwise_mergeSort le2S_trans le2S_total l
theorem srt2_eq {l ys : List (Str × Str)} (hp : ys.Perm l) (hs : ys.Pairwise fun a b => le2S a b = true) : ys = srt2 l :=
  List.Perm.eq_of_pairwise (le := fun a b => le2S a b = true) (fun _ _ _ _ h1 h2 => le2S_anti h1 h2) hs (srt2_pw l) (hp.trans (srt2_perm l).symm)
def txt2s : List (List Key × D) → Option (List (Str × Str))
  | [] => some []
  | ([.inr x, .inr y], _) :: r => (txt2s r).map ((x, y) :: ·)
  | _ => none
theorem txt2s_eq : ∀ {kvs : List (List Key × D)} {ks : List (Str × Str)}, txt2s kvs = some ks → kvs.map (·.1) = ks.map k2
  | [], ks, h => by cases h; rfl
  | (k, d) :: r, ks, h => by
    unfold txt2s at h
    split at h
    · rename_i e
      cases e
    · rename_i x y d' r' e
      cases e
      cases e : txt2s r with
      | none => rw [e] at h; cases h
      | some t =>
        rw [e] at h
        cases h
        rw [List.map_cons, List.map_cons, txt2s_eq e]
    · cases h
/-- sorted(d) -/
def bSortT (ds : List D) (M : Mem) : Res D := match ds with
  | [d] => match asTt M d with
    | some kvs => match txt2s kvs with
      | some ns => .ok (.lst ((srt2 ns).map kT2)) M
      | none => .bad
    | none => .bad
  | _ => .bad
theorem rc_sortT {c : Cn} : RCs c bSortT rSortDT := by
  intro W σ G H M vs ds Q r q p
  unfold bSortT at p
  split at p
  · split at p
    · rename_i kvs hx
      split at p
      · rename_i ns hn
        obtain ⟨v, t, rfl, q1, rfl⟩ := q
        obtain ⟨a, us, rfl, s, t⟩ := asTt_at r q1 hx
        have hk : us.map (·.1) = ns.map k2 := by
          have go : ∀ {kvs : List (List Key × D)} {ws : List (List Key × V)}, Paired (KR c G) kvs ws → ws.map (·.1) = kvs.map (·.1) := by
            intro kvs ws h
            induction h with
            | nil => rfl
            | cons r t ih => rw [List.map_cons, List.map_cons, r.1, ih]
          rw [go t.pr, txt2s_eq hn]
        refine ⟨a, us, ns, rfl, s, hk, fun L p' hp hs ht hn' => ?_⟩
        obtain ⟨G1, g1, r1, q1⟩ := Rep.keysF L r ht
        have eL : (L.map fun q => kT2 q.2) = (srt2 ns).map kT2 := by
          rw [← srt2_eq hp (List.pairwise_map.mpr (hs.imp fun z => le2S_iff.mpr z)), List.map_map]
          rfl
        rw [eL] at q1
        have g2 := Gr.newF (o := .lst (L.map fun q => V.ref q.1)) (r1.fz.free hn')
        exact p _ _ _ (g1.trans g2) (r1.newF hn') ⟨p', _, rfl, .inl (.inl upd_same), q1.mono g2⟩
      · exact p.elim
    · exact p.elim
  · exact p.elim
section
variable {X : Cx} {W : WX} {p pos : Pos} {e : Expr} {a : AF}
theorem qsortT (hc : X.calm = true) (hg : Gl X "sorted") (hm : X.mg "sorted" = none) (ha : QA X W [e] a) (he : starEach [e] X.env = (false, eval e X.env) :: starEach [] X.env := by rfl) (hpl : (backTo pos (starEach [] X.env)).any (·.1) = false := by rfl) :
    QE X W (.Call (.Name "sorted" p) [e] [] pos) (eCall bSortT a) := q_cb (cr_sortedDT hc) rc_sortT hg hm ha (by decide +kernel) (by decide) (by decide) he hpl
def bSortB := orC bSortA bSortT
theorem qsortB (hc : X.calm = true) (hg : Gl X "sorted") (hm : X.mg "sorted" = none) (ha : QA X W [e] a) (he : starEach [e] X.env = (false, eval e X.env) :: starEach [] X.env := by rfl) (hpl : (backTo pos (starEach [] X.env)).any (·.1) = false := by rfl) :
    QE X W (.Call (.Name "sorted" p) [e] [] pos) (eCall bSortB a) := (qsortA hc hg hm ha he hpl).call (qsortT hc hg hm ha he hpl)
end
/-! ### for k in d, keys tuples, d a dict that will not change -/
def iKeysT (e : EF) : IF := fun S M => (e S M).bind fun d M1 => match d with
  | .dT kvs => .ok ⟨kvs.map fun kv => kTD kv.1, none⟩ M1
  | _ => .bad
section
variable {X : Cx} {W : WX} {tg l : Expr} {f : EF}
end
/-! ### a dict with tuple keys that will not change any more, and can still be read at its place -/
def frzT (d : D) (M : Mem) : Option (D × Mem) := match d with
  | .ptr k => match M[k]? with
    | some (.dT kvs) => some (.dT kvs, M.set k (.lkT kvs))
    | some (.lkT kvs) => some (.dT kvs, M)
    | _ => none
  | .dT kvs => some (.dT kvs, M)
  | _ => none
def eFrzT (e : EF) : EF := fun S M => (e S M).bind fun d M1 => match frzT d M1 with
  | some (d', M2) => .ok d' M2
  | none => .bad
end QL
end
section
set_option Elab.async false
set_option linter.all false
set_option maxRecDepth 100000
set_option maxHeartbeats 1000000
set_option autoImplicit false
/-! QMin: min and max of two texts. -/
namespace QP
open PySem
section
variable {prog : Program} {w : World} {A : Around} {E : Value → Shared → Prop} {s : Shared}
def sAt (a b : Str) (i : Nat) : Str := if i = 0 then a else b
theorem str_items {a b : Str} {t u : Tok} {i : Nat} {v : Value} (h : (#[Value.str a t, Value.str b u])[i]? = some v) : ∃ t', v = .str (sAt a b i) t' := by
  match i, h with
  | 0, h => exact ⟨t, by simpa [sAt] using h.symm⟩
  | 1, h => exact ⟨u, by simpa [sAt] using h.symm⟩
  | n + 2, h => simp at h
theorem cmp_strs_lt {a b : Str} {t u : Tok} : CmpOf prog w A .Lt (fun i v => (#[Value.str a t, Value.str b u])[i]? = some v) (fun i j => decide ((sAt a b i).cps.toList < (sAt a b j).cps.toList)) := fun i j vi vj s Q E hi hj h => by
  obtain ⟨t', rfl⟩ := str_items hi
  obtain ⟨u', rfl⟩ := str_items hj
  exact DT.rcLt_str _ _ _ _ _ _ _ _ _ _ h
theorem cmp_strs_gt {a b : Str} {t u : Tok} : CmpOf prog w A .Gt (fun i v => (#[Value.str a t, Value.str b u])[i]? = some v) (fun i j => decide ((sAt a b j).cps.toList < (sAt a b i).cps.toList)) := fun i j vi vj s Q E hi hj h => by
  obtain ⟨t', rfl⟩ := str_items hi
  obtain ⟨u', rfl⟩ := str_items hj
  exact (PySem.P.gt_str h : wpAny (model prog w) A (compareOp .Gt _ _) Q E s)
section
variable {h h' : Heap} {x y v : Value}
/-- the arguments of a call as min and max lay them down -/
abbrev two (x y : Value) : Obj := { cls := .type "tuple", data := .seq #[x, y] }
theorem two_laid : (h.push (two x y)).IsTuple h.objs.size #[x, y] := ⟨two x y, Heap.get?_push_size _ rfl, rfl, 0, rfl⟩
/-- who wins among two -/
theorem winner {bt : Nat → Nat → Bool} (q : (#[x, y] : Array Value)[argBest bt (2 - 1)]? = some v) : v = if bt 1 0 = true then y else x := by
  have e : argBest bt (2 - 1) = if bt 1 0 = true then 1 else 0 := rfl
  rw [e] at q
  by_cases b : bt 1 0 = true
  · rw [if_pos b] at q ⊢
    exact (Option.some.inj q).symm
  · rw [if_neg b] at q ⊢
    exact (Option.some.inj q).symm
variable {o1 o2 : Obj}
/-- two objects laid behind all others -/
theorem below_two {a : Nat} (m : a = (h.push o1).objs.size ∨ a = h.objs.size) : a < ((h.push o1).push o2).objs.size := by
  rw [Heap.size_push] at m ⊢
  rw [Heap.size_push]
  cases m with
  | inl e => exact e ▸ Nat.lt_succ_self _
  | inr e => exact e ▸ Nat.lt_succ_of_lt (Nat.lt_succ_self _)
theorem old_two (k : ∀ b o, b ∉ [(h.push o1).objs.size] → ((h.push o1).push o2).get? b = some o → h'.get? b = some o) (c : Addr) (o : Obj) (e : h.get? c = some o) : h'.get? c = some o := by
  exact k c o (fun m => Nat.lt_asymm (Heap.lt_size e) (by rw [List.eq_of_mem_singleton m, Heap.size_push]; exact Nat.lt_succ_self _)) (Heap.get?_push_of_some _ (Heap.get?_push_of_some _ e))
end
theorem min_two_strs {a b : Str} {t u : Tok} {Q : Value → Shared → Prop} (calm : A.handled = none)
    (q : ∀ h' tk, (∀ c o, s.heap.get? c = some o → h'.get? c = some o) → Q (if b.cps.toList < a.cps.toList then .str b u else .str a t) { s with heap := h', toks := tk }) :
    wpAny (model prog w) A (call (.builtin "min") [.str a t, .str b u]) Q E s :=
  call_min_two (wpAny_pyIter_tuple two_laid ⟨_, _, _, _, _, _, _, rfl, Walks.tuple (A := A.in1) calm _ _ (Nat.ne_of_lt (by rw [Heap.size_push]; omega)) _,
    ⟨⟨_, Heap.get?_push_size _ rfl, rfl, rfl⟩, two_laid.push _⟩, fun c m => below_two (by simpa using m), Nat.zero_lt_succ 1, cmp_strs_lt, fun v h' tk best k => by
      have won := winner best
      simp only [sAt, decide_eq_true_eq] at won
      rw [won]
      exact q h' tk (old_two k)⟩)
theorem max_two_strs {a b : Str} {t u : Tok} {Q : Value → Shared → Prop} (calm : A.handled = none)
    (q : ∀ h' tk, (∀ c o, s.heap.get? c = some o → h'.get? c = some o) → Q (if a.cps.toList < b.cps.toList then .str b u else .str a t) { s with heap := h', toks := tk }) :
    wpAny (model prog w) A (call (.builtin "max") [.str a t, .str b u]) Q E s :=
  call_max_two (wpAny_pyIter_tuple two_laid ⟨_, _, _, _, _, _, _, rfl, Walks.tuple (A := A.in1) calm _ _ (Nat.ne_of_lt (by rw [Heap.size_push]; omega)) _,
    ⟨⟨_, Heap.get?_push_size _ rfl, rfl, rfl⟩, two_laid.push _⟩, fun c m => below_two (by simpa using m), Nat.zero_lt_succ 1, cmp_strs_gt, fun v h' tk best k => by
      have won := winner best
      simp only [sAt, decide_eq_true_eq] at won
      rw [won]
      exact q h' tk (old_two k)⟩)
end
end QP
namespace QL
open PySem PySem.Spec L2
open Classical
/-- the lesser, the greater of two texts (the first one if they are alike) -/
def minS (a b : Str) : Str := if b.cps.toList < a.cps.toList then b else a
def maxS (a b : Str) : Str := if a.cps.toList < b.cps.toList then b else a
def bMinS (ds : List D) (M : Mem) : Res D := match ds with
  | [.str a, .str b] => .ok (.str (minS a b)) M
  | _ => .bad
def bMaxS (ds : List D) (M : Mem) : Res D := match ds with
  | [.str a, .str b] => .ok (.str (maxS a b)) M
  | _ => .bad
theorem call_minS {X : Cx} (hc : X.calm = true) : CallR X (.builtin "min") (fun xs H Q => ∃ a b, xs = [.str a, .str b] ∧ Q (.str (minS a b)) H) := by
  intro pins s σ H xs us Q I r h
  obtain ⟨i, j, rfl, q⟩ := h
  obtain ⟨u, w', rfl, ⟨t, rfl⟩, ⟨t', rfl⟩⟩ := vals2 r
  refine QP.min_two_strs (I.ok.hd hc) fun h' tk k => ⟨_, H, I.kept k, ?_, q⟩
  unfold minS
  by_cases hj : j.cps.toList < i.cps.toList
  · rw [if_pos hj, if_pos hj]; exact ⟨_, rfl⟩
  · rw [if_neg hj, if_neg hj]; exact ⟨_, rfl⟩
theorem call_maxS {X : Cx} (hc : X.calm = true) : CallR X (.builtin "max") (fun xs H Q => ∃ a b, xs = [.str a, .str b] ∧ Q (.str (maxS a b)) H) := by
  intro pins s σ H xs us Q I r h
  obtain ⟨i, j, rfl, q⟩ := h
  obtain ⟨u, w', rfl, ⟨t, rfl⟩, ⟨t', rfl⟩⟩ := vals2 r
  refine QP.max_two_strs (I.ok.hd hc) fun h' tk k => ⟨_, H, I.kept k, ?_, q⟩
  unfold maxS
  by_cases hj : i.cps.toList < j.cps.toList
  · rw [if_pos hj, if_pos hj]; exact ⟨_, rfl⟩
  · rw [if_neg hj, if_neg hj]; exact ⟨_, rfl⟩
section
variable {c : Cn}
theorem rc_minS : RCs c bMinS (fun xs H Q => ∃ a b, xs = [.str a, .str b] ∧ Q (.str (minS a b)) H) := by
  intro W σ G H M vs ds Q r q p
  unfold bMinS at p
  split at p
  · obtain ⟨v, t, rfl, q1, v2, t2, rfl, q2, rfl⟩ := q
    exact ⟨_, _, by rw [show v = _ from q1, show v2 = _ from q2], p G _ H (Gr.refl _) r rfl⟩
  · exact p.elim
theorem rc_maxS : RCs c bMaxS (fun xs H Q => ∃ a b, xs = [.str a, .str b] ∧ Q (.str (maxS a b)) H) := by
  intro W σ G H M vs ds Q r q p
  unfold bMaxS at p
  split at p
  · obtain ⟨v, t, rfl, q1, v2, t2, rfl, q2, rfl⟩ := q
    exact ⟨_, _, by rw [show v = _ from q1, show v2 = _ from q2], p G _ H (Gr.refl _) r rfl⟩
  · exact p.elim
end
section
variable {X : Cx} {W : WX} {p pos : Pos} {e1 e2' : Expr} {a : AF}
def bMin2A := orC bMin2 bMinS
def bMax2A := orC bMax2 bMaxS
theorem qmin2A (hc : X.calm = true) (hg : Gl X "min") (hm : X.mg "min" = none) (ha : QA X W [e1, e2'] a) (he : starEach [e1, e2'] X.env = (false, eval e1 X.env) :: starEach [e2'] X.env := by rfl) (hpl : (backTo pos (starEach [e2'] X.env)).any (·.1) = false := by rfl) :
    QE X W (.Call (.Name "min" p) [e1, e2'] [] pos) (eCall bMin2A a) := (qmin2 hc hg hm ha he hpl).call (q_cb (call_minS hc) rc_minS hg hm ha (by decide +kernel) (by decide) (by decide) he hpl)
theorem qmax2A (hc : X.calm = true) (hg : Gl X "max") (hm : X.mg "max" = none) (ha : QA X W [e1, e2'] a) (he : starEach [e1, e2'] X.env = (false, eval e1 X.env) :: starEach [e2'] X.env := by rfl) (hpl : (backTo pos (starEach [e2'] X.env)).any (·.1) = false := by rfl) :
    QE X W (.Call (.Name "max" p) [e1, e2'] [] pos) (eCall bMax2A a) := (qmax2 hc hg hm ha he hpl).call (q_cb (call_maxS hc) rc_maxS hg hm ha (by decide +kernel) (by decide) (by decide) he hpl)
end
end QL
end
section
set_option Elab.async false
set_option linter.all false
set_option maxRecDepth 100000
set_option maxHeartbeats 1000000
set_option autoImplicit false
/-! QDisp: {k: v}, k a tuple; its repr. -/
namespace L2
open PySem PySem.Spec PyProof.Rows
/-- {k: v}, k a tuple of ints and texts -/
def tDisp1T (tk tv : TE) : TE := fun σ H Q => ∀ p, H p = none → tk σ (upd H p (.dT [])) fun x H1 => tv σ H1 fun y H2 => H2 p = some (.dT []) ∧ ∃ (b : Addr) (ks : List Key), x = .ref b ∧ H2 b = some (.tup (ks.map kV)) ∧ Q (.ref p) (upd H2 p (.dT [(ks, y)]))
end L2
namespace QL
open PySem PySem.Spec L2 PyProof.Rows
open Classical
def eDisp1T (k v : EF) : EF := fun S M => match k S M with
  | .ok (.tup ds) M1 => match keysOf ds with
    | some key => match v S M1 with
      | .ok z M2 => .ok (.dT [(key, z)]) M2
      | _ => .bad
    | none => .bad
  | _ => .bad
/-! ### its repr -/
abbrev dsT (x y : Str) (i : Int) : List (PyData × PyData) := [(PyData.tuple [.str x, .str y], PyData.int i)]
theorem tdct_show {X : Cx} {pins : List (Addr × Obj)} {σ : L2.St} {H : Hp} {s : Shared} {a : Addr} {x y : Str} {i : Int} {Q : Value → Shared → Prop} {E : Value → Shared → Prop} (I : Inv X pins σ H s) (h : Rd H a (.dT [([.inr x, .inr y], .int i)]))
    (hs : (PyData.dict (dsT x y i)).showable = true) (hz : (PyData.dict (dsT x y i)).shown.length ≤ sizeLine) (hg : X.A.guards = some []) (hu : X.A.units + 64 < cLine)
    (hQ : ∀ h' u tk, (∀ b o, s.heap.get? b = some o → h'.get? b = some o) → Q (.str (PyData.dict (dsT x y i)).shown u) { s with heap := h', toks := tk }) : wpAny (model X.prog X.w) X.A (call (.builtin "repr") [.ref a]) Q E s := by
  obtain ⟨z, hsm, xs, rel, o, es, ep, ho, hx, hdat, he, _, _⟩ := dt_rd I.hok h
  have hs' : PyData.showableKv (dsT x y i) = true := by simpa [PyData.showable] using hs
  rw [PyData.shown] at hz hQ
  obtain ⟨s1, s2⟩ := PyData.showableKv_split _ hs'
  cases rel with
  | @cons p x1 ps qs h1 t =>
  cases t
  obtain ⟨e1, hb, ⟨t, hv⟩⟩ := h1
  obtain ⟨k1, b, val⟩ := x1
  have hb' : H b = some (.tup [.str x, .str y]) := hb
  have hv' : val = Value.int i t := hv
  subst hv'
  have K1 : ShS X.prog X.w s.heap (es.toList.map (·.key)) ((dsT x y i).map (·.1)) := by
    rw [he]
    have zt : (PyData.tuple [.str x, .str y]).shown.length ≤ sizeLine := by
      obtain ⟨p, hp, l⟩ := PyData.shownKv_key_le (dsT x y i) (PyData.tuple [.str x, .str y]).shown (by simp [PyData.shownAll])
      exact Nat.le_trans (Nat.le_trans l (dictText_mem_le hp)) hz
    exact ShS.cons (Dk.sh I (Dk.tup (.inl (.inl hb')) (.cons (.str x) (.cons (.str y) .nil))) rfl (by simpa [PyData.showableAll] using s1) zt) ShS.nil
  have K2 : ShS X.prog X.w s.heap (es.toList.map (·.val)) ((dsT x y i).map (·.2)) := by
    rw [he]
    exact ShS.cons (Sh.atom (Reads.int i t) (by rw [PyData.shown]; exact ReprIs.int t (by simpa [PyData.showableAll, PyData.showable] using s2))) ShS.nil
  obtain ⟨⟨as1, r1⟩, b1, m1, j1⟩ := K1
  obtain ⟨⟨as2, r2⟩, b2, m2, j2⟩ := K2
  have rr : Reads s.heap (.ref a) (.dict (dsT x y i)) _ := Reads.dict ho hx.1 hdat r1 r2
  obtain ⟨d1, d2⟩ := depth_kv (dsT x y i)
  have mm : ReadAtMost s.heap (PyData.depthKv (dsT x y i)) (b1 ++ b2) := ReadAtMost.append (m1.mono d1) (m2.mono d2)
  have k : ReprEntriesK X.prog X.w (b1 ++ b2) s.heap (PyData.depthKv (dsT x y i)) es.toList (PyData.shownKv (dsT x y i)) := by
    rw [PyData.shownKv_eq]
    exact ReprEntriesK.of_two _ _ _ (j1.more_le (fun y hy => List.mem_append.mpr (.inl hy)) d1) (j2.more_le (fun y hy => List.mem_append.mpr (.inr hy)) d2)
  have na : a ∉ b1 ++ b2 := not_mem_of_deeper rr (by rw [PyData.depth]; omega) mm
  have dep : PyData.depthKv (dsT x y i) ≤ 2 := by simp [PyData.depthKv, PyData.depth, PyData.depthAll]
  refine call_repr_slot (T := "dict") (by omega) ⟨o, ho, hx.1⟩ F.slot_dict_repr ?_
  exact call_dict_reprK ho hx.1 hdat hsm na k hg (fun b _ => Clear.nil b) (by show X.A.units + 1 + _ < cLine; omega) (fun _ _ e => e) (fun h' u tk hk => ⟨_, _, rfl, hQ h' u tk hk⟩) hz
def rReprT : List V → Hp → VK → Prop := fun xs H Q => ∃ a x y i, xs = [.ref a] ∧ Rd H a (.dT [([.inr x, .inr y], .int i)]) ∧ (PyData.dict (dsT x y i)).showable = true ∧ (PyData.dict (dsT x y i)).shown.length ≤ sizeLine ∧ Q (.str (PyData.dict (dsT x y i)).shown) H
theorem call_reprT {X : Cx} (hgd : X.A.guards = some []) (hu : X.A.units + 64 < cLine) : CallR X (.builtin "repr") rReprT := by
  intro pins s σ H xs us Q I r h
  obtain ⟨a, x, y, i, rfl, hd, sh, hz, q⟩ := h
  rw [Vals.ref1 r]
  exact tdct_show I hd sh hz hgd hu fun h' u tk hk => ⟨.str _, H, I.kept hk, ⟨u, rfl⟩, q⟩
/-- a dict of one pair of texts and an int can be shown -/
def okT (x y : Str) (i : Int) : Bool := okK 5 (kT2 (x, y)) && okK 5 (.int i) && decide (wtK (kT2 (x, y)) + wtK (.int i) + 20 ≤ sizeLine)
theorem okT_py {x y : Str} {i : Int} (h : okT x y i = true) : (PyData.dict (dsT x y i)).showable = true ∧ (PyData.dict (dsT x y i)).shown.length ≤ sizeLine := by
  unfold okT at h
  rw [Bool.and_eq_true, Bool.and_eq_true, decide_eq_true_eq] at h
  obtain ⟨⟨h1, h2⟩, h3⟩ := h
  obtain ⟨a1, a2, a3⟩ := okK_py h1
  obtain ⟨b1, b2, b3⟩ := okK_py h2
  simp only [pyK, pyKs] at a1 a2 a3 b1 b2 b3
  refine ⟨by simp only [PyData.showable, PyData.showableKv] at *; simp [a1, b1, dsT, PyData.showableKv, PyData.showable], ?_⟩
  have e := dictText_le (PyData.shownKv (dsT x y i))
  rw [PyData.shown]
  refine Nat.le_trans e ?_
  simp only [PyData.shownKv]
  rw [piled_cons, strLen_append, strLen_append]
  have e2 : ((": " : String) : Str).length = 2 := rfl
  have e3 : piled [] = 0 := rfl
  omega
def bReprT (ds : List D) (M : Mem) : Res D := match ds with
  | [.dT [([.inr x, .inr y], .int i)]] => if okT x y i = true then .ok (.str (PyData.dict (dsT x y i)).shown) M else .bad
  | _ => .bad
theorem rc_reprT {c : Cn} : RCs c bReprT rReprT := by
  intro W σ G H M vs ds Q r q p
  unfold bReprT at p
  split at p
  · rename_i x y i
    split at p
    · rename_i hz
      obtain ⟨s1, s2⟩ := okT_py hz
      obtain ⟨v, t, rfl, q1, qt⟩ := q
      cases (show t = [] from qt)
      obtain ⟨a, us, rfl, rd, q2⟩ := asTt_at r q1 (show asTt M (.dT [([.inr x, .inr y], .int i)]) = some _ from rfl)
      obtain ⟨⟨k', w⟩, t', rfl, ⟨e1, e2⟩, e3⟩ := q2
      cases (show t' = [] from e3)
      cases (show k' = _ from e1)
      cases (show w = V.int i from e2)
      exact ⟨a, x, y, i, rfl, rd, s1, s2, p G _ H (Gr.refl _) r rfl⟩
    · exact p.elim
  · exact p.elim
def bReprB := orC bReprAK bReprT
theorem qreprB {X : Cx} {W : WX} {p pos : Pos} {e : Expr} {a : AF} (hgd : X.A.guards = some []) (hu : X.A.units + 64 < cLine) (hg : Gl X "repr") (hm : X.mg "repr" = none) (ha : QA X W [e] a) (he : starEach [e] X.env = (false, eval e X.env) :: starEach [] X.env := by rfl) (hpl : (backTo pos (starEach [] X.env)).any (·.1) = false := by rfl) :
    QE X W (.Call (.Name "repr" p) [e] [] pos) (eCall bReprB a) := (qreprAK hgd hu hg hm ha he hpl).call (q_cb (call_reprT hgd hu) rc_reprT hg hm ha (by decide +kernel) (by decide) (by decide) he hpl)
end QL
end
section
set_option Elab.async false
set_option linter.all false
set_option maxRecDepth 100000
set_option maxHeartbeats 4000000
set_option autoImplicit false
/-! QWp: what must hold ahead of a plain function so that its outcome keeps Q; equations, step by step. -/
namespace QL
open PySem PySem.Spec L2
open Classical
abbrev QQ (α : Type) := α → Mem → Prop
abbrev XQ := Ex → Mem → Prop
def wp {α : Type} (r : Res α) (Q : QQ α) (E : XQ) : Prop := match r with
  | .ok a M => Q a M
  | .rz x M => E x M
  | .bad => False
structure Po where
  nx : Sl → Mem → Prop
  rt : D → Mem → Prop
  bk : Sl → Mem → Prop
  ct : Sl → Mem → Prop
  rz : Ex → Sl → Mem → Prop
def swp (r : SR) (P : Po) : Prop := match r with
  | .nx S M => P.nx S M
  | .rt d M => P.rt d M
  | .bk S M => P.bk S M
  | .ct S M => P.ct S M
  | .rz x S M => P.rz x S M
  | .bad => False
def Po.ez (P : Po) (S : Sl) : XQ := fun x M => P.rz x S M
section
variable {α β : Type} {a b o v i' fo fi e : EF} {S S' : Sl} {M M1 M2 : Mem} {d x y z : D} {X : Ex} {t u : TF} {p q : BF} {g : GF} {ar : AF} {F : List D → Mem → Res D} {ds : List D} {n m : Nat} {Q : QQ D} {QB : QQ Bool} {QL' : QQ (List D)} {QS' : QQ Sl} {E : XQ} {P : Po} {f f2 : D → D → Mem → Res D}
theorem wp_ok {a : α} {Q : QQ α} : wp (.ok a M) Q E = Q a M := (rfl)
theorem wp_rz {Q : QQ α} : wp (.rz X M) Q E = E X M := (rfl)
theorem wp_bind {r : Res α} {k : α → Mem → Res β} {Q : QQ β} : wp (r.bind k) Q E = wp r (fun a M => wp (k a M) Q E) E := by cases r <;> rfl
theorem wp_imp {r : Res α} {Q Q' : QQ α} {E' : XQ} (h : wp r Q E) (hq : ∀ a M, Q a M → Q' a M) (he : ∀ x M, E x M → E' x M) : wp r Q' E' := by
  cases r with
  | ok a M => exact hq _ _ h
  | rz x M => exact he _ _ h
  | bad => exact h
theorem wp_ex {r : Res α} {Q : QQ α} (h : wp r Q fun _ _ => False) : ∃ a M, r = .ok a M ∧ Q a M := by
  cases r with
  | ok a M => exact ⟨a, M, rfl, h⟩
  | rz x M => exact h.elim
  | bad => exact h.elim
theorem swp_nx : swp (.nx S M) P = P.nx S M := (rfl)
theorem swp_rt : swp (.rt d M) P = P.rt d M := (rfl)
theorem swp_bk : swp (.bk S M) P = P.bk S M := (rfl)
theorem swp_ct : swp (.ct S M) P = P.ct S M := (rfl)
theorem swp_rz : swp (.rz X S M) P = P.rz X S M := (rfl)
theorem swp_thnR {r : Res α} {k : α → Mem → SR} : swp (r.thn S k) P = wp r (fun a M => swp (k a M) P) (P.ez S) := by cases r <;> rfl
def Po.sq (P : Po) (u : TF) : Po := { P with nx := fun S M => swp (u S M) P }
theorem swp_thn {r : SR} : swp (r.thn u) P = swp r (P.sq u) := by cases r <;> rfl
theorem sq_nx : (P.sq u).nx S M = swp (u S M) P := (rfl)
theorem sq_rt : (P.sq u).rt d M = P.rt d M := (rfl)
theorem sq_bk : (P.sq u).bk S M = P.bk S M := (rfl)
theorem sq_ct : (P.sq u).ct S M = P.ct S M := (rfl)
theorem sq_rz : (P.sq u).rz X S M = P.rz X S M := (rfl)
theorem sq_ez : (P.sq u).ez S = P.ez S := (rfl)
theorem swp_imp {r : SR} {P' : Po} (h : swp r P) (h1 : ∀ S M, P.nx S M → P'.nx S M) (h2 : ∀ d M, P.rt d M → P'.rt d M) (h3 : ∀ S M, P.bk S M → P'.bk S M) (h4 : ∀ S M, P.ct S M → P'.ct S M) (h5 : ∀ x S M, P.rz x S M → P'.rz x S M) : swp r P' := by
  cases r with
  | nx S M => exact h1 _ _ h
  | rt S M => exact h2 _ _ h
  | bk S M => exact h3 _ _ h
  | ct S M => exact h4 _ _ h
  | rz x S M => exact h5 _ _ _ h
  | bad => exact h
/-! ### expressions -/
def wv (o : Option (Option D)) (M : Mem) (Q : QQ D) : Prop := match o with
  | some (some d) => Q d M
  | _ => False
theorem wv_some : wv (some (some d)) M Q = Q d M := (rfl)
theorem w_eVar {i : Nat} : wp (eVar i S M) Q E = wv (S[i]?) M Q := by
  unfold eVar
  rcases S[i]? with _ | _ | d <;> rfl
theorem w_eC : wp (eC d S M) Q E = Q d M := (rfl)
theorem w_aNil : wp (aNil S M) QL' E = QL' [] M := (rfl)
def Kc2 (d : D) (Q : QQ (List D)) : QQ (List D) := fun ds M => Q (d :: ds) M
theorem Kc2_ap : Kc2 d QL' ds M = QL' (d :: ds) M := (rfl)
def Kc1 (ar : AF) (S : Sl) (Q : QQ (List D)) (E : XQ) : QQ D := fun d M => wp (ar S M) (Kc2 d Q) E
theorem Kc1_ap : Kc1 ar S QL' E d M = wp (ar S M) (Kc2 d QL') E := (rfl)
theorem w_aCons : wp (aCons a ar S M) QL' E = wp (a S M) (Kc1 ar S QL' E) E := by
  unfold aCons; rw [wp_bind]; congr 1; funext d M1; rw [wp_bind]; rfl
def Kcl (F : List D → Mem → Res D) (Q : QQ D) (E : XQ) : QQ (List D) := fun ds M => wp (F ds M) Q E
theorem Kcl_ap : Kcl F Q E ds M = wp (F ds M) Q E := (rfl)
theorem w_eCall : wp (eCall F ar S M) Q E = wp (ar S M) (Kcl F Q E) E := by unfold eCall; rw [wp_bind]; rfl
def Ktu (Q : QQ D) : QQ (List D) := fun ds M => ds.length ≤ sizeLine ∧ Q (.tup ds) M
theorem w_eTup : wp (eTup ar S M) Q E = wp (ar S M) (Ktu Q) E := by
  unfold eTup; rw [wp_bind]; congr 1; funext d M1
  by_cases h : d.length ≤ sizeLine
  · rw [if_pos h]; exact propext ⟨fun z => ⟨h, z⟩, fun z => z.2⟩
  · rw [if_neg h]; exact propext ⟨fun z => z.elim, fun z => absurd z.1 h⟩
theorem Ktu_ok (h : ds.length ≤ 64) : Ktu Q ds M = Q (.tup ds) M := propext ⟨fun z => z.2, fun z => ⟨small h, z⟩⟩
theorem Ktu_0 : Ktu Q [] M = Q (.tup []) M := Ktu_ok (by decide)
theorem Ktu_1 {d1 : D} : Ktu Q [d1] M = Q (.tup [d1]) M := Ktu_ok (by show 1 ≤ 64; decide)
theorem Ktu_2 {d1 d2 : D} : Ktu Q [d1, d2] M = Q (.tup [d1, d2]) M := Ktu_ok (by show 2 ≤ 64; decide)
theorem Ktu_3 {d1 d2 d3 : D} : Ktu Q [d1, d2, d3] M = Q (.tup [d1, d2, d3]) M := Ktu_ok (by show 3 ≤ 64; decide)
theorem Ktu_4 {d1 d2 d3 d4 : D} : Ktu Q [d1, d2, d3, d4] M = Q (.tup [d1, d2, d3, d4]) M := Ktu_ok (by show 4 ≤ 64; decide)
def Kls (Q : QQ D) : QQ (List D) := fun ds M => ds.length ≤ sizeLine ∧ Q (.lst ds) M
theorem w_eLst : wp (eLst ar S M) Q E = wp (ar S M) (Kls Q) E := by
  unfold eLst; rw [wp_bind]; congr 1; funext d M1
  by_cases h : d.length ≤ sizeLine
  · rw [if_pos h]; exact propext ⟨fun z => ⟨h, z⟩, fun z => z.2⟩
  · rw [if_neg h]; exact propext ⟨fun z => z.elim, fun z => absurd z.1 h⟩
theorem Kls_ok (h : ds.length ≤ 64) : Kls Q ds M = Q (.lst ds) M := propext ⟨fun z => z.2, fun z => ⟨small h, z⟩⟩
section
variable {d1 d2 d3 d4 d5 d6 d7 d8 d9 da db dc : D}
theorem Kls_0 : Kls Q [] M = Q (.lst []) M := Kls_ok (by decide)
theorem Kls_1 : Kls Q [d1] M = Q (.lst [d1]) M := Kls_ok (by show 1 ≤ 64; decide)
theorem Kls_2 : Kls Q [d1, d2] M = Q (.lst [d1, d2]) M := Kls_ok (by show 2 ≤ 64; decide)
theorem Kls_3 : Kls Q [d1, d2, d3] M = Q (.lst [d1, d2, d3]) M := Kls_ok (by show 3 ≤ 64; decide)
theorem Kls_4 : Kls Q [d1, d2, d3, d4] M = Q (.lst [d1, d2, d3, d4]) M := Kls_ok (by show 4 ≤ 64; decide)
theorem Kls_5 : Kls Q [d1, d2, d3, d4, d5] M = Q (.lst [d1, d2, d3, d4, d5]) M := Kls_ok (by show 5 ≤ 64; decide)
theorem Kls_6 : Kls Q [d1, d2, d3, d4, d5, d6] M = Q (.lst [d1, d2, d3, d4, d5, d6]) M := Kls_ok (by show 6 ≤ 64; decide)
theorem Kls_7 : Kls Q [d1, d2, d3, d4, d5, d6, d7] M = Q (.lst [d1, d2, d3, d4, d5, d6, d7]) M := Kls_ok (by show 7 ≤ 64; decide)
theorem Kls_8 : Kls Q [d1, d2, d3, d4, d5, d6, d7, d8] M = Q (.lst [d1, d2, d3, d4, d5, d6, d7, d8]) M := Kls_ok (by show 8 ≤ 64; decide)
theorem Kls_9 : Kls Q [d1, d2, d3, d4, d5, d6, d7, d8, d9] M = Q (.lst [d1, d2, d3, d4, d5, d6, d7, d8, d9]) M := Kls_ok (by show 9 ≤ 64; decide)
end
def Klp (Q : QQ D) : QQ (List D) := fun ds M => ds.length ≤ sizeLine ∧ Q (.ptr M.length) (M ++ [.lst ds])
theorem w_eLstP : wp (eLstP ar S M) Q E = wp (ar S M) (Klp Q) E := by
  unfold eLstP; rw [wp_bind]; congr 1; funext d M1
  by_cases h : d.length ≤ sizeLine
  · rw [if_pos h]; exact propext ⟨fun z => ⟨h, z⟩, fun z => z.2⟩
  · rw [if_neg h]; exact propext ⟨fun z => z.elim, fun z => absurd z.1 h⟩
theorem Klp_ok (h : ds.length ≤ 64) : Klp Q ds M = Q (.ptr M.length) (M ++ [.lst ds]) := propext ⟨fun z => z.2, fun z => ⟨small h, z⟩⟩
theorem Klp_0 : Klp Q [] M = Q (.ptr M.length) (M ++ [.lst []]) := Klp_ok (by decide)
theorem Klp_1 {d1 : D} : Klp Q [d1] M = Q (.ptr M.length) (M ++ [.lst [d1]]) := Klp_ok (by show 1 ≤ 64; decide)
theorem Klp_2 {d1 d2 : D} : Klp Q [d1, d2] M = Q (.ptr M.length) (M ++ [.lst [d1, d2]]) := Klp_ok (by show 2 ≤ 64; decide)
def K2b (f : D → D → Mem → Res D) (b : EF) (S : Sl) (Q : QQ D) (E : XQ) : QQ D := fun x M => wp (b S M) (fun y M => wp (f x y M) Q E) E
def K2c (f : D → D → Mem → Res D) (x : D) (Q : QQ D) (E : XQ) : QQ D := fun y M => wp (f x y M) Q E
theorem K2c_ap : K2c f x Q E y M = wp (f x y M) Q E := (rfl)
theorem K2b_ap : K2b f b S Q E x M = wp (b S M) (K2c f x Q E) E := (rfl)
theorem w_e2 : wp (e2 f a b S M) Q E = wp (a S M) (K2b f b S Q E) E := by
  unfold e2; rw [wp_bind]; congr 1; funext d M1; rw [wp_bind]; rfl
/-- a < b < c -/
def K3d (f2 : D → D → Mem → Res D) (e : EF) (y : D) (S : Sl) (Q : QQ D) (E : XQ) : QQ D := fun z M => match z with
  | .bl true => wp (e S M) (fun u M4 => wp (f2 y u M4) Q E) E
  | .bl false => Q (.bl false) M
  | _ => False
theorem K3d_t : K3d f2 e y S Q E (.bl true) M = wp (e S M) (K2c f2 y Q E) E := (rfl)
theorem K3d_f : K3d f2 e y S Q E (.bl false) M = Q (.bl false) M := (rfl)
def K3c (f f2 : D → D → Mem → Res D) (e : EF) (x : D) (S : Sl) (Q : QQ D) (E : XQ) : QQ D := fun y M => wp (f x y M) (K3d f2 e y S Q E) E
theorem K3c_ap : K3c f f2 e x S Q E y M = wp (f x y M) (K3d f2 e y S Q E) E := (rfl)
def K3b (f f2 : D → D → Mem → Res D) (b e : EF) (S : Sl) (Q : QQ D) (E : XQ) : QQ D := fun x M => wp (b S M) (K3c f f2 e x S Q E) E
theorem K3b_ap : K3b f f2 b e S Q E x M = wp (b S M) (K3c f f2 e x S Q E) E := (rfl)
theorem w_e3 : wp (e3 f f2 a b e S M) Q E = wp (a S M) (K3b f f2 b e S Q E) E := by
  unfold e3; rw [wp_bind]; congr 1; funext x M1; rw [wp_bind]; unfold K3b; congr 1; funext y M2; rw [wp_bind]; unfold K3c; congr 1; funext z M3
  cases z with
  | bl k => cases k with
    | true => show wp (Res.bind _ _) Q E = _; rw [wp_bind]; rfl
    | false => rfl
  | _ => rfl
/-! ### tests -/
def KbV (Q : QQ Bool) : QQ D := fun x M => match x with
  | .bl b => Q b M
  | _ => False
theorem KbV_ap {k : Bool} : KbV QB (.bl k) M = QB k M := (rfl)
theorem w_bV : wp (bV a S M) QB E = wp (a S M) (KbV QB) E := by
  unfold bV; rw [wp_bind]; congr 1; funext d M1; cases d <;> rfl
def Kno (Q : QQ Bool) : QQ Bool := fun x M => Q (!x) M
theorem Kno_ap {k : Bool} : Kno QB k M = QB (!k) M := (rfl)
theorem w_bNot : wp (bNot p S M) QB E = wp (p S M) (Kno QB) E := by unfold bNot; rw [wp_bind]; rfl
def Kan (q : BF) (S : Sl) (Q : QQ Bool) (E : XQ) : QQ Bool := fun x M => if x = true then wp (q S M) Q E else Q false M
theorem Kan_t : Kan q S QB E true M = wp (q S M) QB E := (rfl)
theorem Kan_f : Kan q S QB E false M = QB false M := (rfl)
theorem w_bAnd : wp (bAnd p q S M) QB E = wp (p S M) (Kan q S QB E) E := by
  unfold bAnd; rw [wp_bind]; congr 1; funext x M1; cases x <;> rfl
def Kor (q : BF) (S : Sl) (Q : QQ Bool) (E : XQ) : QQ Bool := fun x M => if x = true then Q true M else wp (q S M) Q E
theorem Kor_t : Kor q S QB E true M = QB true M := (rfl)
theorem Kor_f : Kor q S QB E false M = wp (q S M) QB E := (rfl)
theorem w_bOr : wp (bOr p q S M) QB E = wp (p S M) (Kor q S QB E) E := by
  unfold bOr; rw [wp_bind]; congr 1; funext x M1; cases x <;> rfl
theorem w_bYes : wp (bYes S M) QB E = QB true M := (rfl)
def Ken (Q : QQ D) : QQ D := fun x M => match x with
  | .bl b => Q (.bl (!b)) M
  | _ => False
theorem Ken_ap {k : Bool} : Ken Q (.bl k) M = Q (.bl (!k)) M := (rfl)
theorem w_eNot : wp (eNot a S M) Q E = wp (a S M) (Ken Q) E := by
  unfold eNot; rw [wp_bind]; congr 1; funext d M1; cases d <;> rfl
def Kea (b : EF) (S : Sl) (Q : QQ D) (E : XQ) : QQ D := fun x M => match x with
  | .bl true => wp (b S M) Q E
  | .bl false => Q (.bl false) M
  | _ => False
theorem Kea_t : Kea b S Q E (.bl true) M = wp (b S M) Q E := (rfl)
theorem Kea_f : Kea b S Q E (.bl false) M = Q (.bl false) M := (rfl)
theorem w_eAnd : wp (eAnd a b S M) Q E = wp (a S M) (Kea b S Q E) E := by
  unfold eAnd; rw [wp_bind]; congr 1; funext d M1
  cases d with
  | bl k => cases k <;> rfl
  | _ => rfl
def Keo (b : EF) (S : Sl) (Q : QQ D) (E : XQ) : QQ D := fun x M => match x with
  | .bl true => Q (.bl true) M
  | .bl false => wp (b S M) Q E
  | _ => False
theorem Keo_t : Keo b S Q E (.bl true) M = Q (.bl true) M := (rfl)
theorem Keo_f : Keo b S Q E (.bl false) M = wp (b S M) Q E := (rfl)
theorem w_eOr : wp (eOr a b S M) Q E = wp (a S M) (Keo b S Q E) E := by
  unfold eOr; rw [wp_bind]; congr 1; funext d M1
  cases d with
  | bl k => cases k <;> rfl
  | _ => rfl
def Kei (a b : EF) (S : Sl) (Q : QQ D) (E : XQ) : QQ Bool := fun x M => if x = true then wp (a S M) Q E else wp (b S M) Q E
theorem Kei_t : Kei a b S Q E true M = wp (a S M) Q E := (rfl)
theorem Kei_f : Kei a b S Q E false M = wp (b S M) Q E := (rfl)
theorem w_eIf : wp (eIf p a b S M) Q E = wp (p S M) (Kei a b S Q E) E := by
  unfold eIf; rw [wp_bind]; congr 1; funext x M1; cases x <;> rfl
def Kne (Q : QQ D) : QQ D := fun x M => match x with
  | .int i => Q (.int (-i)) M
  | _ => False
/-! ### statements -/
theorem w_kNil : swp (kNil S M) P = P.nx S M := (rfl)
theorem w_kSeq : swp (kSeq t u S M) P = swp (t S M) (P.sq u) := by unfold kSeq; rw [swp_thn]
theorem w_kRet : swp (kRet a S M) P = wp (a S M) P.rt (P.ez S) := by unfold kRet; rw [swp_thnR]; rfl
theorem w_kRetN : swp (kRetN S M) P = P.rt .non M := (rfl)
def Kdr (S : Sl) (P : Po) : QQ D := fun _ M => P.nx S M
theorem Kdr_ap : Kdr S P d M = P.nx S M := (rfl)
theorem w_kDrop : swp (kDrop a S M) P = wp (a S M) (Kdr S P) (P.ez S) := by unfold kDrop; rw [swp_thnR]; rfl
def Kif (t u : TF) (S : Sl) (P : Po) : QQ Bool := fun x M => if x = true then swp (t S M) P else swp (u S M) P
theorem Kif_t : Kif t u S P true M = swp (t S M) P := (rfl)
theorem Kif_f : Kif t u S P false M = swp (u S M) P := (rfl)
theorem w_kIf : swp (kIf p t u S M) P = wp (p S M) (Kif t u S P) (P.ez S) := by
  unfold kIf; rw [swp_thnR]; congr 1; funext x M1; cases x <;> rfl
theorem w_kBreak : swp (kBreak S M) P = P.bk S M := (rfl)
theorem w_kCont : swp (kCont S M) P = P.ct S M := (rfl)
def Kas (g : GF) (S : Sl) (P : Po) : QQ D := fun d M => wp (g d S M) P.nx (P.ez S)
theorem Kas_ap : Kas g S P d M = wp (g d S M) P.nx (P.ez S) := (rfl)
theorem w_kAsg : swp (kAsg a g S M) P = wp (a S M) (Kas g S P) (P.ez S) := by
  unfold kAsg; rw [swp_thnR]; congr 1; funext d M1; rw [swp_thnR]; rfl
theorem w_gN {i : Nat} : wp (gN i d S M) QS' E = QS' (S.set i (some d)) M := (rfl)
theorem w_gNil : wp (gNilF [] S M) QS' E = QS' S M := (rfl)
def Kgc (r : GsF) (ds : List D) (Q : QQ Sl) (E : XQ) : QQ Sl := fun S M => wp (r ds S M) Q E
theorem Kgc_ap {r : GsF} : Kgc r ds QS' E S M = wp (r ds S M) QS' E := (rfl)
theorem w_gCons {r : GsF} : wp (gConsF g r (d :: ds) S M) QS' E = wp (g d S M) (Kgc r ds QS' E) E := by
  show wp (Res.bind _ _) _ _ = _; rw [wp_bind]; rfl
theorem w_gTup {r : GsF} (h : ds.length = n) : wp (gTupF n r (.tup ds) S M) QS' E = wp (r ds S M) QS' E := by
  show wp (if ds.length = n then _ else _) _ _ = _; rw [if_pos h]
theorem w_gTup2 {r : GsF} {d1 d2 : D} : wp (gTupF 2 r (.tup [d1, d2]) S M) QS' E = wp (r [d1, d2] S M) QS' E := w_gTup rfl
theorem w_gTup3 {r : GsF} {d1 d2 d3 : D} : wp (gTupF 3 r (.tup [d1, d2, d3]) S M) QS' E = wp (r [d1, d2, d3] S M) QS' E := w_gTup rfl
def wls (o : Option Mem) (S : Sl) (Q : QQ Sl) : Prop := match o with
  | some M => Q S M
  | none => False
theorem wls_some : wls (some M) S QS' = QS' S M := (rfl)
def Ks2 (x d : D) (S : Sl) (Q : QQ Sl) : QQ D := fun y M => wls (lset x y d M) S Q
theorem Ks2_ap : Ks2 x d S QS' y M = wls (lset x y d M) S QS' := (rfl)
def Ks1 (fi : EF) (d : D) (S : Sl) (Q : QQ Sl) (E : XQ) : QQ D := fun x M => wp (fi S M) (Ks2 x d S Q) E
theorem Ks1_ap : Ks1 fi d S QS' E x M = wp (fi S M) (Ks2 x d S QS') E := (rfl)
theorem w_gSubL : wp (gSubL fo fi d S M) QS' E = wp (fo S M) (Ks1 fi d S QS' E) E := by
  unfold gSubL; rw [wp_bind]; congr 1; funext x M1; rw [wp_bind]; unfold Ks1; congr 1; funext y M2
  unfold Ks2
  cases lset x y d M2 <;> rfl
def Kpr (i j : Nat) (S : Sl) (P : Po) : QQ (List D) := fun ds M => match ds with
  | [d, e] => P.nx ((S.set i (some d)).set j (some e)) M
  | _ => False
theorem Kpr_ap {i j : Nat} : Kpr i j S P [x, y] M = P.nx ((S.set i (some x)).set j (some y)) M := (rfl)
theorem w_kPar {i j : Nat} : swp (kPar i j ar S M) P = wp (ar S M) (Kpr i j S P) (P.ez S) := by
  unfold kPar; rw [swp_thnR]; congr 1; funext ds M1
  match ds with
  | [] => rfl
  | [_] => rfl
  | [_, _] => rfl
  | _ :: _ :: _ :: _ => rfl
/-- x op= e -/
def Kau (i : Nat) (a : Int) (op : Int → Int → Int) (S : Sl) (P : Po) : QQ D := fun d M => match d with
  | .int b => P.nx (S.set i (some (.int (op a b)))) M
  | _ => False
theorem Kau_ap {i : Nat} {a b : Int} {op : Int → Int → Int} : Kau i a op S P (.int b) M = P.nx (S.set i (some (.int (op a b)))) M := (rfl)
def wau (o : Option (Option D)) (i : Nat) (e : EF) (op : Int → Int → Int) (S : Sl) (M : Mem) (P : Po) : Prop := match o with
  | some (some (.int a)) => wp (e S M) (Kau i a op S P) (P.ez S)
  | _ => False
theorem wau_i {i : Nat} {a : Int} {op : Int → Int → Int} : wau (some (some (.int a))) i e op S M P = wp (e S M) (Kau i a op S P) (P.ez S) := (rfl)
theorem w_kAug {i : Nat} {op : Int → Int → Int} : swp (kAug i e op S M) P = wau (S[i]?) i e op S M P := by
  unfold kAug
  rcases h : S[i]? with _ | _ | d
  · rfl
  · rfl
  · cases d with
    | int a =>
      show swp (Res.thn _ _ _) P = _
      rw [swp_thnR]
      show _ = wp _ _ _
      congr 1; funext d M1; cases d <;> rfl
    | _ => rfl
/-- d[k] = v -/
def wdp (o : Option Mem) (S : Sl) (P : Po) : Prop := match o with
  | some M => P.nx S M
  | none => False
theorem wdp_some : wdp (some M) S P = P.nx S M := (rfl)
def Kd3 (d dv : D) (S : Sl) (P : Po) : QQ D := fun y M => match d with
  | .ptr k => wdp (dput k y dv M) S P
  | _ => False
theorem Kd3_ap {k : Nat} {dv : D} : Kd3 (.ptr k) dv S P y M = wdp (dput k y dv M) S P := (rfl)
def Kd2 (fi : EF) (dv : D) (S : Sl) (P : Po) : QQ D := fun d M => wp (fi S M) (Kd3 d dv S P) (P.ez S)
theorem Kd2_ap {dv : D} : Kd2 fi dv S P d M = wp (fi S M) (Kd3 d dv S P) (P.ez S) := (rfl)
def Kd1 (fo fi : EF) (S : Sl) (P : Po) : QQ D := fun dv M => wp (fo S M) (Kd2 fi dv S P) (P.ez S)
theorem Kd1_ap {dv : D} : Kd1 fo fi S P dv M = wp (fo S M) (Kd2 fi dv S P) (P.ez S) := (rfl)
theorem w_kDPut : swp (kDPut fo fi v S M) P = wp (v S M) (Kd1 fo fi S P) (P.ez S) := by
  unfold kDPut; rw [swp_thnR]; congr 1; funext dv M1; rw [swp_thnR]; unfold Kd1; congr 1; funext d M2; rw [swp_thnR]; unfold Kd2; congr 1; funext y M3
  unfold Kd3
  cases d with
  | ptr k => show swp (match dput k y dv M3 with | some M4 => SR.nx S M4 | none => .bad) P = wdp _ _ _; cases dput k y dv M3 <;> rfl
  | _ => rfl
/-- d[k] op= v -/
def Kg4 (d y : D) (a : Int) (op : Int → Int → Int) (S : Sl) (P : Po) : QQ D := fun w M => match d, w with
  | .ptr k, .int b => wdp (dput k y (.int (op a b)) M) S P
  | _, _ => False
theorem Kg4_ap {k : Nat} {a b : Int} {op : Int → Int → Int} : Kg4 (.ptr k) y a op S P (.int b) M = wdp (dput k y (.int (op a b)) M) S P := (rfl)
def wlk (o : Option (Option D)) (d y : D) (v : EF) (op : Int → Int → Int) (S : Sl) (M : Mem) (P : Po) : Prop := match o with
  | some (some (.int a)) => wp (v S M) (Kg4 d y a op S P) (P.ez S)
  | _ => False
theorem wlk_i {a : Int} {op : Int → Int → Int} : wlk (some (some (.int a))) d y v op S M P = wp (v S M) (Kg4 d y a op S P) (P.ez S) := (rfl)
def Kg2 (d : D) (v : EF) (op : Int → Int → Int) (S : Sl) (P : Po) : QQ D := fun y M => match d with
  | .ptr k => wlk (look M (.ptr k) y) (.ptr k) y v op S M P
  | _ => False
theorem Kg2_ap {k : Nat} {op : Int → Int → Int} : Kg2 (.ptr k) v op S P y M = wlk (look M (.ptr k) y) (.ptr k) y v op S M P := (rfl)
def Kg1 (fi v : EF) (op : Int → Int → Int) (S : Sl) (P : Po) : QQ D := fun d M => wp (fi S M) (Kg2 d v op S P) (P.ez S)
theorem Kg1_ap {op : Int → Int → Int} : Kg1 fi v op S P d M = wp (fi S M) (Kg2 d v op S P) (P.ez S) := (rfl)
theorem w_kDAug {op : Int → Int → Int} : swp (kDAug fo fi v op S M) P = wp (fo S M) (Kg1 fi v op S P) (P.ez S) := by
  unfold kDAug; rw [swp_thnR]; congr 1; funext d M1; rw [swp_thnR]; unfold Kg1; congr 1; funext y M2
  unfold Kg2
  cases d with
  | ptr k =>
    show swp (match look M2 (.ptr k) y with | some (some (.int a)) => _ | _ => SR.bad) P = wlk _ _ _ _ _ _ _ _
    rcases look M2 (.ptr k) y with _ | _ | z
    · rfl
    · rfl
    · cases z with
      | int a =>
        show swp (Res.thn _ _ _) P = wp _ _ _
        rw [swp_thnR]
        congr 1; funext w M3
        cases w with
        | int b => show swp (match dput k y (.int (op a b)) M3 with | some M4 => SR.nx S M4 | none => .bad) P = wdp _ _ _; cases dput k y (.int (op a b)) M3 <;> rfl
        | _ => rfl
      | _ => rfl
  | _ => rfl
/-! ### slices -/
theorem w_oNone {Q : QQ (Option Int)} : wp (oNone S M) Q E = Q none M := (rfl)
def Kso (Q : QQ (Option Int)) : QQ D := fun d M => match d with
  | .int i => Q (some i) M
  | _ => False
theorem Kso_ap {i : Int} {Q : QQ (Option Int)} : Kso Q (.int i) M = Q (some i) M := (rfl)
theorem w_oSome {Q : QQ (Option Int)} : wp (oSome e S M) Q E = wp (e S M) (Kso Q) E := by
  unfold oSome; rw [wp_bind]; congr 1; funext d M1; cases d <;> rfl
def Kl3 (d : D) (lo : Option Int) (Q : QQ D) (E : XQ) : QQ (Option Int) := fun hi M => wp (fSl d lo hi M) Q E
theorem Kl3_ap {lo hi : Option Int} : Kl3 d lo Q E hi M = wp (fSl d lo hi M) Q E := (rfl)
def Kl2 (d : D) (h : OF) (S : Sl) (Q : QQ D) (E : XQ) : QQ (Option Int) := fun lo M => wp (h S M) (Kl3 d lo Q E) E
theorem Kl2_ap {h : OF} {lo : Option Int} : Kl2 d h S Q E lo M = wp (h S M) (Kl3 d lo Q E) E := (rfl)
def Kl1 (l h : OF) (S : Sl) (Q : QQ D) (E : XQ) : QQ D := fun d M => wp (l S M) (Kl2 d h S Q E) E
theorem Kl1_ap {l h : OF} : Kl1 l h S Q E d M = wp (l S M) (Kl2 d h S Q E) E := (rfl)
theorem w_eSl {l h : OF} : wp (eSl e l h S M) Q E = wp (e S M) (Kl1 l h S Q E) E := by
  unfold eSl; rw [wp_bind]; congr 1; funext d M1; rw [wp_bind]; unfold Kl1; congr 1; funext lo M2; rw [wp_bind]; rfl
/-! ### fields and methods -/
def wfl (o : Option (List (Str × D))) (f : Str) (M : Mem) (Q : QQ D) : Prop := match o with
  | some fs => match fs.lookup f with
    | some y => Q y M
    | none => False
  | none => False
def Kfl (cl f : Str) (Q : QQ D) : QQ D := fun d M => wfl (isObj cl d M) f M Q
theorem Kfl_at {cl fd : Str} {fs : List (Str × D)} (ho : isObj cl d M = some fs) (hf : fs.lookup fd = some y) : Kfl cl fd Q d M = Q y M := by
  unfold Kfl wfl; rw [ho]; simp only [hf]
theorem Kfl_1 {cl fd : Str} : Kfl cl fd Q (.obj cl [(fd, y)]) M = Q y M := Kfl_at (fs := [(fd, y)]) (by simp [isObj]) (by simp)
theorem w_eFld {cl f : Str} : wp (eFld cl f e S M) Q E = wp (e S M) (Kfl cl f Q) E := by
  unfold eFld; rw [wp_bind]; congr 1; funext d M1; unfold Kfl
  rcases isObj cl d M1 with _ | fs
  · rfl
  · show wp (match fs.lookup f with | some y => Res.ok y M1 | none => .bad) Q E = wfl (some fs) f M1 Q
    unfold wfl
    simp only
    cases fs.lookup f <;> rfl
def wme (o : Option (List (Str × D))) (m : Str) (F : List D → Mem → Res D) (d : D) (ar : AF) (S : Sl) (M : Mem) (Q : QQ D) (E : XQ) : Prop := match o with
  | some fs => fs.lookup m = none ∧ wp (ar S M) (Kc2 d (Kcl F Q E)) E
  | none => False
def Kme (cl m : Str) (F : List D → Mem → Res D) (ar : AF) (S : Sl) (Q : QQ D) (E : XQ) : QQ D := fun d M => wme (isObj cl d M) m F d ar S M Q E
theorem w_eMeth {cl m : Str} : wp (eMeth cl m F e ar S M) Q E = wp (e S M) (Kme cl m F ar S Q E) E := by
  unfold eMeth; rw [wp_bind]; congr 1; funext d M1; unfold Kme
  rcases isObj cl d M1 with _ | fs
  · rfl
  · show wp (if fs.lookup m = none then _ else Res.bad) Q E = wme (some fs) m F d ar S M1 Q E
    unfold wme
    simp only
    by_cases h : fs.lookup m = none
    · rw [if_pos h, wp_bind]
      exact propext ⟨fun z => ⟨h, z⟩, fun z => z.2⟩
    · rw [if_neg h]
      exact propext ⟨fun z => z.elim, fun z => absurd z.1 h⟩
theorem Kme_at {cl m : Str} {fs : List (Str × D)} (ho : isObj cl d M = some fs) (hf : fs.lookup m = none) : Kme cl m F ar S Q E d M = wp (ar S M) (Kc2 d (Kcl F Q E)) E := by
  unfold Kme wme; rw [ho]; exact propext ⟨fun z => z.2, fun z => ⟨hf, z⟩⟩
theorem Kme_1 {cl m fd : Str} (h : (m == fd) = false) : Kme cl m F ar S Q E (.obj cl [(fd, y)]) M = wp (ar S M) (Kc2 (.obj cl [(fd, y)]) (Kcl F Q E)) E := Kme_at (fs := [(fd, y)]) (by simp [isObj]) (by simp [List.lookup, h])
/-! ### walks -/
def Kis (Q : QQ Its) : QQ D := fun d M => match d with
  | .lst ds => Q ⟨ds, none⟩ M
  | .ptr k => match M[k]? with
    | some (.lst ds) => Q ⟨ds, some k⟩ M
    | _ => False
  | _ => False
theorem Kis_l {Q : QQ Its} : Kis Q (.lst ds) M = Q ⟨ds, none⟩ M := (rfl)
theorem w_iSeq {Q : QQ Its} : wp (iSeq e S M) Q E = wp (e S M) (Kis Q) E := by
  unfold iSeq; rw [wp_bind]; congr 1; funext d M1; unfold Kis
  cases d with
  | ptr k =>
    show wp (match M1[k]? with | some (.lst ds) => _ | _ => Res.bad) Q E = (match M1[k]? with | some (.lst ds) => _ | _ => False)
    rcases M1[k]? with _ | mo
    · rfl
    · cases mo <;> rfl
  | _ => rfl
def Kit (Q : QQ Its) : QQ D := fun d M => match d with
  | .tup ds => Q ⟨ds, none⟩ M
  | _ => False
theorem Kit_t {Q : QQ Its} : Kit Q (.tup ds) M = Q ⟨ds, none⟩ M := (rfl)
theorem w_iTup {Q : QQ Its} : wp (iTupF e S M) Q E = wp (e S M) (Kit Q) E := by
  unfold iTupF; rw [wp_bind]; congr 1; funext d M1; cases d <;> rfl
def Kr1 (Q : QQ Its) : QQ (List D) := fun ds M => match ds with
  | [.int j] => (-(2 ^ 62) ≤ j ∧ j < 2 ^ 62) ∧ Q ⟨rangeD 0 j.toNat, none⟩ M
  | _ => False
theorem Kr1_n {Q : QQ Its} (h : n < 2 ^ 62) : Kr1 Q [.int (n : Nat)] M = Q ⟨rangeD 0 n, none⟩ M := by
  unfold Kr1; exact propext ⟨fun z => z.2, fun z => ⟨⟨by omega, by omega⟩, z⟩⟩
theorem w_iRange1 {Q : QQ Its} : wp (iRange1 ar S M) Q E = wp (ar S M) (Kr1 Q) E := by
  unfold iRange1; rw [wp_bind]; congr 1; funext ds M1
  rcases ds with _ | ⟨d, _ | ⟨d2, r⟩⟩
  · rfl
  · cases d with
    | int j =>
      show wp (if -(2 ^ 62) ≤ j ∧ j < 2 ^ 62 then _ else _) Q E = ((-(2 ^ 62) ≤ j ∧ j < 2 ^ 62) ∧ Q ⟨rangeD 0 j.toNat, none⟩ M1)
      by_cases h : -(2 ^ 62) ≤ j ∧ j < 2 ^ 62
      · rw [if_pos h]; exact propext ⟨fun z => ⟨h, z⟩, fun z => z.2⟩
      · rw [if_neg h]; exact propext ⟨fun z => z.elim, fun z => absurd z.1 h⟩
    | _ => rfl
  · cases d <;> rfl
def Ken1 (Q : QQ Its) : QQ (List D) := fun ds M => match ds with
  | [.lst xs] => Q ⟨enumD 0 xs, none⟩ M
  | _ => False
theorem Ken1_l {Q : QQ Its} : Ken1 Q [.lst ds] M = Q ⟨enumD 0 ds, none⟩ M := (rfl)
theorem w_iEnum {Q : QQ Its} : wp (iEnumF ar S M) Q E = wp (ar S M) (Ken1 Q) E := by
  unfold iEnumF; rw [wp_bind]; congr 1; funext ds M1
  rcases ds with _ | ⟨d, _ | ⟨d2, r⟩⟩
  · rfl
  · cases d <;> rfl
  · cases d <;> rfl
/-! ### loops -/
def Kfo (g : GF) (t : TF) (vs : List Nat) (S : Sl) (P : Po) : QQ Its := fun I M => swp (forL I.gd g t vs I.ds S M) P
theorem Kfo_ap {I : Its} {vs : List Nat} : Kfo g t vs S P I M = swp (forL I.gd g t vs I.ds S M) P := (rfl)
theorem w_kFor {I : IF} {vs : List Nat} : swp (kFor I g t vs S M) P = wp (I S M) (Kfo g t vs S P) (P.ez S) := by unfold kFor; rw [swp_thnR]; rfl
/-- a turn: what follows it -/
def Po.turn (P : Po) (vs : List Nat) (N : Sl → Mem → Prop) : Po := ⟨fun S M => N (kl vs S) M, P.rt, P.nx, fun S M => N (kl vs S) M, P.rz⟩
theorem turn_nx {N : Sl → Mem → Prop} {vs : List Nat} : (P.turn vs N).nx S M = N (kl vs S) M := (rfl)
theorem turn_ct {N : Sl → Mem → Prop} {vs : List Nat} : (P.turn vs N).ct S M = N (kl vs S) M := (rfl)
theorem turn_rt {N : Sl → Mem → Prop} {vs : List Nat} : (P.turn vs N).rt d M = P.rt d M := (rfl)
theorem turn_bk {N : Sl → Mem → Prop} {vs : List Nat} : (P.turn vs N).bk S M = P.nx S M := (rfl)
theorem turn_rz {N : Sl → Mem → Prop} {vs : List Nat} : (P.turn vs N).rz X S M = P.rz X S M := (rfl)
theorem turn_ez {N : Sl → Mem → Prop} {vs : List Nat} : (P.turn vs N).ez S = P.ez S := (rfl)
def Ktn (t : TF) (P : Po) : QQ Sl := fun S M => swp (t S M) P
theorem Ktn_ap : Ktn t P S M = swp (t S M) P := (rfl)
theorem for_cons {gd : Mem → Prop} {vs : List Nat} (hg : gd M) (h : wp (g d S M) (Ktn t (P.turn vs fun S2 M2 => swp (forL gd g t vs ds S2 M2) P)) (P.ez S)) : swp (forL gd g t vs (d :: ds) S M) P := by
  unfold forL
  rw [if_pos hg, swp_thnR]
  refine wp_imp h (fun S1 M1 h => ?_) fun x M h => h
  unfold Ktn at h
  show swp (match t S1 M1 with
      | .nx S2 M2 => forL gd g t vs ds (kl vs S2) M2
      | .ct S2 M2 => forL gd g t vs ds (kl vs S2) M2
      | .bk S2 M2 => .nx S2 M2
      | r => r) P
  cases e : t S1 M1 <;> (rw [e] at h; exact h)
theorem for_nil {gd : Mem → Prop} {vs : List Nat} (hg : gd M) (h : P.nx S M) : swp (forL gd g t vs [] S M) P := by
  unfold forL
  rw [if_pos hg]
  exact h
/-- a loop with an invariant; J by what is done -/
theorem for_inv {gd : Mem → Prop} {vs : List Nat} {full : List D} (J : List D → Sl → Mem → Prop) (hg : ∀ l S M, J l S M → gd M)
    (hs : ∀ l d r S M, full = l ++ d :: r → J l S M → wp (g d S M) (Ktn t (P.turn vs fun S2 M2 => J (l ++ [d]) S2 M2)) (P.ez S))
    (h0 : J [] S M) (he : ∀ S M, J full S M → P.nx S M) : swp (forL gd g t vs full S M) P := by
  have key : ∀ (ds l : List D) (S : Sl) (M : Mem), full = l ++ ds → J l S M → swp (forL gd g t vs ds S M) P := by
    intro ds
    induction ds with
    | nil => intro l S M e h; exact for_nil (hg _ _ _ h) (he _ _ (by rw [e, List.append_nil]; exact h))
    | cons d r ih =>
      intro l S M e h
      refine for_cons (hg _ _ _ h) (wp_imp (hs l d r S M e h) (fun S1 M1 h1 => ?_) fun _ _ h => h)
      refine swp_imp h1 (fun S2 M2 h2 => ih (l ++ [d]) _ _ (by rw [List.append_assoc]; exact e) h2) (fun _ _ h => h) (fun _ _ h => h) (fun S2 M2 h2 => ih (l ++ [d]) _ _ (by rw [List.append_assoc]; exact e) h2) fun _ _ _ h => h
  exact key full [] S M rfl h0
/-- a loop over range(n) -/
theorem for_rng {gd : Mem → Prop} {vs : List Nat} {N : Nat} (J : Nat → Sl → Mem → Prop) (hg : ∀ k S M, J k S M → gd M)
    (hs : ∀ k S M, k < N → J k S M → wp (g (.int (k : Nat)) S M) (Ktn t (P.turn vs fun S2 M2 => J (k + 1) S2 M2)) (P.ez S))
    (h0 : J 0 S M) (he : ∀ S M, J N S M → P.nx S M) : swp (forL gd g t vs (rangeD 0 N) S M) P := by
  have len : (rangeD 0 N).length = N := by simp [rangeD]
  refine for_inv (fun l S M => J l.length S M) (fun l S M h => hg _ _ _ h) (fun l d r S M e h => ?_) h0 (fun S M h => he _ _ (by rwa [len] at h))
  have hl : l.length < N := by
    have := congrArg List.length e
    rw [len, List.length_append, List.length_cons] at this
    omega
  have hd : d = .int (l.length : Nat) := by
    have e1 : (rangeD 0 N)[l.length]? = some d := by rw [e]; simp
    unfold rangeD at e1
    rw [List.getElem?_map, List.getElem?_range hl] at e1
    have := Option.some.inj e1
    rw [← this]
    simp
  subst hd
  have := hs l.length S M hl h
  rw [show (l ++ [D.int (l.length : Nat)]).length = l.length + 1 by simp]
  exact this
/-- while: V counts down -/
theorem while_inv {b : BF} {vs : List Nat} (J : Nat → Sl → Mem → Prop)
    (hs : ∀ k S M, J k S M → wp (b S M) (fun x M1 => if x = true then swp (t S M1) (P.turn vs fun S2 M2 => ∃ k', k' < k ∧ J k' S2 M2) else P.nx S M1) (P.ez S))
    {k : Nat} (h0 : J k S M) : swp (kWhile b t vs S M) P := by
  induction k using Nat.strongRecOn generalizing S M with
  | ind k ih =>
    rw [kWhile_eq, swp_thnR]
    refine wp_imp (hs k S M h0) (fun x M1 h => ?_) fun _ _ h => h
    cases x with
    | false => exact h
    | true =>
      have h' : swp (t S M1) (P.turn vs fun S2 M2 => ∃ k', k' < k ∧ J k' S2 M2) := h
      show swp (match t S M1 with
        | .nx S2 M2 => kWhile b t vs (kl vs S2) M2
        | .ct S2 M2 => kWhile b t vs (kl vs S2) M2
        | .bk S2 M2 => .nx S2 M2
        | r => r) P
      cases e : t S M1 with
      | nx S2 M2 => rw [e] at h'; obtain ⟨k', hk, hj⟩ := h'; exact ih k' hk hj
      | ct S2 M2 => rw [e] at h'; obtain ⟨k', hk, hj⟩ := h'; exact ih k' hk hj
      | bk S2 M2 => rw [e] at h'; exact h'
      | rt d M2 => rw [e] at h'; exact h'
      | rz x S2 M2 => rw [e] at h'; exact h'
      | bad => rw [e] at h'; exact h'
/-! ### comprehensions -/
def Klc (g : GF) (p : BF) (e : EF) (vs : List Nat) (S : Sl) (Q : QQ D) : QQ Its := fun I M => wp (lcL I.gd g p e (kl vs S) I.ds [] M) (fun ys M => Q (.lst ys) M) fun _ _ => False
theorem lc_noX {gd : Mem → Prop} {S0 : Sl} : ∀ (ds acc : List D) (M : Mem) (x : Ex) (M1 : Mem), lcL gd g p e S0 ds acc M ≠ .rz x M1
  | [], acc, M, x, M1 => by unfold lcL; split <;> simp
  | d :: r, acc, M, x, M1 => by
    unfold lcL
    split
    · split
      · split
        · split
          · split
            · exact lc_noX r _ _ x M1
            · simp
          · simp
        · exact lc_noX r _ _ x M1
        · simp
      · simp
    · simp
theorem wp_noX {r : Res α} {Q : QQ α} {E' : XQ} (h : ∀ x M, r ≠ .rz x M) : wp r Q E = wp r Q E' := by
  cases r with
  | rz x M => exact absurd rfl (h x M)
  | _ => rfl
theorem w_eLc {I : IF} {vs : List Nat} : wp (eLc I g p e vs S M) Q E = wp (I S M) (Klc g p e vs S Q) E := by
  unfold eLc; rw [wp_bind]; congr 1; funext J M1; rw [wp_bind]; unfold Klc
  exact wp_noX fun x M => lc_noX _ _ _ x M
def Klq (g : GF) (p : BF) (e : EF) (vs : List Nat) (S : Sl) (Q : QQ D) : QQ Its := fun I M => wp (lcL I.gd g p e (kl vs S) I.ds [] M) (fun ys M => Q (.ptr M.length) (M ++ [.lst ys])) fun _ _ => False
theorem w_eLcP {I : IF} {vs : List Nat} : wp (eLcP I g p e vs S M) Q E = wp (I S M) (Klq g p e vs S Q) E := by
  unfold eLcP; rw [wp_bind]; congr 1; funext J M1; rw [wp_bind]; unfold Klq
  exact wp_noX fun x M => lc_noX _ _ _ x M
def XN : XQ := fun _ _ => False
def Kly (N : QQ D) : QQ D := N
def Klb (e : EF) (N : QQ D) (Z : Mem → Prop) (S : Sl) : QQ Bool := fun k M => if k = true then wp (e S M) N XN else Z M
theorem Klb_t {N : QQ D} {Z : Mem → Prop} : Klb e N Z S true M = wp (e S M) N XN := (rfl)
theorem Klb_f {N : QQ D} {Z : Mem → Prop} : Klb e N Z S false M = Z M := (rfl)
def Klg (p : BF) (e : EF) (N : QQ D) (Z : Mem → Prop) : QQ Sl := fun S M => wp (p S M) (Klb e N Z S) XN
theorem Klg_ap {N : QQ D} {Z : Mem → Prop} : Klg p e N Z S M = wp (p S M) (Klb e N Z S) XN := (rfl)
/-- a comprehension with an invariant; J by what is done and what was found -/
theorem lc_inv {gd : Mem → Prop} {S0 : Sl} {full : List D} {QL' : QQ (List D)} {E' : XQ} (J : List D → List D → Mem → Prop) (hg : ∀ l acc M, J l acc M → gd M) (hz : full.length ≤ sizeLine) (hl : ∀ l acc M, J l acc M → acc.length ≤ l.length)
    (hs : ∀ l d r acc M, full = l ++ d :: r → J l acc M → wp (g d S0 M) (Klg p e (fun y M3 => J (l ++ [d]) (acc ++ [y]) M3) (fun M2 => J (l ++ [d]) acc M2)) XN)
    (h0 : J [] [] M) (he : ∀ acc M, J full acc M → QL' acc M) : wp (lcL gd g p e S0 full [] M) QL' E' := by
  have key : ∀ (ds l acc : List D) (M : Mem), full = l ++ ds → J l acc M → wp (lcL gd g p e S0 ds acc M) QL' E' := by
    intro ds
    induction ds with
    | nil =>
      intro l acc M e0 h
      unfold lcL
      rw [if_pos (hg _ _ _ h)]
      exact he _ _ (by rw [e0, List.append_nil]; exact h)
    | cons d r ih =>
      intro l acc M e0 h
      have hh := hs l d r acc M e0 h
      unfold lcL
      rw [if_pos (hg _ _ _ h)]
      cases eg : g d S0 M with
      | bad => rw [eg] at hh; exact hh.elim
      | rz x M1 => rw [eg] at hh; exact hh.elim
      | ok S1 M1 =>
        rw [eg] at hh
        have hh1 : wp (p S1 M1) _ XN := hh
        simp only
        cases ep : p S1 M1 with
        | bad => rw [ep] at hh1; exact hh1.elim
        | rz x M1 => rw [ep] at hh1; exact hh1.elim
        | ok k M2 =>
          rw [ep] at hh1
          cases k with
          | false => exact ih (l ++ [d]) acc M2 (by rw [List.append_assoc]; exact e0) hh1
          | true =>
            have hh2 : wp (e S1 M2) _ XN := hh1
            simp only
            cases ey : e S1 M2 with
            | bad => rw [ey] at hh2; exact hh2.elim
            | rz x M1 => rw [ey] at hh2; exact hh2.elim
            | ok y M3 =>
              rw [ey] at hh2
              have la := hl _ _ _ h
              have lf := congrArg List.length e0
              rw [List.length_append, List.length_cons] at lf
              simp only
              rw [if_pos (by omega)]
              exact ih (l ++ [d]) (acc ++ [y]) M3 (by rw [List.append_assoc]; exact e0) hh2
  exact key full [] [] M rfl h0
/-! ### defs -/
def PoF (n : Nat) (Q : QQ D) (E : XQ) : Po := ⟨fun _ M => wp (settle n (.ok .non M)) Q E, fun d M => wp (settle n (.ok d M)) Q E, fun _ _ => False, fun _ _ => False, fun x _ M => wp (settle n (.rz x M)) Q E⟩
theorem pof_nx : (PoF n Q E).nx S M = wp (settle n (.ok .non M)) Q E := (rfl)
theorem pof_rt : (PoF n Q E).rt d M = wp (settle n (.ok d M)) Q E := (rfl)
theorem w_runF (h : ds.length = n) : wp (runF n m t ds M) Q E = swp (t (ds.map some ++ List.replicate m none) M) (PoF M.length Q E) := by
  unfold runF
  rw [if_pos h]
  rcases t (ds.map some ++ List.replicate m none) M <;> rfl
end
end QL
end
section
set_option Elab.async false
set_option linter.all false
set_option maxRecDepth 100000
set_option maxHeartbeats 4000000
set_option autoImplicit false
namespace QL
open PySem PySem.Spec L2
open Classical
local macro_rules | `(tactic| simp_arith [$as,*]) => `(tactic| simp only [wp_ok, wp_rz, sq_nx, sq_rt, sq_bk, sq_ct, sq_rz, sq_ez, swp_nx, swp_rt, swp_bk, swp_ct, swp_rz, wv_some, w_eVar, w_eC, w_aNil, Kc2_ap, Kc1_ap, w_aCons, Kcl_ap, w_eCall, w_eTup, Ktu_0, Ktu_1, Ktu_2, Ktu_3, Ktu_4, w_eLst, Kls_0, Kls_1, Kls_2, Kls_3, Kls_4, Kls_5, Kls_6, Kls_7, Kls_8, Kls_9, w_eLstP, Klp_0, Klp_1, Klp_2, K2c_ap, K2b_ap, w_e2, K3d_t, K3d_f, K3c_ap, K3b_ap, w_e3, KbV_ap, w_bV, Kno_ap, w_bNot, Kan_t, Kan_f, w_bAnd, Kor_t, Kor_f, w_bOr, w_bYes, Ken_ap, w_eNot, Kea_t, Kea_f, w_eAnd, Keo_t, Keo_f, w_eOr, Kei_t, Kei_f, w_eIf, w_kNil, w_kSeq, w_kRet, w_kRetN, Kdr_ap, w_kDrop, Kif_t, Kif_f, w_kIf, w_kBreak, w_kCont, Kas_ap, w_kAsg, w_gN, w_gNil, Kgc_ap, w_gCons, w_gTup2, w_gTup3, wls_some, Ks2_ap, Ks1_ap, w_gSubL, Kpr_ap, w_kPar, Kau_ap, wau_i, w_kAug, wdp_some, Kd3_ap, Kd2_ap, Kd1_ap, w_kDPut, Kg4_ap, wlk_i, Kg2_ap, Kg1_ap, w_kDAug, w_oNone, Kso_ap, w_oSome, Kl3_ap, Kl2_ap, Kl1_ap, w_eSl, Kfl_1, w_eFld, w_eMeth, Kis_l, w_iSeq, Kit_t, w_iTup, w_iRange1, Ken1_l, w_iEnum, Kfo_ap, w_kFor, turn_nx, turn_ct, turn_rt, turn_bk, turn_rz, turn_ez, Ktn_ap, w_eLc, w_eLcP, Klb_t, Klb_f, Klg_ap, pof_nx, pof_rt, List.getElem?_cons_succ, List.getElem?_cons_zero, List.set_cons_succ, List.set_cons_zero, kl_cons, kl_nil, List.map_cons, List.map_nil, List.replicate_succ, List.replicate_zero, List.cons_append, List.nil_append, Bool.not_true, Bool.not_false, fAdd_i, fSub_i, fLt_i, fLe_i, fGt_i, fGe_i, fEqA_i, fEqA_s, fNe_i, fNe_s, fNe_b, fSl_l, bLenA_l, bMax2_i, bMin2_i, bInt_b, bInt_i, fIs0_n, fNot0_n, fIs0_i, fNot0_i, fNot0_p, $as,*])
/-! QWp2: comprehensions that leave the store as it is; with an invariant; defs. -/
section
variable {α : Type} {g : GF} {p : BF} {e : EF} {vs : List Nat} {S S0 : Sl} {M : Mem} {Q : QQ D} {E : XQ} {ds : List D}
theorem lc_filt {gd : Mem → Prop} {QL' : QQ (List D)} (hg : gd M) (enc : α → D) (P : α → Bool) (out : α → D) (xs : List α) (hz : xs.length ≤ sizeLine)
    (hs : ∀ x ∈ xs, wp (g (enc x) S0 M) (Klg p e (fun y M' => P x = true ∧ y = out x ∧ M' = M) (fun M' => P x = false ∧ M' = M)) XN)
    (k : QL' ((xs.filter P).map out) M) : wp (lcL gd g p e S0 (xs.map enc) [] M) QL' E := by
  refine lc_inv (fun l acc M' => M' = M ∧ ∃ n, l = (xs.take n).map enc ∧ acc = ((xs.take n).filter P).map out) (fun l acc M' h => h.1 ▸ hg) (by rw [List.length_map]; exact hz) (fun l acc M' ⟨_, n, hl, ha⟩ => by
    rw [hl, ha, List.length_map, List.length_map]; exact List.length_filter_le _ _) (fun l d r acc M' he ⟨hM, n, hl, ha⟩ => ?_) ⟨rfl, 0, by simp, by simp⟩ (fun acc M' ⟨hM, n, hl, ha⟩ => ?_)
  · subst hM
    have ln : l.length < xs.length := by
      have := congrArg List.length he
      rw [List.length_map, List.length_append, List.length_cons] at this
      omega
    have hn : n ≤ xs.length → l.length = n := fun h => by rw [hl, List.length_map, List.length_take, Nat.min_eq_left h]
    have hn' : n < xs.length := by
      rcases Nat.lt_or_ge n xs.length with h | h
      · exact h
      · exfalso
        rw [hl, List.length_map, List.length_take, Nat.min_eq_right h] at ln
        omega
    have hd : d = enc xs[n] := by
      have e1 : (xs.map enc)[l.length]? = some d := by rw [he]; simp
      rw [hn (by omega), List.getElem?_map, List.getElem?_eq_getElem hn'] at e1
      exact (Option.some.inj e1).symm
    subst hd
    have t1 : xs.take (n + 1) = xs.take n ++ [xs[n]] := List.take_succ_eq_append_getElem hn'
    refine wp_imp (hs xs[n] (List.getElem_mem hn')) (fun S1 M1 h => ?_) fun _ _ h => h
    refine wp_imp h (fun b M2 h => ?_) fun _ _ h => h
    cases b with
    | true =>
      refine wp_imp (show wp (e S1 M2) _ XN from h) (fun y M3 ⟨h1, h2, h3⟩ => ⟨h3, n + 1, ?_, ?_⟩) fun _ _ h => h
      · rw [hl, t1, List.map_append]; rfl
      · rw [ha, t1, List.filter_append, List.map_append, List.filter_cons, if_pos h1, h2]; rfl
    | false =>
      obtain ⟨h1, h2⟩ := (show P xs[n] = false ∧ M2 = M' from h)
      refine ⟨h2, n + 1, ?_, ?_⟩
      · rw [hl, t1, List.map_append]; rfl
      · rw [ha, t1, List.filter_append, List.filter_cons, if_neg (by rw [h1]; simp)]; simp
  · have hln := congrArg List.length hl
    rw [List.length_map, List.length_map, List.length_take] at hln
    rw [hM, ha, List.take_of_length_le (by omega)]
    exact k
theorem Klc_filt (enc : α → D) (P : α → Bool) (out : α → D) {xs : List α} (hz : xs.length ≤ sizeLine)
    (hs : ∀ x ∈ xs, wp (g (enc x) (kl vs S) M) (Klg p e (fun y M' => P x = true ∧ y = out x ∧ M' = M) (fun M' => P x = false ∧ M' = M)) XN)
    (k : Q (.lst ((xs.filter P).map out)) M) : Klc g p e vs S Q ⟨xs.map enc, none⟩ M := lc_filt (trivial : Its.gd ⟨xs.map enc, none⟩ M) enc P out xs hz hs k
theorem Klc_map (enc out : α → D) {xs : List α} (hz : xs.length ≤ sizeLine)
    (hs : ∀ x ∈ xs, wp (g (enc x) (kl vs S) M) (Klg p e (fun y M' => y = out x ∧ M' = M) (fun _ => False)) XN)
    (k : Q (.lst (xs.map out)) M) : Klc g p e vs S Q ⟨xs.map enc, none⟩ M := by
  refine Klc_filt enc (fun _ => true) out hz (fun x hx => ?_) (by rw [List.filter_eq_self.mpr fun _ _ => rfl]; exact k)
  refine wp_imp (hs x hx) (fun S1 M1 h => wp_imp h (fun b M2 h => ?_) fun _ _ h => h) fun _ _ h => h
  cases b with
  | true => exact wp_imp (show wp (e S1 M2) _ XN from h) (fun y M3 h => ⟨rfl, h⟩) fun _ _ h => h
  | false => exact h.elim
theorem Klq_filt (enc : α → D) (P : α → Bool) (out : α → D) {xs : List α} (hz : xs.length ≤ sizeLine)
    (hs : ∀ x ∈ xs, wp (g (enc x) (kl vs S) M) (Klg p e (fun y M' => P x = true ∧ y = out x ∧ M' = M) (fun M' => P x = false ∧ M' = M)) XN)
    (k : Q (.ptr M.length) (M ++ [.lst ((xs.filter P).map out)])) : Klq g p e vs S Q ⟨xs.map enc, none⟩ M := lc_filt (trivial : Its.gd ⟨xs.map enc, none⟩ M) enc P out xs hz hs k
theorem run_wp {n m : Nat} {t : TF} (h : ds.length = n) (k : swp (t (ds.map some ++ List.replicate m none) M) (PoF M.length Q E)) : wp (runF n m t ds M) Q E := by
  rw [w_runF h]; exact k
/-- the range of a loop, as numbers -/
theorem rngD (n : Nat) : rangeD 0 n = (List.range n).map fun (j : Nat) => D.int (j : Int) := by
  unfold rangeD
  apply List.map_congr_left
  intro j _
  simp
/-- from what must hold to an equation -/
theorem wp_eq {α : Type} {r : Res α} {a : α} {M : Mem} (h : wp r (fun d M' => d = a ∧ M' = M) XN) : r = .ok a M := by
  obtain ⟨d, M', e, rfl, rfl⟩ := wp_ex h
  exact e
theorem wp_of {α : Type} {r : Res α} {a : α} {M : Mem} {Q : QQ α} (h : r = .ok a M) (k : Q a M) : wp r Q E := by
  rw [h]; exact k
theorem Kif_dec {c : Prop} [Decidable c] {t u : TF} {P : Po} (h1 : c → swp (t S M) P) (h2 : ¬ c → swp (u S M) P) : Kif t u S P (decide c) M := by
  by_cases q : c
  · rw [decide_eq_true q]; exact h1 q
  · rw [decide_eq_false q]; exact h2 q
end
end QL
end
section
set_option Elab.async false
set_option linter.all false
set_option maxRecDepth 100000
set_option maxHeartbeats 4000000
set_option autoImplicit false
namespace QL
open PySem PySem.Spec L2
open Classical
local macro_rules | `(tactic| simp_arith [$as,*]) => `(tactic| simp only [wp_ok, wp_rz, sq_nx, sq_rt, sq_bk, sq_ct, sq_rz, sq_ez, swp_nx, swp_rt, swp_bk, swp_ct, swp_rz, wv_some, w_eVar, w_eC, w_aNil, Kc2_ap, Kc1_ap, w_aCons, Kcl_ap, w_eCall, w_eTup, Ktu_0, Ktu_1, Ktu_2, Ktu_3, Ktu_4, w_eLst, Kls_0, Kls_1, Kls_2, Kls_3, Kls_4, Kls_5, Kls_6, Kls_7, Kls_8, Kls_9, w_eLstP, Klp_0, Klp_1, Klp_2, K2c_ap, K2b_ap, w_e2, K3d_t, K3d_f, K3c_ap, K3b_ap, w_e3, KbV_ap, w_bV, Kno_ap, w_bNot, Kan_t, Kan_f, w_bAnd, Kor_t, Kor_f, w_bOr, w_bYes, Ken_ap, w_eNot, Kea_t, Kea_f, w_eAnd, Keo_t, Keo_f, w_eOr, Kei_t, Kei_f, w_eIf, w_kNil, w_kSeq, w_kRet, w_kRetN, Kdr_ap, w_kDrop, Kif_t, Kif_f, w_kIf, w_kBreak, w_kCont, Kas_ap, w_kAsg, w_gN, w_gNil, Kgc_ap, w_gCons, w_gTup2, w_gTup3, wls_some, Ks2_ap, Ks1_ap, w_gSubL, Kpr_ap, w_kPar, Kau_ap, wau_i, w_kAug, wdp_some, Kd3_ap, Kd2_ap, Kd1_ap, w_kDPut, Kg4_ap, wlk_i, Kg2_ap, Kg1_ap, w_kDAug, w_oNone, Kso_ap, w_oSome, Kl3_ap, Kl2_ap, Kl1_ap, w_eSl, Kfl_1, w_eFld, w_eMeth, Kis_l, w_iSeq, Kit_t, w_iTup, w_iRange1, Ken1_l, w_iEnum, Kfo_ap, w_kFor, turn_nx, turn_ct, turn_rt, turn_bk, turn_rz, turn_ez, Ktn_ap, w_eLc, w_eLcP, Klb_t, Klb_f, Klg_ap, pof_nx, pof_rt, List.getElem?_cons_succ, List.getElem?_cons_zero, List.set_cons_succ, List.set_cons_zero, kl_cons, kl_nil, List.map_cons, List.map_nil, List.replicate_succ, List.replicate_zero, List.cons_append, List.nil_append, Bool.not_true, Bool.not_false, fAdd_i, fSub_i, fLt_i, fLe_i, fGt_i, fGe_i, fEqA_i, fEqA_s, fNe_i, fNe_s, fNe_b, fSl_l, bLenA_l, bMax2_i, bMin2_i, bInt_b, bInt_i, fIs0_n, fNot0_n, fIs0_i, fNot0_i, fNot0_p, $as,*])
/-! QPT: tables whose keys are pairs of texts. -/
abbrev PR := Str × Str
abbrev kk (p : PR) : List Key := [.inr p.1, .inr p.2]
def PT (ps : List PR) (v : PR → D) : List (List Key × D) := ps.map fun p => (kk p, v p)
def PTI (ps : List PR) (f : PR → Int) : List (List Key × D) := PT ps fun p => .int (f p)
def addk (ps : List PR) (p : PR) : List PR := if p ∈ ps then ps else ps ++ [p]
def upf {β : Type} (v : PR → β) (p : PR) (d : β) : PR → β := fun q => if q = p then d else v q
theorem kk_inj {p q : PR} (h : kk p = kk q) : p = q := by
  have h1 := List.cons.inj h
  have h2 := List.cons.inj h1.2
  exact Prod.ext (Sum.inr.inj h1.1) (Sum.inr.inj h2.1)
section
variable {ps : List PR} {v : PR → D} {f : PR → Int} {p : PR} {d : D} {M : Mem} {k : Nat} {a b : Str} {S : Sl} {Q : QQ D} {E : XQ}
theorem pt_len : (PT ps v).length = ps.length := List.length_map _
theorem pti_len : (PTI ps f).length = ps.length := pt_len
theorem pt_cong {w : PR → D} (h : ∀ p ∈ ps, v p = w p) : PT ps v = PT ps w := List.map_congr_left fun x hx => by rw [h x hx]
theorem pt_any : ((PT ps v).any fun kv => decide (kv.1 = kk p)) = decide (p ∈ ps) := by
  induction ps with
  | nil => simp [PT]
  | cons y r ih =>
    have ih' : (r.map fun p => (kk p, v p)).any (fun kv => decide (kv.1 = kk p)) = decide (p ∈ r) := ih
    unfold PT
    rw [List.map_cons, List.any_cons, ih']
    by_cases e : y = p
    · subst e
      simp
    · have e' : ¬ p = y := fun z => e z.symm
      have e2 : ¬ kk y = kk p := fun z => e (kk_inj z)
      simp only [decide_eq_false e2, Bool.false_or, List.mem_cons, decide_eq_decide]
      simp [e']
theorem pt_val : valD (PT ps v) (kk p) = if p ∈ ps then some (v p) else none := by
  induction ps with
  | nil => rfl
  | cons y r ih =>
    by_cases e : y = p
    · subst e
      simp [valD, PT]
    · have e' : ¬ p = y := fun z => e z.symm
      have e2 : ¬ kk y = kk p := fun z => e (kk_inj z)
      have : valD (PT (y :: r) v) (kk p) = valD (PT r v) (kk p) := by
        unfold valD PT
        rw [List.map_cons, List.find?_cons]
        simp only [decide_eq_false e2]
      rw [this, ih]
      simp [e']
theorem pti_val : valD (PTI ps f) (kk p) = if p ∈ ps then some (.int (f p)) else none := pt_val
theorem pt_put : putKD (PT ps v) (kk p) d = PT (addk ps p) (upf v p d) := by
  unfold putKD addk
  rw [pt_any]
  by_cases h : p ∈ ps
  · rw [decide_eq_true h, if_pos rfl, if_pos h]
    unfold PT
    rw [List.map_map]
    apply List.map_congr_left
    intro y _
    by_cases e : y = p
    · subst e; simp [upf]
    · have e2 : ¬ kk y = kk p := fun z => e (kk_inj z)
      simp only [Function.comp, if_neg e2, upf, if_neg e]
  · rw [decide_eq_false h, if_neg Bool.false_ne_true, if_neg h]
    unfold PT
    rw [List.map_append]
    have : (ps.map fun y => (kk y, v y)) = ps.map fun y => (kk y, upf v p d y) := List.map_congr_left fun y hy => by
      have : y ≠ p := fun e => h (e ▸ hy)
      simp [upf, this]
    rw [this]
    simp [upf]
theorem pti_put {i : Int} : putKD (PTI ps f) (kk p) (.int i) = PTI (addk ps p) (upf f p i) := by
  unfold PTI
  rw [pt_put]
  exact pt_cong fun y _ => by unfold upf; split <;> rfl
theorem addk_nd (h : ps.Nodup) : (addk ps p).Nodup := by
  unfold addk
  split
  · exact h
  · rename_i hp
    exact List.nodup_append.mpr ⟨h, (by simp), fun x hx y hy e => hp (by rw [List.mem_singleton] at hy; rw [← hy, ← e]; exact hx)⟩
theorem mem_addk {q : PR} : q ∈ addk ps p ↔ q ∈ ps ∨ q = p := by
  unfold addk
  split
  · rename_i h
    exact ⟨.inl, fun z => z.elim id fun e => e ▸ h⟩
  · rw [List.mem_append, List.mem_singleton]
theorem addk_le : (addk ps p).length ≤ ps.length + 1 := by
  unfold addk
  split
  · omega
  · rw [List.length_append, List.length_singleton]; omega
theorem lowT_pt (h : ∀ p n, lowD n (v p) = true) (n : Nat) : lowT n (PT ps v) = true := by
  induction ps with
  | nil => rfl
  | cons y r ih =>
    show (lowD n (v y) && lowT n (PT r v)) = true
    rw [h, ih]
    rfl
theorem lowT_pti (n : Nat) : lowT n (PTI ps f) = true := lowT_pt (fun _ _ => rfl) n
theorem keys2 : keysOf [.str a, .str b] = some (kk (a, b)) := rfl
theorem lookT {kvs : List (List Key × D)} (h : M[k]? = some (.dT kvs)) : look M (.ptr k) (.tup [.str a, .str b]) = some (valD kvs (kk (a, b))) := by
  simp [look, asK, asTt, h, keys2]
theorem lookF {kvs : List (List Key × D)} : look M (.dT kvs) (.tup [.str a, .str b]) = some (valD kvs (kk (a, b))) := by
  simp [look, asK, asTt, keys2]
theorem dputT {kvs : List (List Key × D)} (h : M[k]? = some (.dT kvs)) (hl : kvs.length < sizeLine) : dput k (.tup [.str a, .str b]) d M = some (M.set k (.dT (putKD kvs (kk (a, b)) d))) := by
  simp [dput, h, keys2, hl]
theorem ixT2 {x : D} (h : look M x (.tup [.str a, .str b]) = some (some d)) : fIxA x (.tup [.str a, .str b]) M = .ok d M := by
  have e : fDIx x (.tup [.str a, .str b]) M = .ok d M := by
    unfold fDIx
    rw [h]
  simp [fIxA, or2, e, orR]
/-- d.get(k, x) -/
def wgl (o : Option (Option D)) (z : D) (M : Mem) (Q : QQ D) : Prop := match o with
  | some (some w) => Q w M
  | some none => Q z M
  | none => False
theorem wgl_s {z w : D} : wgl (some (some w)) z M Q = Q w M := (rfl)
theorem wgl_n {z : D} : wgl (some none) z M Q = Q z M := (rfl)
def Kge3 (d y : D) (Q : QQ D) : QQ D := fun z M => wgl (look M d y) z M Q
theorem Kge3_ap {y z : D} : Kge3 d y Q z M = wgl (look M d y) z M Q := (rfl)
def Kge2 (x : EF) (d : D) (S : Sl) (Q : QQ D) (E : XQ) : QQ D := fun y M => wp (x S M) (Kge3 d y Q) E
theorem Kge2_ap {x : EF} {y : D} : Kge2 x d S Q E y M = wp (x S M) (Kge3 d y Q) E := (rfl)
def Kge1 (i x : EF) (S : Sl) (Q : QQ D) (E : XQ) : QQ D := fun d M => isDict M d = true ∧ wp (i S M) (Kge2 x d S Q E) E
theorem Kge1_ap {i x : EF} (h : isDict M d = true) : Kge1 i x S Q E d M = wp (i S M) (Kge2 x d S Q E) E := propext ⟨fun z => z.2, fun z => ⟨h, z⟩⟩
theorem w_eGet2 {o i x : EF} : wp (eGet2 o i x S M) Q E = wp (o S M) (Kge1 i x S Q E) E := by
  unfold eGet2; rw [wp_bind]; congr 1; funext d M1; unfold Kge1
  by_cases h : isDict M1 d = true
  · rw [if_pos h, wp_bind]
    refine Eq.trans (b := wp (i S M1) (Kge2 x d S Q E) E) ?_ (propext ⟨fun z => ⟨h, z⟩, fun z => z.2⟩)
    congr 1; funext y M2; rw [wp_bind]; unfold Kge2; congr 1; funext z M3; unfold Kge3
    rcases look M3 d y with _ | _ | w <;> rfl
  · rw [if_neg h]
    exact propext ⟨fun z => z.elim, fun z => absurd z.1 h⟩
theorem isDT {kvs : List (List Key × D)} (h : M[k]? = some (.dT kvs)) : isDict M (.ptr k) = true := by simp [isDict, asK, asTt, h]
/-! ### sorted, sums -/
theorem txt2s_pt : txt2s (PT ps v) = some ps := by
  induction ps with
  | nil => rfl
  | cons y r ih =>
    show (txt2s (PT r v)).map ((y.1, y.2) :: ·) = _
    rw [ih]
    rfl
theorem sortT {x : D} (h : asTt M x = some (PT ps v)) (hL : asL M x = none) (hK : asK M x = none) : bSortB [x] M = .ok (.lst ((srt2 ps).map kT2)) M := by
  have e1 : bSortS [x] M = .bad := by
    show (match asL M x with | some xs => _ | none => Res.bad) = _
    rw [hL]
  have e2 : bSortD [x] M = .bad := by
    show (match asK M x with | some xs => _ | none => Res.bad) = _
    rw [hK]
  have e3 : bSortT [x] M = .ok (.lst ((srt2 ps).map kT2)) M := by
    show (match asTt M x with | some kvs => _ | none => Res.bad) = _
    rw [h]
    show (match txt2s (PT ps v) with | some ns => _ | none => Res.bad) = _
    rw [txt2s_pt]
  show orR (orR (bSortS [x] M) (bSortD [x] M)) (bSortT [x] M) = _
  rw [e1, e2, e3]
  rfl
theorem sortF : bSortB [.dT (PT ps v)] M = .ok (.lst ((srt2 ps).map kT2)) M := sortT rfl rfl rfl
theorem sortFI : bSortB [.dT (PTI ps f)] M = .ok (.lst ((srt2 ps).map kT2)) M := sortF
theorem min_s : bMin2A [.str a, .str b] M = .ok (.str (minS a b)) M := by
  show orR .bad (.ok _ M) = _
  rfl
theorem max_s : bMax2A [.str a, .str b] M = .ok (.str (maxS a b)) M := by
  show orR .bad (.ok _ M) = _
  rfl
end
/-- the pair of two names -/
def pr (a b : Str) : PR := (minS a b, maxS a b)
theorem lt_total {a b : Str} (h : ¬ a.cps.toList < b.cps.toList) (h2 : ¬ b.cps.toList < a.cps.toList) : a = b := by
  have e : a.cps.toList = b.cps.toList := List.le_antisymm h2 h
  cases a; cases b
  simp only at e
  exact congrArg _ (Array.toList_inj.mp e)
end QL
end
section
set_option Elab.async false
set_option linter.all false
set_option maxRecDepth 100000
set_option maxHeartbeats 4000000
set_option autoImplicit false
namespace QL
open PySem PySem.Spec L2
open Classical
local macro_rules | `(tactic| simp_arith [$as,*]) => `(tactic| simp only [wp_ok, wp_rz, sq_nx, sq_rt, sq_bk, sq_ct, sq_rz, sq_ez, swp_nx, swp_rt, swp_bk, swp_ct, swp_rz, wv_some, w_eVar, w_eC, w_aNil, Kc2_ap, Kc1_ap, w_aCons, Kcl_ap, w_eCall, w_eTup, Ktu_0, Ktu_1, Ktu_2, Ktu_3, Ktu_4, w_eLst, Kls_0, Kls_1, Kls_2, Kls_3, Kls_4, Kls_5, Kls_6, Kls_7, Kls_8, Kls_9, w_eLstP, Klp_0, Klp_1, Klp_2, K2c_ap, K2b_ap, w_e2, K3d_t, K3d_f, K3c_ap, K3b_ap, w_e3, KbV_ap, w_bV, Kno_ap, w_bNot, Kan_t, Kan_f, w_bAnd, Kor_t, Kor_f, w_bOr, w_bYes, Ken_ap, w_eNot, Kea_t, Kea_f, w_eAnd, Keo_t, Keo_f, w_eOr, Kei_t, Kei_f, w_eIf, w_kNil, w_kSeq, w_kRet, w_kRetN, Kdr_ap, w_kDrop, Kif_t, Kif_f, w_kIf, w_kBreak, w_kCont, Kas_ap, w_kAsg, w_gN, w_gNil, Kgc_ap, w_gCons, w_gTup2, w_gTup3, wls_some, Ks2_ap, Ks1_ap, w_gSubL, Kpr_ap, w_kPar, Kau_ap, wau_i, w_kAug, wdp_some, Kd3_ap, Kd2_ap, Kd1_ap, w_kDPut, Kg4_ap, wlk_i, Kg2_ap, Kg1_ap, w_kDAug, w_oNone, Kso_ap, w_oSome, Kl3_ap, Kl2_ap, Kl1_ap, w_eSl, Kfl_1, w_eFld, w_eMeth, Kis_l, w_iSeq, Kit_t, w_iTup, w_iRange1, Ken1_l, w_iEnum, Kfo_ap, w_kFor, turn_nx, turn_ct, turn_rt, turn_bk, turn_rz, turn_ez, Ktn_ap, w_eLc, w_eLcP, Klb_t, Klb_f, Klg_ap, pof_nx, pof_rt, List.getElem?_cons_succ, List.getElem?_cons_zero, List.set_cons_succ, List.set_cons_zero, kl_cons, kl_nil, List.map_cons, List.map_nil, List.replicate_succ, List.replicate_zero, List.cons_append, List.nil_append, Bool.not_true, Bool.not_false, fAdd_i, fSub_i, fLt_i, fLe_i, fGt_i, fGe_i, fEqA_i, fEqA_s, fNe_i, fNe_s, fNe_b, fSl_l, bLenA_l, bMax2_i, bMin2_i, bInt_b, bInt_i, fIs0_n, fNot0_n, fIs0_i, fNot0_i, fNot0_p, $as,*])
/-! QWp3: fields, objects made, things frozen, errors raised and caught. -/
section
variable {M M1 M2 : Mem} {S : Sl} {Q : QQ D} {E : XQ} {P : Po} {e o v : EF} {d y : D} {k : Nat} {ds : List D} {ar : AF} {X : Ex}
theorem settle_self : settle M.length (.ok d M) = .ok d M := settle_ok (Nat.le_refl _)
theorem settle_selfX : settle M.length (.rz X M) = .rz X M := if_pos (Nat.le_refl _)
def Kf2 (cl f : Str) (y : D) (S : Sl) (P : Po) : QQ D := fun d M => match d with
  | .ptr k => match M[k]? with
    | some (.obj c fs) => c = cl ∧ fs.length < 1000 ∧ P.nx S (M.set k (.obj c (putD f y fs)))
    | _ => False
  | _ => False
theorem Kf2_at {cl f : Str} (h : M[k]? = some (.obj cl [])) : Kf2 cl f y S P (.ptr k) M = P.nx S (M.set k (.obj cl [(f, y)])) := by
  simp [Kf2, h, putD]
def Kf1 (cl f : Str) (o : EF) (S : Sl) (P : Po) : QQ D := fun y M => wp (o S M) (Kf2 cl f y S P) (P.ez S)
theorem Kf1_ap {cl f : Str} : Kf1 cl f o S P y M = wp (o S M) (Kf2 cl f y S P) (P.ez S) := (rfl)
theorem w_kFld {cl f : Str} : swp (kFld cl f o v S M) P = wp (v S M) (Kf1 cl f o S P) (P.ez S) := by
  unfold kFld; rw [swp_thnR]; congr 1; funext y M1; rw [swp_thnR]; unfold Kf1; congr 1; funext d M2; unfold Kf2
  cases d with
  | ptr k =>
    show swp (match M2[k]? with | some (.obj c fs) => _ | _ => SR.bad) P = (match M2[k]? with | some (.obj c fs) => _ | _ => False)
    rcases M2[k]? with _ | mo
    · rfl
    · cases mo with
      | obj c fs =>
        show swp (if c = cl ∧ fs.length < 1000 then _ else _) P = _
        by_cases h : c = cl ∧ fs.length < 1000
        · rw [if_pos h]; exact propext ⟨fun z => ⟨h.1, h.2, z⟩, fun z => z.2.2⟩
        · rw [if_neg h]; exact propext ⟨fun z => z.elim, fun z => absurd ⟨z.1, z.2.1⟩ h⟩
      | _ => rfl
  | _ => rfl
def wfz (o : Option (D × Mem)) (Q : QQ D) : Prop := match o with
  | some (d, M) => Q d M
  | none => False
def Kfz (Q : QQ D) : QQ D := fun d M => wfz (frz d M) Q
theorem w_eFrz : wp (eFrz e S M) Q E = wp (e S M) (Kfz Q) E := by
  unfold eFrz; rw [wp_bind]; congr 1; funext d M1; unfold Kfz
  rcases frz d M1 with _ | ⟨a, b⟩ <;> rfl
theorem Kfz_T {kvs : List (List Key × D)} (h : M[k]? = some (.dT kvs)) : Kfz Q (.ptr k) M = Q (.dT kvs) (M.set k .gone) := by simp [Kfz, frz, h, wfz]
theorem Kfz_l (h : M[k]? = some (.lst ds)) : Kfz Q (.ptr k) M = Q (.lst ds) (M.set k .gone) := by simp [Kfz, frz, h, wfz]
theorem Kfz_o {cl : Str} {fs : List (Str × D)} (h : M[k]? = some (.obj cl fs)) : Kfz Q (.ptr k) M = Q (.obj cl fs) (M.set k .gone) := by simp [Kfz, frz, h, wfz]
def KfT (Q : QQ D) : QQ D := fun d M => wfz (frzT d M) Q
theorem w_eFrzT : wp (eFrzT e S M) Q E = wp (e S M) (KfT Q) E := by
  unfold eFrzT; rw [wp_bind]; congr 1; funext d M1; unfold KfT
  rcases frzT d M1 with _ | ⟨a, b⟩ <;> rfl
theorem KfT_d {kvs : List (List Key × D)} : KfT Q (.dT kvs) M = Q (.dT kvs) M := (rfl)
def KkT (Q : QQ Its) : QQ D := fun d M => match d with
  | .dT kvs => Q ⟨kvs.map fun kv => kTD kv.1, none⟩ M
  | _ => False
theorem KkT_ap {kvs : List (List Key × D)} {Q : QQ Its} : KkT Q (.dT kvs) M = Q ⟨kvs.map fun kv => kTD kv.1, none⟩ M := (rfl)
theorem w_iKeysT {Q : QQ Its} : wp (iKeysT e S M) Q E = wp (e S M) (KkT Q) E := by
  unfold iKeysT; rw [wp_bind]; congr 1; funext d M1; cases d <;> rfl
def KkF (Q : QQ Its) : QQ D := fun d M => match d with
  | .dK kvs => Q ⟨kvs.map fun kv => kD kv.1, none⟩ M
  | _ => False
theorem KkF_ap {kvs : List (Key × D)} {Q : QQ Its} : KkF Q (.dK kvs) M = Q ⟨kvs.map fun kv => kD kv.1, none⟩ M := (rfl)
theorem w_iKeysF {Q : QQ Its} : wp (iKeysF e S M) Q E = wp (e S M) (KkF Q) E := by
  unfold iKeysF; rw [wp_bind]; congr 1; funext d M1; cases d <;> rfl
def Kmk (cl : Str) (g : List D → Mem → Res D) (Q : QQ D) (E : XQ) : QQ (List D) := fun ds M1 => wp (g (.ptr M1.length :: ds) (M1 ++ [.obj cl []])) (fun d M2 => d = .non ∧ Q (.ptr M1.length) M2) (fun x M2 => wp (settle M1.length (.rz x M2)) Q E)
theorem Kmk_ap {cl : Str} {g : List D → Mem → Res D} : Kmk cl g Q E ds M1 = wp (g (.ptr M1.length :: ds) (M1 ++ [.obj cl []])) (fun d M2 => d = .non ∧ Q (.ptr M1.length) M2) (fun x M2 => wp (settle M1.length (.rz x M2)) Q E) := (rfl)
theorem w_eMake {cl : Str} {g : List D → Mem → Res D} : wp (eMake cl g ar S M) Q E = wp (ar S M) (Kmk cl g Q E) E := by
  unfold eMake; rw [wp_bind]; congr 1; funext ds M1; unfold Kmk
  generalize g (.ptr M1.length :: ds) (M1 ++ [.obj cl []]) = r
  rcases r with ⟨d, M2⟩ | ⟨x, M2⟩ | _
  · cases d with
    | non => exact propext ⟨fun z => ⟨rfl, z⟩, fun z => z.2⟩
    | _ => exact propext ⟨fun z => z.elim, fun z => nomatch z.1⟩
  · rfl
  · rfl
def Krz (n : Str) (fl : List Str) (S : Sl) (P : Po) : QQ (List D) := fun ds M => ds.length = fl.length ∧ ds.length ≤ 1000 ∧ P.rz ⟨n, fls fl ds⟩ S M
theorem w_kRz {n : Str} {fl : List Str} : swp (kRz n fl ar S M) P = wp (ar S M) (Krz n fl S P) (P.ez S) := by
  unfold kRz; rw [swp_thnR]; congr 1; funext ds M1; unfold Krz
  by_cases h : ds.length = fl.length ∧ ds.length ≤ 1000
  · rw [if_pos h]; exact propext ⟨fun z => ⟨h.1, h.2, z⟩, fun z => z.2.2⟩
  · rw [if_neg h]; exact propext ⟨fun z => z.elim, fun z => absurd ⟨z.1, z.2.1⟩ h⟩
theorem Krz_1 {n f : Str} : Krz n [f] S P [d] M = P.rz ⟨n, [(f, d)]⟩ S M := propext ⟨fun z => z.2.2, fun z => ⟨rfl, by show 1 ≤ 1000; omega, z⟩⟩
theorem pof_rz {n : Nat} {x : Ex} : (PoF n Q E).rz x S M = wp (settle n (.rz x M)) Q E := (rfl)
theorem pof_ez {n : Nat} {x : Ex} : (PoF n Q E).ez S x M = wp (settle n (.rz x M)) Q E := (rfl)
theorem ez_ap {x : Ex} : P.ez S x M = P.rz x S M := (rfl)
/-- try: what the block raises is caught -/
def Po.tr (P : Po) (cl : List Str) (i : Nat) (su : Addr → Addr → Ex → TF) : Po := { P with rz := fun x S2 M2 => x.c ∈ cl ∧ x.fs ≠ [] ∧ ∃ d M', (∀ a dd, su a dd x (S2.set i (some (.exc a dd x.c x.fs))) M2 = .rt d M') ∧ P.rt d M' }
theorem tr_nx {cl : List Str} {i : Nat} {su : Addr → Addr → Ex → TF} : (P.tr cl i su).nx S M = P.nx S M := (rfl)
theorem tr_rt {cl : List Str} {i : Nat} {su : Addr → Addr → Ex → TF} : (P.tr cl i su).rt d M = P.rt d M := (rfl)
end
end QL
end
section
set_option Elab.async false
set_option linter.all false
set_option maxRecDepth 100000
set_option maxHeartbeats 4000000
set_option autoImplicit false
namespace QL
open PySem PySem.Spec L2
open Classical
local macro_rules | `(tactic| simp_arith [$as,*]) => `(tactic| simp only [wp_ok, wp_rz, sq_nx, sq_rt, sq_bk, sq_ct, sq_rz, sq_ez, swp_nx, swp_rt, swp_bk, swp_ct, swp_rz, wv_some, w_eVar, w_eC, w_aNil, Kc2_ap, Kc1_ap, w_aCons, Kcl_ap, w_eCall, w_eTup, Ktu_0, Ktu_1, Ktu_2, Ktu_3, Ktu_4, w_eLst, Kls_0, Kls_1, Kls_2, Kls_3, Kls_4, Kls_5, Kls_6, Kls_7, Kls_8, Kls_9, w_eLstP, Klp_0, Klp_1, Klp_2, K2c_ap, K2b_ap, w_e2, K3d_t, K3d_f, K3c_ap, K3b_ap, w_e3, KbV_ap, w_bV, Kno_ap, w_bNot, Kan_t, Kan_f, w_bAnd, Kor_t, Kor_f, w_bOr, w_bYes, Ken_ap, w_eNot, Kea_t, Kea_f, w_eAnd, Keo_t, Keo_f, w_eOr, Kei_t, Kei_f, w_eIf, w_kNil, w_kSeq, w_kRet, w_kRetN, Kdr_ap, w_kDrop, Kif_t, Kif_f, w_kIf, w_kBreak, w_kCont, Kas_ap, w_kAsg, w_gN, w_gNil, Kgc_ap, w_gCons, w_gTup2, w_gTup3, wls_some, Ks2_ap, Ks1_ap, w_gSubL, Kpr_ap, w_kPar, Kau_ap, wau_i, w_kAug, wdp_some, Kd3_ap, Kd2_ap, Kd1_ap, w_kDPut, Kg4_ap, wlk_i, Kg2_ap, Kg1_ap, w_kDAug, w_oNone, Kso_ap, w_oSome, Kl3_ap, Kl2_ap, Kl1_ap, w_eSl, Kfl_1, w_eFld, w_eMeth, Kis_l, w_iSeq, Kit_t, w_iTup, w_iRange1, Ken1_l, w_iEnum, Kfo_ap, w_kFor, turn_nx, turn_ct, turn_rt, turn_bk, turn_rz, turn_ez, Ktn_ap, w_eLc, w_eLcP, Klb_t, Klb_f, Klg_ap, pof_nx, pof_rt, List.getElem?_cons_succ, List.getElem?_cons_zero, List.set_cons_succ, List.set_cons_zero, kl_cons, kl_nil, List.map_cons, List.map_nil, List.replicate_succ, List.replicate_zero, List.cons_append, List.nil_append, Bool.not_true, Bool.not_false, fAdd_i, fSub_i, fLt_i, fLe_i, fGt_i, fGe_i, fEqA_i, fEqA_s, fNe_i, fNe_s, fNe_b, fSl_l, bLenA_l, bMax2_i, bMin2_i, bInt_b, bInt_i, fIs0_n, fNot0_n, fIs0_i, fNot0_i, fNot0_p, $as,*])
/-! QWp4: lists that grow and shrink. -/
section
variable {M : Mem} {S : Sl} {Q : QQ D} {E : XQ} {P : Po} {e o v : EF} {d y w : D} {k n : Nat} {ds : List D} {t : TF}
theorem Kf2_at1 {cl f : Str} {y0 : D} (h : M[k]? = some (.obj cl [(f, y0)])) : Kf2 cl f y S P (.ptr k) M = P.nx S (M.set k (.obj cl [(f, y)])) := by
  simp [Kf2, h, putD]
def Kap2 (k : Nat) (Q : QQ D) : QQ D := fun y M => match M[k]? with
  | some (.lst ds) => ds.length < sizeLine ∧ Q .non (M.set k (.lst (ds ++ [y])))
  | _ => False
theorem Kap2_at (h : M[k]? = some (.lst ds)) (hl : ds.length < sizeLine) : Kap2 k Q y M = Q .non (M.set k (.lst (ds ++ [y]))) := by
  simp only [Kap2, h]
  exact propext ⟨fun z => z.2, fun z => ⟨hl, z⟩⟩
def Kap (v : EF) (S : Sl) (Q : QQ D) (E : XQ) : QQ D := fun d M => match d with
  | .ptr k => match M[k]? with
    | some (.lst _) => wp (v S M) (Kap2 k Q) E
    | _ => False
  | _ => False
theorem Kap_at (h : M[k]? = some (.lst ds)) : Kap v S Q E (.ptr k) M = wp (v S M) (Kap2 k Q) E := by simp only [Kap, h]
theorem app_wp (h : wp (o S M) (Kap v S Q E) E) : wp (eApp o v S M) Q E := by
  unfold eApp; rw [wp_bind]
  refine wp_imp h (fun d M1 h => ?_) fun _ _ h => h
  unfold Kap at h
  cases d with
  | ptr k =>
    simp only at h
    split at h
    · rename_i ds hk
      have a : asL M1 (.ptr k) = some ds := by simp only [asL, hk]
      simp only [a]
      rw [wp_bind]
      refine wp_imp h (fun y M2 h => ?_) fun _ _ h => h
      unfold Kap2 at h
      rcases hm : M2[k]? with _ | mo
      · simp only [hm] at h
      · cases mo with
        | lst es =>
          simp only [hm] at h ⊢
          rw [if_pos h.1]
          exact h.2
        | _ => simp only [hm] at h
    · exact h.elim
  | _ => exact h.elim
def Kpi2 (k : Nat) (Q : QQ D) : QQ D := fun y M => match y with
  | .int i => match M[k]? with
    | some (.lst ds) => ∃ j w, ixN ds.length i = some j ∧ ds[j]? = some w ∧ ds.length ≤ sizeLine ∧ Q w (M.set k (.lst (ds.eraseIdx j)))
    | _ => False
  | _ => False
theorem Kpi2_at (h : M[k]? = some (.lst ds)) (hn : ds[n]? = some w) (hl : ds.length ≤ sizeLine) (q : Q w (M.set k (.lst (ds.eraseIdx n)))) : Kpi2 k Q (.int (n : Nat)) M := by
  have := (List.getElem?_eq_some_iff.mp hn).1
  simp only [Kpi2, h]
  exact ⟨n, w, by unfold ixN; rw [if_pos (Int.natCast_nonneg n), if_pos (by omega)]; simp, hn, hl, q⟩
def Kpi (v : EF) (S : Sl) (Q : QQ D) (E : XQ) : QQ D := fun d M => match d with
  | .ptr k => match M[k]? with
    | some (.lst _) => wp (v S M) (Kpi2 k Q) E
    | _ => False
  | _ => False
theorem Kpi_at (h : M[k]? = some (.lst ds)) : Kpi v S Q E (.ptr k) M = wp (v S M) (Kpi2 k Q) E := by simp only [Kpi, h]
theorem popI_wp (h : wp (o S M) (Kpi v S Q E) E) : wp (ePopI o v S M) Q E := by
  unfold ePopI; rw [wp_bind]
  refine wp_imp h (fun d M1 h => ?_) fun _ _ h => h
  unfold Kpi at h
  cases d with
  | ptr k =>
    simp only at h
    split at h
    · rename_i ds hk
      have a : asL M1 (.ptr k) = some ds := by simp only [asL, hk]
      simp only [a]
      rw [wp_bind]
      refine wp_imp h (fun y M2 h => ?_) fun _ _ h => h
      unfold Kpi2 at h
      split at h
      · rename_i i
        split at h
        · rename_i es hk2
          obtain ⟨j, w, h1, h2, h3, h4⟩ := h
          simp only [hk2, h1, h2]
          rw [if_pos h3]
          exact h4
        · exact h.elim
      · exact h.elim
    · exact h.elim
  | _ => exact h.elim
theorem len_p (hk : M[k]? = some (.lst ds)) : bLenA [.ptr k] M = .ok (.int ds.length) M := by
  have e : seqOf M (.ptr k) = some ds := by simp only [seqOf, asL, hk]
  have e3 : bLen [.ptr k] M = .ok (.int ds.length) M := by
    show (match seqOf M (.ptr k) with | some xs => Res.ok (D.int xs.length) M | none => .bad) = _
    rw [e]
  unfold bLenA orC
  rw [e3]
  rfl
/-- c times d -/
def rpl (c : Nat) (d : D) : List D := List.replicate c d
def Kq3 (d : D) (lo : Option Int) (Q : QQ D) (E : XQ) : QQ (Option Int) := fun hi M => wp (fSlP d lo hi M) Q E
theorem Kq3_ap {lo hi : Option Int} : Kq3 d lo Q E hi M = wp (fSlP d lo hi M) Q E := (rfl)
def Kq2 (d : D) (h : OF) (S : Sl) (Q : QQ D) (E : XQ) : QQ (Option Int) := fun lo M => wp (h S M) (Kq3 d lo Q E) E
theorem Kq2_ap {h : OF} {lo : Option Int} : Kq2 d h S Q E lo M = wp (h S M) (Kq3 d lo Q E) E := (rfl)
def Kq1 (l h : OF) (S : Sl) (Q : QQ D) (E : XQ) : QQ D := fun d M => wp (l S M) (Kq2 d h S Q E) E
theorem Kq1_ap {l h : OF} : Kq1 l h S Q E d M = wp (l S M) (Kq2 d h S Q E) E := (rfl)
theorem w_eSlP {l h : OF} : wp (eSlP e l h S M) Q E = wp (e S M) (Kq1 l h S Q E) E := by
  unfold eSlP; rw [wp_bind]; congr 1; funext d M1; rw [wp_bind]; unfold Kq1; congr 1; funext lo M2; rw [wp_bind]; rfl
end
end QL
end
section
set_option Elab.async false
set_option linter.all false
set_option maxRecDepth 100000
set_option maxHeartbeats 4000000
set_option autoImplicit false
/-! QEnumG: for at, x in enumerate(xs), xs a list at a place too. -/
namespace QL
open PySem PySem.Spec L2
open Classical
structure ItG where
  ds : List D
  gd : Mem → Prop
abbrev IFG := Sl → Mem → Res ItG
def PostIG (c : Cn) (W : WX) (σ : St) (G : Gd) (r : Res ItG) (R : It → Hp → Prop) : Prop := match r with
  | .ok I M => ∀ G' J H, Gr G G' → Rep c G' H M → Wk c G' J I.ds I.gd → R J H
  | .rz x M => ∀ G' cls dd H, Gr G G' → Rep c G' H M → ExV c G' x cls dd → W cls dd σ H
  | .bad => False
def UpIG (c : Cn) (W : WX) (f : IFG) : TI := fun σ H R => ∃ G S M, Rep c G H M ∧ SlR c G S σ ∧ PostIG c W σ G (f S M) R
def QIG (X : Cx) (W : WX) (tg iter : Expr) (f : IFG) : Prop := PI X tg iter (UpIG (cn X) W f)
theorem PostIG.bind {α β : Type} {c : Cn} {W : WX} {σ : St} {G : Gd} {rel : Gd → α → β → Prop} {r : Res α} {k : α → Mem → Res ItG} {R : It → Hp → Prop} (h : PostIG c W σ G (r.bind k) R) :
    Post c W σ G rel r (fun v H => ∃ G' d M, Gr G G' ∧ Rep c G' H M ∧ rel G' d v ∧ PostIG c W σ G' (k d M) R) := by
  cases r with
  | ok d M =>
    refine fun G2 v H g2 r q => ⟨G2, d, M, g2, r, q, ?_⟩
    have h' : PostIG c W σ G (k d M) R := h
    revert h'
    cases k d M with
    | ok d M => exact fun h G3 J H g3 r w => h G3 J H (g2.trans g3) r w
    | rz x M => exact fun h G3 cls dd H g3 r w => h G3 cls dd H (g2.trans g3) r w
    | bad => exact fun h => h
  | rz x M => exact h
  | bad => exact h
theorem UpIG.bind {α β : Type} {c : Cn} {W : WX} {σ : St} {H : Hp} {rel : Gd → α → β → Prop} {e : Sl → Mem → Res α} {k : Sl → α → Mem → Res ItG} {R : It → Hp → Prop} (h : UpIG c W (fun S M => (e S M).bind (k S)) σ H R) :
    Up c W rel e σ H (fun v H' => ∃ G S d M, Rep c G H' M ∧ SlR c G S σ ∧ rel G d v ∧ PostIG c W σ G (k S d M) R) := by
  obtain ⟨G, S, M, r, s, p⟩ := h
  exact ⟨G, S, M, r, s, (PostIG.bind p).imp fun v H' ⟨G', d, M', g, r', q, p'⟩ => ⟨G', S, d, M', r', s.mono g, q, p'⟩⟩


def iEnumG (a : AF) : IFG := fun S M => (a S M).bind fun ds M1 => match ds with
  | [.lst xs] => .ok ⟨enumD 0 xs, fun _ => True⟩ M1
  | [.ptr k] => match M1[k]? with
    | some (.lst xs) => .ok ⟨enumD 0 xs, fun M => M[k]? = some (.lst xs)⟩ M1
    | _ => .bad
  | _ => .bad
section
variable {X : Cx} {W : WX} {tg a : Expr} {ta : AF} {pp pos : Pos}
end
noncomputable def kForG (f : IFG) (g : GF) (t : TF) (vs : List Nat) : TF := fun S M => (f S M).thn S fun I M1 => forL I.gd g t vs I.ds S M1
section
variable {X : Cx} {W : WX} {pos : Pos} {tg iter : Expr} {body : List Stmt} {f : IFG} {g : GF} {t : TF} {vs : List Nat}
end


end QL
end
section
set_option Elab.async false
set_option linter.all false
set_option maxRecDepth 100000
set_option maxHeartbeats 1000000
set_option autoImplicit false
/-! QOwn: == of tables of numbers; isinstance(x, C), C an own class; == by an own __eq__. -/
namespace QL
open PySem PySem.Spec L2
open PySem.W (KeqHitsP)
open Classical
/-! ### == of tables of numbers -/
def intsK : List (Key × D) → Option (List (Key × Int))
  | [] => some []
  | (k, .int i) :: r => (intsK r).map ((k, i) :: ·)
  | _ => none
def encI (p : Key × Int) : Key × V := (p.1, .int p.2)
theorem intsK_at {c : Cn} {G : Gd} : ∀ {kvs : List (Key × D)} {us : List (Key × V)} {xs : List (Key × Int)}, DVk c G kvs us → intsK kvs = some xs → us = xs.map encI
  | [], _, _, q, h => by
    cases h
    exact q
  | (k, d) :: r, _, xs, q, h => by
    obtain ⟨⟨k', v⟩, t, rfl, ⟨e, q1⟩, q2⟩ := q
    cases d with
    | int i =>
      have h' : (intsK r).map ((k, i) :: ·) = some xs := h
      cases e2 : intsK r with
      | none => rw [e2] at h'; cases h'
      | some ys =>
        rw [e2] at h'
        cases h'
        have ev : v = V.int i := q1
        have ek : k' = k := e
        rw [intsK_at q2 e2, ev, ek]
        rfl
    | _ => cases h
def valI (xs : List (Key × Int)) (k : Key) : Option Int := (xs.find? fun kv => decide (kv.1 = k)).map (·.2)
theorem valI_V (xs : List (Key × Int)) (k : Key) : valV (xs.map encI) k = (valI xs k).map V.int := by
  unfold valV valI
  rw [List.find?_map]
  cases h : xs.find? ((fun kv : Key × V => decide (kv.1 = k)) ∘ encI) with
  | none =>
    have h' : xs.find? (fun kv => decide (kv.1 = k)) = none := h
    rw [h']
    rfl
  | some p =>
    have h' : xs.find? (fun kv => decide (kv.1 = k)) = some p := h
    rw [h']
    rfl
def hitT (ys xs : List (Key × Int)) : Bool := xs.all fun p => decide (valI ys p.1 = some p.2)
def eqT (xs ys : List (Key × Int)) : Bool := xs.length == ys.length && hitT ys xs
def fEqDK (x y : D) (M : Mem) : Res D := match asK M x, asK M y with
  | some a, some b => match intsK a, intsK b with
    | some xs, some ys => .ok (.bl (eqT xs ys)) M
    | _, _ => .bad
  | _, _ => .bad
def rEqDK : R2 := fun x y H Q => ∃ a b xs ys, x = .ref a ∧ y = .ref b ∧ Rd H a (.dK (xs.map encI)) ∧ Rd H b (.dK (ys.map encI)) ∧ Q (.bl (eqT xs ys)) H
theorem hits_at {P : Program} {w : World} {A : Around} {s : Shared} {ys : List (Key × Int)} {vb : List (Key × Value)} (kb : KV (ys.map encI) vb) : ∀ (xs : List (Key × Int)) (va : List (Key × Value)), KV (xs.map encI) va → KeqHitsP P w A s vb va (hitT ys xs)
  | [], va, h => by
    cases h
    exact .nil
  | (k, i) :: r, va, h => by
    cases h with
    | @cons _ p _ va' h t =>
      obtain ⟨k', v⟩ := p
      obtain ⟨e, rv⟩ := h
      have e' : k = k' := e
      subst e'
      obtain ⟨tk, rfl⟩ := (show ∃ t, v = Value.int i t from rv)
      have ih := hits_at (P := P) (w := w) (A := A) (s := s) kb r va' t
      have vl := kb.val k
      rw [valI_V] at vl
      have eh : hitT ys ((k, i) :: r) = (decide (valI ys k = some i) && hitT ys r) := rfl
      rw [eh]
      cases ev : valI ys k with
      | none =>
        rw [ev] at vl
        have vn : PySem.valueAt vb k = none := by
          cases z : PySem.valueAt vb k with
          | none => rfl
          | some u => rw [z] at vl; exact vl.elim
        have : (decide ((none : Option Int) = some i) && hitT ys r) = false := rfl
        rw [this]
        exact .miss vn
      | some j =>
        rw [ev] at vl
        obtain ⟨u, vs, ru⟩ : ∃ u, PySem.valueAt vb k = some u ∧ RelV (V.int j) u := by
          cases z : PySem.valueAt vb k with
          | none => rw [z] at vl; exact vl.elim
          | some u => rw [z] at vl; exact ⟨u, rfl, vl⟩
        obtain ⟨tu, rfl⟩ := (show ∃ t, u = Value.int j t from ru)
        have h1 := KeqHitsP.hit vs (SeqAt.EqAt.int_int i tk j tu (A := A) (s := s)).eqP ih
        have : (decide (some j = some i) && hitT ys r) = ((i == j) && hitT ys r) := by
          congr 1
          by_cases q : i = j
          · subst q; simp
          · have q' : ¬ some j = some i := fun z => q (Option.some.inj z).symm
            rw [decide_eq_false q', beq_eq_false_iff_ne.mpr q]
        rw [this]
        exact h1
section
variable {X : Cx}
theorem op_eqDK (hu : X.A.units + 64 < cLine) : OpR X (compareOp .Eq) rEqDK := by
  intro pins s σ H x y v u Q I rx ry h
  obtain ⟨a, b, xs, ys, rfl, rfl, h1, h2, q⟩ := h
  cases (show v = Value.ref a from rx)
  cases (show u = Value.ref b from ry)
  obtain ⟨_, sa, va, ka, da⟩ := dk_rd I.hok h1
  obtain ⟨_, sb, vb, kb, db⟩ := dk_rd I.hok h2
  refine PySem.W.rcP_dicts sa sb da db (by omega) (r := hitT ys xs) (fun _ => hits_at kb xs va ka) _ _ ?_
  have la : va.length = xs.length := by rw [← KV.length ka, List.length_map]
  have lb : vb.length = ys.length := by rw [← KV.length kb, List.length_map]
  rw [la, lb]
  exact ⟨.bl (eqT xs ys), H, I, rfl, q⟩
end
theorem r2_eqDK {c : Cn} : R2s c fEqDK rEqDK := by
  intro W σ G H M x y dx dy Q r qx qy p
  unfold fEqDK at p
  split at p
  · rename_i ka kb ea eb
    split at p
    · rename_i xs ys ex ey
      obtain ⟨a, us, rfl, s1, t1⟩ := asK_at r qx ea
      obtain ⟨b, ws, rfl, s2, t2⟩ := asK_at r qy eb
      have e1 := intsK_at t1 ex
      have e2' := intsK_at t2 ey
      subst e1
      subst e2'
      exact ⟨a, b, xs, ys, rfl, rfl, s1, s2, p G _ H (Gr.refl _) r rfl⟩
    · exact p.elim
  · exact p.elim
section
variable {X : Cx} {W : WX} {pos : Pos} {a b : Expr} {fa fb : EF}
theorem qeqDK (hu : X.A.units + 64 < cLine) (ha : QE X W a fa) (hb : QE X W b fb) : QE X W (.Compare a [.Eq] [b] pos) (e2 fEqDK fa fb) := q_cmp (op_eqDK hu) r2_eqDK (nomark _) ha hb
end
end QL
end
section
set_option Elab.async false
set_option linter.all false
set_option maxRecDepth 100000
set_option maxHeartbeats 1000000
set_option autoImplicit false
/-! QEqT: == and != of tables of numbers whose keys are tuples. -/
namespace PySem.W
open PySem PySem.Calls PyProof.Rows PyProof.V PySem.Spec
section
variable {M : Model} {A : Around} {E : Value → Shared → Prop} {s : Shared}
/-- a loop over 0..n-1 that stops at the first answer it finds, and whose turns leave the state alone -/
theorem search {β : Type} {n : Nat} {body : Nat → Option β × Unit → Sem (ForInStep (Option β × Unit))} {P : Nat → Prop} {R : β → Prop} {Q : Option β × Unit → Shared → Prop}
    (turn : ∀ i, i < n → P i → wpAny M A (body i (none, ())) (fun r s' => s' = s ∧ ((r = .yield (none, ()) ∧ P (i + 1)) ∨ ∃ b, r = .done (some b, ()) ∧ R b)) E s)
    (through : P n → Q (none, ()) s) (found : ∀ b, R b → Q (some b, ()) s) : ∀ (d i : Nat), i + d = n → P i → wpAny M A (forIn (List.range' i d) ((none, ()) : Option β × Unit) body) Q E s
  | 0, i, h, p => by
    rw [show List.range' i 0 = [] from rfl, List.forIn_nil]
    have : i = n := by omega
    exact wpAny_pure (through (this ▸ p))
  | d + 1, i, h, p => by
    rw [show List.range' i (d + 1) = i :: List.range' (i + 1) d from List.range'_succ .., List.forIn_cons]
    refine wpAny_bind (wpAny_mono (turn i (by omega) p) (fun r s' ⟨same, o⟩ => ?_) fun _ _ h => h)
    rw [same]
    rcases o with ⟨rfl, p1⟩ | ⟨b, rfl, rb⟩
    · exact search turn through found d (i + 1) (by omega) p1
    · exact wpAny_pure (found b rb)
end
section
variable {prog : Program} {w : World} {K : Type} [DecidableEq K] {knd : HeapKind prog w K} {A : Around} {E : Value → Shared → Prop} {s : Shared}
/-- keys and values without the keys' addresses -/
def bare (xs : List (K × Addr × Value)) : List (K × Value) := xs.map fun x => (x.1, x.2.2)
theorem bare_absent {k : K} {xs : List (K × Addr × Value)} (h : ∀ x ∈ xs, x.1 ≠ k) : valueAt (bare xs) k = none := by
  unfold valueAt bare
  rw [Option.map_eq_none_iff, List.find?_eq_none]
  intro y hy
  obtain ⟨x, hx, rfl⟩ := List.mem_map.mp hy
  simpa using h x hx
theorem bare_present {k : K} {p : Addr × Value} {xs : List (K × Addr × Value)} (nd : (xs.map (·.1)).Nodup) (h : (k, p) ∈ xs) : valueAt (bare xs) k = some p.2 := by
  induction xs with
  | nil => cases h
  | cons x r ih =>
    rw [List.map_cons, List.nodup_cons] at nd
    unfold bare valueAt at ih ⊢
    rw [List.map_cons, List.find?_cons]
    rcases List.mem_cons.mp h with e | m
    · subst e
      simp
    · have ne : x.1 ≠ k := fun e => nd.1 (List.mem_map.mpr ⟨(k, p), m, e.symm⟩)
      simp only [decide_eq_false ne]
      exact ih nd.2 m
theorem samePairsH {nm : String} {a b : Addr} {xa xb : List (K × Addr × Value)} {r : Bool} {Q : Bool → Shared → Prop} (hu : knd.room A) (ha : (a == sysModules) = false) (hb : (b == sysModules) = false)
    (da : s.heap.DictOfH knd a xa) (db : s.heap.DictOfH knd b xb) (hits : xa.length = xb.length → KeqHitsP prog w A s (bare xb) (bare xa) r) (h : Q (xa.length == xb.length && r) s) :
    wpAny (model prog w) A (Builtin.Dict.samePairs nm a b) Q E s := by
  obtain ⟨oa, ea, na, geta, _, data, ra, isa, _⟩ := da
  obtain ⟨ob, eb, nb, getb, _, datb, rb, isb, onceb⟩ := db
  have la := size_of_entries ra
  have lb := size_of_entries rb
  have sa : Builtin.Dict.showsAll a = pure () := by
    unfold Builtin.Dict.showsAll
    rw [ha]
    rfl
  have sb : Builtin.Dict.showsAll b = pure () := by
    unfold Builtin.Dict.showsAll
    rw [hb]
    rfl
  unfold Builtin.Dict.samePairs
  rw [sa, sb]
  refine wpAny_bind (m := pure ()) (wpAny_pure (wpAny_bind (m := pure ()) (wpAny_pure (wpAny_bind (m := dictEntries a) (wpAny_dictEntries geta data (wpAny_bind (m := dictEntries b) (wpAny_dictEntries getb datb ?_)))))))
  by_cases same : xa.length = xb.length
  · have sizes : (ea.size != eb.size) = false := by
      rw [la, lb, same]
      exact bne_self_eq_false _
    rw [beq_iff_eq.mpr same, Bool.true_and] at h
    have agree := hits same
    refine PySem.W.KFB.if_not sizes ?_
    refine wpAny_bind (m := dictEpoch a) (wpAny_dictEpoch geta data ?_)
    refine wpAny_bind ?_
    rw [Std.Legacy.Range.forIn_eq_forIn_range']
    refine search (s := s) (P := fun i => KeqHitsP prog w A s (bare xb) ((bare xa).drop i) r) (R := fun x => x = r) ?_ ?_ ?_ _ 0 (by simp [Std.Legacy.Range.size]; rfl) agree
    · intro i lt p
      have lt : i < xa.length := by simpa [Std.Legacy.Range.size, la] using lt
      obtain ⟨⟨k, q, v⟩, here⟩ : ∃ x, xa[i]? = some x := ⟨_, List.getElem?_eq_getElem lt⟩
      have mine : (k, q, v) ∈ xa := List.mem_of_getElem? here
      have entry : ea[i]? = some ⟨knd.hash k, .ref q, v⟩ := by
        rw [entry_at ra i, here]
        rfl
      have next : (bare xa).drop i = (k, v) :: (bare xa).drop (i + 1) := by
        have at_ : (bare xa)[i]? = some (k, v) := by
          unfold bare
          rw [List.getElem?_map, here]
          rfl
        obtain ⟨l, e⟩ := List.getElem?_eq_some_iff.mp at_
        rw [List.drop_eq_getElem_cons l, e]
      rw [next] at p
      -- what the other dict holds at this key decides
      have seek : ∀ {Q2 : Option Nat → Shared → Prop}, (valueAt (bare xb) k = none → Q2 none s) → (∀ j p2, xb[j]? = some (k, p2) → valueAt (bare xb) k = some p2.2 → Q2 (some j) s) → wpAny (model prog w) A (dictFind b (.ref q) (knd.hash k)) Q2 E s := fun no yes =>
        wpAny_dictFind_heap hu (isa _ mine) getb datb rb isb onceb (fun n => no (bare_absent fun x hx e => by
          obtain ⟨j, hj⟩ := List.mem_iff_getElem?.mp hx
          obtain ⟨xk, xp⟩ := x
          cases e
          exact n j xp hj)) fun j p2 hj => yes j p2 hj (bare_present onceb (List.mem_of_getElem? hj))
      refine wpAny_bind (m := dictEntries a) (wpAny_dictEntries geta data ?_)
      rw [entry]
      -- the answer of the turn: what it is worth is what is still to be compared
      refine wpAny_bind (wpAny_mono (Q := fun e s' => s' = s ∧ if e = true then KeqHitsP prog w A s (bare xb) ((bare xa).drop (i + 1)) r else r = false) (wpAny_holding (wpAny_bind (m := dictFind b _ _) (seek (fun none_ => ?_) fun j p2 hj some_ => ?_))) (fun e s' ⟨same_, he⟩ => ?_) fun _ _ h => h)
      · cases p with
        | miss _ => exact wpAny_pure ⟨rfl, rfl⟩
        | hit y _ _ => rw [none_] at y; cases y
      · have entryb : eb[j]? = some ⟨knd.hash k, .ref p2.1, p2.2⟩ := by
          rw [entry_at rb j, hj]
          rfl
        refine wpAny_bind (m := dictEntries b) (wpAny_dictEntries getb datb ?_)
        rw [entryb]
        cases p with
        | miss y => rw [some_] at y; cases y
        | @hit _ _ _ _ e _ y eq rest =>
          rw [some_] at y
          cases y
          refine wpAny_holding (eq _ _ ⟨rfl, ?_⟩)
          cases e with
          | true => simpa using rest
          | false => exact Bool.false_and _
      rw [same_]
      cases e with
      | false => exact wpAny_pure ⟨rfl, .inr ⟨false, rfl, he.symm⟩⟩
      | true =>
        refine wpAny_bind (m := dictEpoch a) (wpAny_dictEpoch geta data ?_)
        refine PySem.W.KFB.if_not (bne_self_eq_false na) ?_
        exact wpAny_pure ⟨rfl, .inl ⟨rfl, he⟩⟩
    · intro p
      rw [List.drop_eq_nil_of_le (by simp [bare, la])] at p
      cases p
      exact wpAny_pure h
    · rintro _ rfl
      exact wpAny_pure h
  · have sizes : (ea.size != eb.size) = true := by
      rw [la, lb]
      simpa using same
    rw [beq_eq_false_iff_ne.mpr same, Bool.false_and] at h
    refine PySem.W.KFB.if_so sizes ?_
    exact wpAny_bind (wpAny_rule (wpAny_pure h))
section
variable {a b : Addr} {xa xb : List (K × Addr × Value)} {r : Bool} (hro : knd.room A.in1) (ha : (a == sysModules) = false) (hb : (b == sysModules) = false) (da : s.heap.DictOfH knd a xa) (db : s.heap.DictOfH knd b xb)
include hro ha hb da db
/-- the slots of two dicts: their operands, their kind, then the walk over the pairs -/
theorem slot_dicts {nm lab : String} {k : Bool → Sem Fin} {Q : Fin → Shared → Prop} (hits : xa.length = xb.length → KeqHitsP prog w A.in1 s (bare xb) (bare xa) r) (h : wpAny (model prog w) A.in1 (k (xa.length == xb.length && r)) Q E s) :
    wpAny (model prog w) A.in1 (do
      let (x, y) ← Builtin.Dict.dictSlotArgs nm ⟨[.ref a, .ref b], []⟩
      if !(← isInstance y (.type "dict")) then
        rule lab
        return ← ret .notImplemented
      k (← Builtin.Dict.samePairs s!"dict.{nm}" (← Builtin.Dict.addrOf x) (← Builtin.Dict.addrOf y))) Q E s := by
  have args : ∀ {R : Value × Value → Shared → Prop}, R (.ref a, .ref b) s → wpAny (model prog w) A.in1 (Builtin.Dict.dictSlotArgs nm ⟨[.ref a, .ref b], []⟩) R E s := fun q =>
    wpAny_bind (m := Builtin.Dict.notOrdered nm _) (wpAny_notOrdered_dict da.typeIs (wpAny_bind (wpAny_pure (wpAny_pure q))))
  refine wpAny_bind (m := Builtin.Dict.dictSlotArgs nm _) (args ?_)
  refine wpAny_bind (m := isInstance _ _) (wpAny_isInstance (T := "dict") db.typeIs PySem.F.sub_dict_dict ?_)
  refine PySem.W.KFB.if_not rfl ?_
  refine wpAny_bind (m := Builtin.Dict.addrOf _) (wpAny_pure (wpAny_bind (m := Builtin.Dict.addrOf _) (wpAny_pure ?_)))
  exact wpAny_bind (m := Builtin.Dict.samePairs _ _ _) (samePairsH hro ha hb da db hits h)
theorem rcH_dicts (hu : A.units < cLine) (hits : xa.length = xb.length → KeqHitsP prog w A.in1 s (bare xb) (bare xa) r) (E Q : Value → Shared → Prop) (h : Q (.bool (xa.length == xb.length && r)) s) : wpAny (model prog w) A (richCompare .Eq (.ref a) (.ref b)) Q E s :=
  wpAny_richCompare_same_room (op := .Eq) da.typeIs db.typeIs PySem.F.slot_dict_eq (wpAny_call_entry PySem.F.slot_dict_eq da.typeIs PySem.F.entry_dict_eq
    (slot_dicts hro ha hb da db (nm := "__eq__") (k := fun q => ret (.bool (q == true))) hits (wpAny_pure ⟨_, rfl, nofun, by rw [show ∀ q : Bool, (q == true) = q by decide]; exact h⟩)) (PySem.F.args_dict_eq_2 _ _)) hu
end
end
end PySem.W
namespace QL
open PySem PySem.Spec L2
open PySem.W (KeqHitsP)
open Classical
def intsT : List (List Key × D) → Option (List (List Key × Int))
  | [] => some []
  | (k, .int i) :: r => (intsT r).map ((k, i) :: ·)
  | _ => none
def encJ (p : List Key × Int) : List Key × V := (p.1, .int p.2)
theorem intsT_at {c : Cn} {G : Gd} : ∀ {kvs : List (List Key × D)} {us : List (List Key × V)} {xs : List (List Key × Int)}, DVt c G kvs us → intsT kvs = some xs → us = xs.map encJ
  | [], _, _, q, h => by
    cases h
    exact q
  | (k, d) :: r, _, xs, q, h => by
    obtain ⟨⟨k', v⟩, t, rfl, ⟨e, q1⟩, q2⟩ := q
    cases d with
    | int i =>
      have h' : (intsT r).map ((k, i) :: ·) = some xs := h
      cases e2 : intsT r with
      | none => rw [e2] at h'; cases h'
      | some ys =>
        rw [e2] at h'
        cases h'
        have ev : v = V.int i := q1
        have ek : k' = k := e
        rw [intsT_at q2 e2, ev, ek]
        rfl
    | _ => cases h
def valJ (xs : List (List Key × Int)) (k : List Key) : Option Int := (xs.find? fun kv => decide (kv.1 = k)).map (·.2)
def hitJ (ys xs : List (List Key × Int)) : Bool := xs.all fun p => decide (valJ ys p.1 = some p.2)
def eqJ (xs ys : List (List Key × Int)) : Bool := xs.length == ys.length && hitJ ys xs
def fEqDT (x y : D) (M : Mem) : Res D := match asTt M x, asTt M y with
  | some a, some b => match intsT a, intsT b with
    | some xs, some ys => .ok (.bl (eqJ xs ys)) M
    | _, _ => .bad
  | _, _ => .bad
def fNeDT (x y : D) (M : Mem) : Res D := match asTt M x, asTt M y with
  | some a, some b => match intsT a, intsT b with
    | some xs, some ys => .ok (.bl (!eqJ xs ys)) M
    | _, _ => .bad
  | _, _ => .bad
def rEqDT (neg : Bool) : R2 := fun x y H Q => ∃ a b xs ys, x = .ref a ∧ y = .ref b ∧ Rd H a (.dT (xs.map encJ)) ∧ Rd H b (.dT (ys.map encJ)) ∧ Q (.bl (neg ^^ eqJ xs ys)) H
theorem val_KT {H : Hp} {k : List Key} : ∀ {ys : List (List Key × Int)} {xb : List (List Key × Addr × Value)}, KT H (ys.map encJ) xb → match valJ ys k with
    | some i => ∃ t, PySem.valueAt (xb.map fun x => (x.1, x.2.2)) k = some (.int i t)
    | none => PySem.valueAt (xb.map fun x => (x.1, x.2.2)) k = none
  | [], _, h => by cases h; exact rfl
  | (k', i) :: r, _, h => by
    cases h with
    | @cons _ q _ xb' h t =>
      obtain ⟨kq, aq, vq⟩ := q
      obtain ⟨e, _, rv⟩ := h
      have e' : k' = kq := e
      subst e'
      obtain ⟨tk, rfl⟩ := (show ∃ t, vq = Value.int i t from rv)
      have ih := val_KT (k := k) t
      by_cases z : k' = k
      · have : valJ ((k', i) :: r) k = some i := by simp [valJ, z]
        rw [this]
        exact ⟨tk, by simp [PySem.valueAt, z]⟩
      · have : valJ ((k', i) :: r) k = valJ r k := by simp [valJ, z]
        rw [this]
        have e2 : PySem.valueAt (((k', aq, Value.int i tk) :: xb').map fun x => (x.1, x.2.2)) k = PySem.valueAt (xb'.map fun x => (x.1, x.2.2)) k := by
          simp [PySem.valueAt, z]
        rw [e2]
        exact ih
theorem hits_KT {P : Program} {w : World} {A : Around} {s : Shared} {H : Hp} {ys : List (List Key × Int)} {xb : List (List Key × Addr × Value)} (kb : KT H (ys.map encJ) xb) :
    ∀ (xs : List (List Key × Int)) (xa : List (List Key × Addr × Value)), KT H (xs.map encJ) xa → KeqHitsP P w A s (xb.map fun x => (x.1, x.2.2)) (xa.map fun x => (x.1, x.2.2)) (hitJ ys xs)
  | [], xa, h => by
    cases h
    exact .nil
  | (k, i) :: r, xa, h => by
    cases h with
    | @cons _ q _ xa' h t =>
      obtain ⟨kq, aq, vq⟩ := q
      obtain ⟨e, _, rv⟩ := h
      have e' : k = kq := e
      subst e'
      obtain ⟨tk, rfl⟩ := (show ∃ t, vq = Value.int i t from rv)
      have ih := hits_KT (P := P) (w := w) (A := A) (s := s) kb r xa' t
      have vl := val_KT (k := k) kb
      have eh : hitJ ys ((k, i) :: r) = (decide (valJ ys k = some i) && hitJ ys r) := rfl
      rw [eh]
      cases ev : valJ ys k with
      | none =>
        rw [ev] at vl
        have : (decide ((none : Option Int) = some i) && hitJ ys r) = false := rfl
        rw [this]
        exact .miss vl
      | some j =>
        rw [ev] at vl
        obtain ⟨tu, vs⟩ := vl
        have h1 := KeqHitsP.hit vs (SeqAt.EqAt.int_int i tk j tu (A := A) (s := s)).eqP ih
        have : (decide (some j = some i) && hitJ ys r) = ((i == j) && hitJ ys r) := by
          congr 1
          by_cases q : i = j
          · subst q; simp
          · have q' : ¬ some j = some i := fun z => q (Option.some.inj z).symm
            rw [decide_eq_false q', beq_eq_false_iff_ne.mpr q]
        rw [this]
        exact h1
section
variable {X : Cx}
theorem kt_len {H : Hp} {kvs : List (List Key × V)} {xs : List (List Key × Addr × Value)} (h : KT H kvs xs) : xs.length = kvs.length := by
  induction h with
  | nil => rfl
  | cons _ _ same => simpa using same
theorem op_eqDT (hu : X.A.units + 64 < cLine) : OpR X (compareOp .Eq) (rEqDT false) := by
  intro pins s σ H x y v u Q I rx ry h
  obtain ⟨a, b, xs, ys, rfl, rfl, h1, h2, q⟩ := h
  cases (show v = Value.ref a from rx)
  cases (show u = Value.ref b from ry)
  obtain ⟨_, sa, xa, ka, da⟩ := dt_rd I.hok h1
  obtain ⟨_, sb, xb, kb, db⟩ := dt_rd I.hok h2
  refine PySem.W.rcH_dicts (show X.A.in1.units < cLine by show X.A.units + 1 < cLine; omega) sa sb da db (by omega) (r := hitJ ys xs) (fun _ => hits_KT kb xs xa ka) _ _ ?_
  rw [kt_len ka, kt_len kb, List.length_map, List.length_map]
  exact ⟨.bl (eqJ xs ys), H, I, rfl, by simpa using q⟩
end
theorem r2_eqDT {c : Cn} : R2s c fEqDT (rEqDT false) := by
  intro W σ G H M x y dx dy Q r qx qy p
  unfold fEqDT at p
  split at p
  · rename_i ka kb ea eb
    split at p
    · rename_i xs ys ex ey
      obtain ⟨a, us, rfl, s1, t1⟩ := asTt_at r qx ea
      obtain ⟨b, ws, rfl, s2, t2⟩ := asTt_at r qy eb
      have e1 := intsT_at t1 ex
      have e2' := intsT_at t2 ey
      subst e1
      subst e2'
      exact ⟨a, b, xs, ys, rfl, rfl, s1, s2, p G _ H (Gr.refl _) r (by simp; rfl)⟩
    · exact p.elim
  · exact p.elim
section
variable {X : Cx} {W : WX} {pos : Pos} {a b : Expr} {fa fb : EF}
theorem qeqDT (hu : X.A.units + 64 < cLine) (ha : QE X W a fa) (hb : QE X W b fb) : QE X W (.Compare a [.Eq] [b] pos) (e2 fEqDT fa fb) := q_cmp (op_eqDT hu) r2_eqDT (nomark _) ha hb
end
end QL
end
section
set_option Elab.async false
set_option linter.all false
set_option maxRecDepth 100000
set_option maxHeartbeats 1000000
set_option autoImplicit false
/-! QOwn2: isinstance(x, C), C an own class; x == y by an own __eq__. -/
namespace QL
open PySem PySem.Spec L2
open Classical
/-- what is known of an own class with an own == -/
structure OwnC (K : PySem.W.Frag) (C : Addr) : Prop where
  cls : Cls K C
  ca : PySem.W.findIn K (.ref C) "__class__" = some (some (.builtin "object.__class__"))
  cn : PySem.W.specialIn K (.builtin "object.__class__") "__get__" = some (some (.builtin "getset_descriptor.__get__"))
  ct : PySem.W.takesIn K (.builtin "object.__class__") = some true
  cm : PySem.W.mroIn K C (.type "object") = some true
  self : PySem.W.kitOne K (.ref C) (.ref C) = some true
  di : PySem.W.kitOne K (.type "dict") (.ref C) = some false
  sd : PySem.W.subIn K (.type "dict") (.ref C) = some false
def eIsC (cl : Str) (e : EF) : EF := fun S M => (e S M).bind fun d M1 => match isObj cl d M1 with
  | some _ => .ok (.bl true) M1
  | none => match asK M1 d with
    | some _ => .ok (.bl false) M1
    | none => .bad
def eEqO (cl : Str) (g : List D → Mem → Res D) (a b : EF) : EF := fun S M => (a S M).bind fun x M1 => (b S M1).bind fun y M2 => match isObj cl x M2 with
  | some _ => if (isObj cl y M2).isSome = true ∨ (asK M2 y).isSome = true then match g [x, y] M2 with
      | .ok (.bl r) M3 => .ok (.bl r) M3
      | _ => .bad
    else .bad
  | none => .bad
theorem dict_ty {K : PySem.W.Frag} {H : Hp} {a : Addr} {us : List (Key × V)} (h : Rd H a (.dK us)) : TyX K H (.ref a) (.type "dict") := by
  rcases h with h | ⟨o, h⟩
  · exact .base (.dK h)
  · exact .fDict h
section
variable {X : Cx} {W : WX} {p p2 pos : Pos} {e a b : Expr} {fe fa fb : EF} {k : Nat} {ps : List Str} {g : List D → Mem → Res D} {cl : Str} {C f : Addr} {fd : FuncData}
theorem qisC (hC : X.mg cl = some (.ref C)) (oc : OwnC X.K C) (gt : Gl X cl) (hg : Gl X "isinstance") (hm : X.mg "isinstance" = none) (he : QE X W e fe) (hdt : (cl == ("__debug__" : Str)) = false := by decide)
    (h1 : starEach [e, .Name cl p2] X.env = (false, eval e X.env) :: starEach [.Name cl p2] X.env := by rfl) (h2 : starEach [.Name cl p2] X.env = (false, eval (.Name cl p2) X.env) :: starEach [] X.env := by rfl) (hp : (backTo pos (starEach [.Name cl p2] X.env)).any (·.1) = false := by rfl) :
    QE X W (.Call (.Name "isinstance" p) [e, .Name cl p2] [] pos) (eIsC cl fe) :=
  PE.imp (pe_callB call_isi hg hm (by decide +kernel) (pa_cons he (pa_cons (pe_glob (v := .ref C) gt hC rfl hdt) pa_nil h2) h1) (by decide) (by decide) h1 hp) fun σ H Q h => by
    refine Up.imp (Up.bind h) fun v H1 ⟨G, S, d, M, r, s, q, p⟩ => ?_
    split at p
    · rename_i fs hfs
      obtain ⟨a, dx, ws, rfl, e1, _⟩ := isObj_at r hC hfs q
      exact ⟨.ref a, .ref C, .ref C, .ref C, true, rfl, .own C, .base (.ins e1 oc.cls oc.ca oc.cn oc.ct oc.cm), oc.self, p G _ H1 (Gr.refl _) r rfl⟩
    · split at p
      · rename_i kvs hk
        obtain ⟨a, us, rfl, s1, _⟩ := asK_at r q hk
        exact ⟨.ref a, .ref C, .type "dict", .ref C, false, rfl, .own C, dict_ty s1, oc.di, p G _ H1 (Gr.refl _) r rfl⟩
      · exact p.elim
/-- x == y, x of the own class, y of it too or a dict -/
def rEqO (K : PySem.W.Frag) (C : Addr) (sp : Sp) : R2 := fun x y H Q => ∃ a dx ws b, x = .ref a ∧ y = .ref b ∧ H a = some (.ins C dx ws) ∧ ((∃ dy ws2, H b = some (.ins C dy ws2)) ∨ ∃ us, Rd H b (.dK us)) ∧ sp [x, y] H (fun v H1 => ∃ r, v = .bl r ∧ Q (.bl r) H1) (fun _ _ _ => False)
theorem op_eqO (oc : OwnC X.K C) (ok : FnOkG X.prog X.w X.K X.mg X.base k f fd ps (spF (cn X) g)) (hm : Meth X.K C "__eq__" f) (bd : Binds X.K fd ps []) (hr : RoomG k X.A) : OpR X (compareOp .Eq) (rEqO X.K C (spF (cn X) g)) := by
  intro pins s σ H x y v u Q I rx ry h
  obtain ⟨a, dx, ws, b, rfl, rfl, ha, hb, h⟩ := h
  cases (show v = Value.ref a from rx)
  cases (show u = Value.ref b from ry)
  obtain ⟨mA, O, _⟩ := ins_get I.hok ha
  obtain ⟨od, J, _⟩ := O.look
  obtain ⟨m, hF⟩ := I.fr
  have out : PassesAt (L2.CX X.prog X.w) X σ (fun _ _ _ => False) := fun _ _ _ _ _ _ c => by
    obtain ⟨_, _, _, _, _, _, _, _, _, _, _, _, hE⟩ := c
    exact hE.elim
  have run : wpAny (model X.prog X.w) X.A (call (.ref f) [.ref a, .ref b]) (PySem.W.CmpBack (EP X pins σ Q)) X.xe s := by
    refine wpAny_mono (run_fnG (E := fun _ _ _ _ => False) ok hr bd out I (us := [.ref a, .ref b]) (xs := [.ref a, .ref b]) (.cons rfl (.cons rfl .nil)) h) (fun w s1 z => ?_) fun _ _ x => x
    obtain ⟨v, H1, I1, rv, r, rfl, q⟩ := z
    cases (show w = Value.bool r from rv)
    exact ⟨.bl r, H1, I1, rfl, q⟩
  rcases hb with ⟨dy, ws2, hb⟩ | ⟨us, hb⟩
  · obtain ⟨mB, O2, _⟩ := ins_get I.hok hb
    obtain ⟨od2, J2, _⟩ := O2.look
    exact PySem.W.cmp_K (op := .Eq) (tb := .ref C) hr.toRoom.units0 hF I.ok.mod.kin J J2.type (by simp [PySem.W.notFirst]) hm.at_ hm.fn run
  · obtain ⟨_, _, vb, _, db⟩ := dk_rd I.hok hb
    obtain ⟨ob, hob, hcb⟩ := db.typeIs
    refine PySem.W.cmp_K (op := .Eq) (tb := .type "dict") hr.toRoom.units0 hF I.ok.mod.kin J (fun A' Q' E' s' kk q => wpAny_typeOf (T := "dict") ⟨ob, kk _ _ hob, hcb⟩ q) (by simp [PySem.W.notFirst, oc.sd]) hm.at_ hm.fn run
theorem up_eqO {σ : St} {H : Hp} {Q : VK} (hC : X.mg cl = some (.ref C)) (h : Up (cn X) W (DV (cn X)) (eEqO cl g fa fb) σ H Q) : tOp (rEqO X.K C (spF (cn X) g)) (Up (cn X) W (DV (cn X)) fa) (Up (cn X) W (DV (cn X)) fb) σ H Q := by
  refine Up.imp (Up.bind h) fun v H1 ⟨G, S, d, M, r, s, q, p⟩ => ?_
  refine ⟨G, S, M, r, s, (Post.bind (rel := DV (cn X)) p).imp fun u H2 ⟨G2, d2, M2, g2, r2, q2, p2⟩ => ?_⟩
  have q' := q.mono g2
  split at p2
  · rename_i fs hfs
    obtain ⟨a0, dx, ws, rfl, e1, _⟩ := isObj_at r2 hC hfs q'
    split at p2
    · rename_i hy
      split at p2
      · rename_i rr M3 hgd
        obtain ⟨b0, rfl, hb0⟩ : ∃ b0, u = .ref b0 ∧ ((∃ dy ws2, H2 b0 = some (.ins C dy ws2)) ∨ ∃ us, Rd H2 b0 (.dK us)) := by
          rcases hy with hy | hy
          · obtain ⟨fs2, hfs2⟩ := Option.isSome_iff_exists.mp hy
            obtain ⟨b0, dy, ws2, rfl, z, _⟩ := isObj_at r2 hC hfs2 q2
            exact ⟨b0, rfl, .inl ⟨dy, ws2, z⟩⟩
          · obtain ⟨kvs, hk⟩ := Option.isSome_iff_exists.mp hy
            obtain ⟨b0, us, rfl, z, _⟩ := asK_at r2 q2 hk
            exact ⟨b0, rfl, .inr ⟨us, z⟩⟩
        refine ⟨a0, dx, ws, b0, rfl, rfl, e1, hb0, G2, [d, d2], M2, r2, DVs.cons q' (DVs.one q2), ?_⟩
        rw [hgd]
        exact fun G3 v3 H3 g3 r3 q3 => ⟨rr, q3, (show v3 = V.bl rr from q3) ▸ p2 G3 v3 H3 g3 r3 q3⟩
      · exact p2.elim
    · exact p2.elim
  · exact p2.elim
theorem own_same (F : HasM X.prog X.w X.K X.mg X.base k cl "__eq__" ps g) (hC : X.mg cl = some (.ref C)) : ∃ f fd, Meth X.K C "__eq__" f ∧ Binds X.K fd ps [] ∧ FnOkG X.prog X.w X.K X.mg X.base k f fd ps (spF (cn X) g) := by
  obtain ⟨C1, f, fd, m1, hme, bd, ok⟩ := F
  have eC : C1 = C := by
    rw [hC] at m1
    cases m1
    rfl
  subst eC
  exact ⟨f, fd, hme, bd, ok⟩
theorem teqO (F : HasM X.prog X.w X.K X.mg X.base k cl "__eq__" ps g) (hC : X.mg cl = some (.ref C)) (oc : OwnC X.K C) (hr : RoomG k X.A) (ha : QE X W a fa) (hb : QE X W b fb) : QT X W (.Compare a [.Eq] [b] pos) (bV (eEqO cl g fa fb)) := by
  obtain ⟨f, fd, hme, bd, ok⟩ := own_same F hC
  refine PT.imp (pt_cmpR (op_eqO oc ok hme bd hr) ha hb (nomark _)) fun σ H Q h => ?_
  have h2 := Up.bind (rel := DV (cn X)) h
  refine up_eqO hC (Up.imp h2 fun v H1 ⟨G, S, d, M, r1, s, q, p⟩ => ?_)
  split at p
  · cases (show v = _ from q)
    exact ⟨_, rfl, p G _ H1 (Gr.refl _) r1 rfl⟩
  · exact p.elim
end
end QL
end
section
set_option Elab.async false
set_option linter.all false
set_option maxRecDepth 100000
set_option maxHeartbeats 1000000
set_option autoImplicit false
/-! QLs: xs.clear(), xs.count(True), xs.index(True), sorted(d) at a place. -/
namespace QL
open PySem PySem.Spec L2
open PyProof.Rows (sortedS)
open Classical
/-! ### clear -/
def eClear (o : EF) : EF := fun S M => (o S M).bind fun d M1 => match d with
  | .ptr k => match M1[k]? with
    | some (.lst _) => .ok .non (M1.set k (.lst []))
    | _ => .bad
  | _ => .bad
section
variable {X : Cx} {W : WX} {o e : Expr} {fo fe : EF} {apos pos : Pos}
end
/-! ### count(True), index(True): lists of truths -/
def isT : Value → Bool
  | .bool b => b
  | _ => false
def rCountT (K : PySem.W.Frag) : V → List V → Hp → VK → Prop := fun x xs H Q => ∃ (a : Addr) (bs : List Bool), x = V.ref a ∧ xs = [.bl true] ∧ SqL K H a (bs.map V.bl) ∧ Q (.int (bs.countP id : Nat)) H
section
variable {X : Cx}
end
noncomputable def eCountT (o e : EF) : EF := fun S M => (o S M).bind fun d M1 => match asL M1 d with
  | some ds => match blsOf ds with
    | some bs => (e S M1).bind fun y M2 => match y with
      | .bl true => if asL M2 d = some ds then .ok (.int (bs.countP id : Nat)) M2 else .bad
      | _ => .bad
    | none => .bad
  | none => .bad
/-- the first that is true -/
noncomputable def eIndexT (o e : EF) : EF := fun S M => (o S M).bind fun d M1 => match asL M1 d with
  | some ds => match blsOf ds with
    | some bs => (e S M1).bind fun y M2 => match y with
      | .bl true => if asL M2 d = some ds ∧ bs.findIdx id < bs.length then .ok (.int (bs.findIdx id : Nat)) M2 else .bad
      | _ => .bad
    | none => .bad
  | none => .bad
section
variable {X : Cx} {W : WX} {o e : Expr} {fo fe : EF} {apos pos : Pos}
end
/-! ### sorted(d), fewer than 64 keys, texts, at a place -/
def bSortDP (ds : List D) (M : Mem) : Res D := match bSortD ds M with
  | .ok d M1 => match d with
    | .lst xs => .ok (.ptr M1.length) (M1 ++ [.lst xs])
    | _ => .bad
  | _ => .bad
section
variable {X : Cx} {W : WX} {p pos : Pos} {e : Expr} {a : AF}
end
end QL
end
section
set_option Elab.async false
set_option linter.all false
set_option maxRecDepth 100000
set_option maxHeartbeats 1000000
set_option autoImplicit false
/-! QLenT: len of a dict whose keys are tuples. -/
namespace QL
open PySem PySem.Spec L2
open Classical
def bLenT (ds : List D) (M : Mem) : Res D := match ds with
  | [d] => match asTt M d with
    | some kvs => .ok (.int kvs.length) M
    | none => .bad
  | _ => .bad
theorem call_lenTk {X : Cx} : CallR X (.builtin "len") (fun xs H Q => ∃ p kvs, xs = [.ref p] ∧ Rd H p (.dT kvs) ∧ Q (.int (kvs.length : Nat)) H) := by
  intro pins s σ H xs us Q I r h
  obtain ⟨d, kvs, rfl, h1, q⟩ := h
  cases r with
  | cons rx t =>
    cases t
    cases (show _ = Value.ref d from rx)
    obtain ⟨z, hd, xs, rel, dd⟩ := dt_rd I.hok h1
    have hl : kvs.length = xs.length := (kt_len rel).symm
    refine call_len_dictH hd dd (by rw [← hl]; rw [sizeLine_eq] at z; omega) ?_
    rw [← hl]
    exact ⟨.int ((kvs.length : Nat) : Int), H, I.tok _, ⟨_, rfl⟩, q⟩
theorem rc_lenT {c : Cn} : RCs c bLenT (fun xs H Q => ∃ p kvs, xs = [.ref p] ∧ Rd H p (.dT kvs) ∧ Q (.int (kvs.length : Nat)) H) := by
  intro W σ G H M vs ds Q r q p
  unfold bLenT at p
  split at p
  · split at p
    · rename_i xs hx
      obtain ⟨v, t, rfl, q1, rfl⟩ := q
      obtain ⟨a, us, rfl, s, t⟩ := asTt_at r q1 hx
      exact ⟨a, us, rfl, s, p G _ H (Gr.refl _) r (by rw [kr_len t.pr]; rfl)⟩
    · exact p.elim
  · exact p.elim
section
variable {X : Cx} {W : WX} {p pos : Pos} {e : Expr} {a : AF}
theorem qlenT (hg : Gl X "len") (hm : X.mg "len" = none) (ha : QA X W [e] a) (he : starEach [e] X.env = (false, eval e X.env) :: starEach [] X.env := by rfl) (hpl : (backTo pos (starEach [] X.env)).any (·.1) = false := by rfl) :
    QE X W (.Call (.Name "len" p) [e] [] pos) (eCall bLenT a) := q_cb call_lenTk rc_lenT hg hm ha PySem.boot_len (by decide) (by decide) he hpl
end
end QL
end
section
/-! QAll: the whole layer. -/
end
section
set_option Elab.async false
set_option linter.all false
set_option maxRecDepth 100000
set_option maxHeartbeats 1000000
set_option autoImplicit false
/-! QItT: for .. in d.items(), d a dict with tuple keys that will not change. -/
namespace L2
open PySem PySem.Spec PyProof.Rows
/-- the pairs, each a new tuple; the key's own tuple within -/
def Itit (d : Addr) (o : Obj) (kvs : List (List Key × V)) : It :=
  ⟨fun i H => H d = some (.frz o (.dT kvs)) ∧ i < kvs.length, fun i H x H' => ∃ T k v q, kvs[i]? = some (k, v) ∧ x = .ref T ∧ H T = none ∧ H q = some (.tup (k.map kV)) ∧ H' = upd H T (.tup [.ref q, v]), fun i H => H d = some (.frz o (.dT kvs)) ∧ kvs.length ≤ i⟩
/-- a dict with tuple keys that stays as it is: what the heap holds of it -/
structure Stays (s : Shared) (H : Hp) (d : Addr) (o : Obj) (kvs : List (List Key × V)) (es : Array DictEntry) (ep : Nat) : Prop where
  own : (d == sysModules) = false
  raw : DT.Raw s.heap d es ep
  bare : o.dict = none
  size : es.size = kvs.length
  pair : ∀ (i : Nat) (lt : i < es.size) (k : List Key) (v : V), kvs[i]? = some (k, v) → RelV v es[i].val ∧ ∃ q : Addr, es[i].key = .ref q ∧ H q = some (.tup (k.map kV))
theorem stays {X : Cx} {pins : List (Addr × Obj)} {σ : St} {H : Hp} {s : Shared} {d : Addr} {o : Obj} {kvs : List (List Key × V)} (I : Inv X pins σ H s) (h : H d = some (.frz o (.dT kvs))) : ∃ es ep, o.data = .dict es ep ∧ s.heap.get? d = some o ∧ Stays s H d o kvs es ep := by
  obtain ⟨at_, _, sys, xs, rel, o1, es, ep, at1, exact1, data, rows, _⟩ := I.hok d _ h
  obtain rfl : o1 = o := Option.some.inj (at1.symm.trans at_)
  have sz : es.size = kvs.length := (size_of_entries rows).trans (Paired.length rel).symm
  refine ⟨es, ep, data, at_, sys, ⟨_, at_, exact1, data⟩, exact1.2.1, sz, fun i lt k v e => ?_⟩
  obtain ⟨⟨_, q, u⟩, ex, _, inH, val⟩ := paired_get rel e
  have row := entry_at rows i
  rw [Array.getElem?_eq_getElem lt, ex] at row
  rw [Option.some.inj row]
  exact ⟨val, q, rfl, inH⟩
section
variable {P : Program} {w : World} {K : PySem.W.Frag} {d : Addr} {o : Obj} {es : Array DictEntry} {ep : Nat} {kvs : List (List Key × V)}
/-- the iterator's own object, at place i -/
def AtIt (d : Addr) (ep n : Nat) (it : Addr) (i : Nat) (h : Heap) : Prop := ∃ a b : Value, IsItemIter h it d i n ep a b
end
def iItemsT (td : TE) : TI := fun σ H R => td σ H fun x H1 => ∃ d o kvs, x = .ref d ∧ H1 d = some (.frz o (.dT kvs)) ∧ R (Itit d o kvs) H1
section
variable {X : Cx} {tg e : Expr} {td : TE} {apos cpos : Pos}
end
end L2

namespace QL
open PySem PySem.Spec L2
open Classical
/-- .. in d.items(), d a dict with tuple keys that will not change -/
def iItemsT (e : EF) : IF := fun S M => (e S M).bind fun d M1 => match d with
  | .dT kvs => .ok ⟨kvs.map fun kv => .tup [kTD kv.1, kv.2], none⟩ M1
  | _ => .bad
section
variable {X : Cx} {W : WX} {tg l : Expr} {f : EF} {apos cpos : Pos}
end
end QL
end
section
set_option Elab.async false
set_option linter.all false
set_option maxRecDepth 100000
set_option maxHeartbeats 1000000
set_option autoImplicit false
/-! QSortK: sorted(xs), xs a list of tuples of texts and ints, a text at their head; any number of them (the sort itself: QKat). -/
namespace L2
open PySem PySem.Spec PyProof.Rows
/-- sorted(xs), xs a list of tuples of texts and ints, a text at their head (k says which) -/
def rSortK (K : PySem.W.Frag) : List V → Hp → VK → Prop := fun vs H Q => ∃ (a : Addr) (xs : List V) (k : V → List Key), vs = [V.ref a] ∧ SqL K H a xs ∧ (∀ x ∈ xs, ∃ t, x = V.ref t ∧ H t = some (.tup ((k x).map kV)) ∧ QP.hdT (k x) = true) ∧
  (∀ x ∈ xs, ∀ y ∈ xs, QP.sameK (k x) (k y) = true) ∧ ∀ ys p, SrtO.Srtd (fun x y => QP.ltL (k x) (k y)) ys → ys.Perm xs → H p = none → Q (.ref p) (upd H p (.lst ys))
end L2
namespace QL
open PySem PySem.Spec L2
open Classical
def tksOf : List D → Option (List (List Key))
  | [] => some []
  | .tup ds :: r => match keysOf ds, tksOf r with
    | some k, some t => some (k :: t)
    | _, _ => none
  | _ => none
def leL (a b : List Key) : Bool := !QP.ltL b a
def srtK (l : List (List Key)) : List (List Key) := l.mergeSort leL
def okS (l : List (List Key)) : Bool := l.all QP.hdT && l.all fun a => l.all fun b => QP.sameK a b
/-- sorted(xs) -/
def bSortK (ds : List D) (M : Mem) : Res D := match ds with
  | [d] => match asL M d with
    | some xs => match tksOf xs with
      | some ks => if okS ks = true then .ok (.lst ((srtK ks).map kTD)) M else .bad
      | none => .bad
    | none => .bad
  | _ => .bad
def bkK : V → Key
  | .int i => .inl i
  | .str x => .inr x
  | _ => .inl 0
def kfT (F : Hp) (v : V) : List Key := match v with
  | .ref t => match F t with
    | some (.tup us) => us.map bkK
    | _ => []
  | _ => []
section
variable {X : Cx} {W : WX} {p pos : Pos} {e : Expr} {a : AF}
end
end QL
end
section
set_option Elab.async false
set_option linter.all false
set_option maxRecDepth 100000
set_option maxHeartbeats 1000000
set_option autoImplicit false
/-! QDictT: dict([((a, b), v), ..]), the keys tuples. -/
namespace L2
open PySem PySem.Spec PyProof.Rows
def mergeT (kvs more : List (List Key × V)) : List (List Key × V) := more.foldl (fun acc kv => putK acc kv.1 kv.2) kvs
/-- a pair of the list: where it lies, where its key lies, the key, the value -/
structure Row where
  b : Addr
  q : Addr
  k : List Key
  v : V
def rowKV (r : Row) : List Key × V := (r.k, r.v)
section
variable {X : Cx}
end
end L2
end
section
set_option Elab.async false
set_option linter.all false
set_option maxRecDepth 100000
set_option maxHeartbeats 4000000
set_option autoImplicit false
/-! QSlA: xs[:] = ys. -/
namespace QL
open PySem PySem.Spec PyProof.Rows HT L2
section
variable {prog : Program} {w : World} {A : Around} {E : Value → Shared → Prop} {s : Shared} {l b sl : Addr} {old new : Array Value} {n : Nat}
theorem whole {k : Nat} {Q : Int × Int × Int → Shared → Prop} (q : Q (0, (k : Int), 1) s) : wpAny (model prog w) A (sliceIndices (rawPart none) (rawPart none) (rawPart none) k) Q E s := by
  have e : sliceIndices (rawPart none) (rawPart none) (rawPart none) k = pure ((0 : Int), (k : Int), (1 : Int)) := by
    rw [sliceIndices_raw none none none k nofun]
    simp [sliceBounds]
  rw [e]
  exact wpAny_pure q
/-- the model's way to put `new` where k items stood -/
def cut (new : Array Value) (k : Nat) (xs : Array Value) : Array Value := xs.extract 0 (0 : Int).toNat ++ new ++ xs.extract (max (0 : Int) (k : Int)).toNat xs.size
end
end QL
namespace L2
open PySem PySem.Spec PyProof.Rows HT
section
variable {X : Cx}
def gAllV (to : TE) : TG := fun v σ H Q => to σ H fun o H1 => ∃ l b xs ys, o = .ref l ∧ v = .ref b ∧ H1 l = some (.lst xs) ∧ SqL X.K H1 b ys ∧ (l ≠ b ∨ ∃ o, X.K.lookup b = some o) ∧ xs.length + ys.length ≤ sizeLine ∧ Q σ (upd H1 l (.lst ys))
end
end L2
namespace QL
open PySem PySem.Spec L2
open Classical
/-- xs[:] = ys, ys a list that does not change -/
def gAll (o : EF) : GF := fun d S M => (o S M).bind fun x M1 => match x with
  | .ptr k => match M1[k]? with
    | some (.lst es) => match d with
      | .lst ds => if es.length + ds.length ≤ sizeLine then .ok S (M1.set k (.lst ds)) else .bad
      | _ => .bad
    | _ => .bad
  | _ => .bad
section
variable {X : Cx} {W : WX} {p2 pos : Pos} {o : Expr} {fo : EF}
end
end QL
end
section
set_option Elab.async false
set_option linter.all false
set_option maxRecDepth 100000
set_option maxHeartbeats 4000000
set_option autoImplicit false
namespace QL
open PySem PySem.Spec L2
open Classical
local macro_rules | `(tactic| simp_arith [$as,*]) => `(tactic| simp only [wp_ok, wp_rz, sq_nx, sq_rt, sq_bk, sq_ct, sq_rz, sq_ez, swp_nx, swp_rt, swp_bk, swp_ct, swp_rz, wv_some, w_eVar, w_eC, w_aNil, Kc2_ap, Kc1_ap, w_aCons, Kcl_ap, w_eCall, w_eTup, Ktu_0, Ktu_1, Ktu_2, Ktu_3, Ktu_4, w_eLst, Kls_0, Kls_1, Kls_2, Kls_3, Kls_4, Kls_5, Kls_6, Kls_7, Kls_8, Kls_9, w_eLstP, Klp_0, Klp_1, Klp_2, K2c_ap, K2b_ap, w_e2, K3d_t, K3d_f, K3c_ap, K3b_ap, w_e3, KbV_ap, w_bV, Kno_ap, w_bNot, Kan_t, Kan_f, w_bAnd, Kor_t, Kor_f, w_bOr, w_bYes, Ken_ap, w_eNot, Kea_t, Kea_f, w_eAnd, Keo_t, Keo_f, w_eOr, Kei_t, Kei_f, w_eIf, w_kNil, w_kSeq, w_kRet, w_kRetN, Kdr_ap, w_kDrop, Kif_t, Kif_f, w_kIf, w_kBreak, w_kCont, Kas_ap, w_kAsg, w_gN, w_gNil, Kgc_ap, w_gCons, w_gTup2, w_gTup3, wls_some, Ks2_ap, Ks1_ap, w_gSubL, Kpr_ap, w_kPar, Kau_ap, wau_i, w_kAug, wdp_some, Kd3_ap, Kd2_ap, Kd1_ap, w_kDPut, Kg4_ap, wlk_i, Kg2_ap, Kg1_ap, w_kDAug, w_oNone, Kso_ap, w_oSome, Kl3_ap, Kl2_ap, Kl1_ap, w_eSl, Kfl_1, w_eFld, w_eMeth, Kis_l, w_iSeq, Kit_t, w_iTup, w_iRange1, Ken1_l, w_iEnum, Kfo_ap, w_kFor, turn_nx, turn_ct, turn_rt, turn_bk, turn_rz, turn_ez, Ktn_ap, w_eLc, w_eLcP, Klb_t, Klb_f, Klg_ap, pof_nx, pof_rt, List.getElem?_cons_succ, List.getElem?_cons_zero, List.set_cons_succ, List.set_cons_zero, kl_cons, kl_nil, List.map_cons, List.map_nil, List.replicate_succ, List.replicate_zero, List.cons_append, List.nil_append, Bool.not_true, Bool.not_false, fAdd_i, fSub_i, fLt_i, fLe_i, fGt_i, fGe_i, fEqA_i, fEqA_s, fNe_i, fNe_s, fNe_b, fSl_l, bLenA_l, bMax2_i, bMin2_i, bInt_b, bInt_i, fIs0_n, fNot0_n, fIs0_i, fNot0_i, fNot0_p, settle_self, settle_selfX, Kf1_ap, w_kFld, w_eFrz, w_eFrzT, KfT_d, KkT_ap, w_iKeysT, KkF_ap, w_iKeysF, Kmk_ap, w_eMake, w_kRz, Krz_1, pof_rz, pof_ez, ez_ap, tr_nx, tr_rt, Kge3_ap, Kge2_ap, w_eGet2, wgl_s, wgl_n, min_s, max_s, Kq3_ap, Kq2_ap, Kq1_ap, w_eSlP, $as,*])
/-! QTab: tables of numbers whose keys are pairs of texts. -/
theorem rev_ind {α : Type} {P : List α → Prop} (h0 : P []) (hs : ∀ l d, P l → P (l ++ [d])) (l : List α) : P l := by
  have key : ∀ r : List α, P r.reverse := fun r => by
    induction r with
    | nil => exact h0
    | cons x r ih => rw [List.reverse_cons]; exact hs _ _ ih
  rw [← List.reverse_reverse l]
  exact key _
theorem sum_perm {l l' : List Int} (h : l.Perm l') : l.sum = l'.sum := by
  induction h with
  | nil => rfl
  | cons x _ ih => rw [List.sum_cons, List.sum_cons, ih]
  | swap x y l => rw [List.sum_cons, List.sum_cons, List.sum_cons, List.sum_cons]; omega
  | trans _ _ h1 h2 => exact h1.trans h2
abbrev Tab := List PR × (PR → Int)
def Tab.get (T : Tab) (p : PR) : Int := if p ∈ T.1 then T.2 p else 0
def Tab.put (T : Tab) (p : PR) (i : Int) : Tab := (addk T.1 p, upf T.2 p i)
def TT (T : Tab) : List (List Key × D) := PTI T.1 T.2
abbrev T0 : Tab := ([], fun _ => 0)
section
variable {M : Mem} {S : Sl} {d x : D} {P : Po} {t : TF} {g : GF} {vs : List Nat} {T : Tab} {k : Nat} {a b : Str} {i : Int} {p q : PR} {ds : List D}
theorem fIxA_t {n : Nat} {d : D} (h : ds[n]? = some d) : fIxA (.tup ds) (.int (n : Nat)) M = .ok d M := by
  have e : L2.atI ds ((n : Nat) : Int) = some d := by
    unfold L2.atI ixN
    rw [if_pos (Int.natCast_nonneg n), if_pos (by have := (List.getElem?_eq_some_iff.mp h).1; omega)]
    simpa using h
  simp [fIxA, or2, orR, fDIx, look, asK, asTt, fIx, e]
theorem ixt0 {x y : D} : fIxA (.tup [x, y]) (.int 0) M = .ok x M := fIxA_t (n := 0) rfl
theorem ixt1 {x y : D} : fIxA (.tup [x, y]) (.int 1) M = .ok y M := fIxA_t (n := 1) rfl
theorem ixt30 {x y z : D} : fIxA (.tup [x, y, z]) (.int 0) M = .ok x M := fIxA_t (n := 0) rfl
theorem ixt31 {x y z : D} : fIxA (.tup [x, y, z]) (.int 1) M = .ok y M := fIxA_t (n := 1) rfl
theorem ixt32 {x y z : D} : fIxA (.tup [x, y, z]) (.int 2) M = .ok z M := fIxA_t (n := 2) rfl
theorem lenT : bLenA [.tup ds] M = .ok (.int ds.length) M := rfl
theorem put_mem : p ∈ (T.put p i).1 := mem_addk.mpr (.inr rfl)
theorem put_same : (T.put p i).2 p = i := if_pos rfl
theorem put_ne (h : q ≠ p) : (T.put p i).2 q = T.2 q := if_neg h
theorem tt_len : (TT T).length = T.1.length := pti_len
theorem tt_val : valD (TT T) (kk p) = if p ∈ T.1 then some (.int (T.2 p)) else none := pti_val
theorem tt_put : putKD (TT T) (kk p) (.int i) = TT (T.put p i) := pti_put
theorem get_opt {z : D} {Q : QQ D} : wgl (some (if p ∈ T.1 then some (D.int (T.2 p)) else none)) (.int 0) M Q = Q (.int (T.get p)) M := by
  unfold Tab.get
  by_cases h : p ∈ T.1
  · rw [if_pos h, if_pos h]; rfl
  · rw [if_neg h, if_neg h]; rfl
theorem tt_look (h : M[k]? = some (.dT (TT T))) : look M (.ptr k) (.tup [.str a, .str b]) = some (if (a, b) ∈ T.1 then some (.int (T.2 (a, b))) else none) := by
  rw [lookT h, tt_val]
theorem tt_lookF : look M (.dT (TT T)) (.tup [.str a, .str b]) = some (if (a, b) ∈ T.1 then some (.int (T.2 (a, b))) else none) := by
  rw [lookF, tt_val]
theorem tt_dput (h : M[k]? = some (.dT (TT T))) (hl : T.1.length < 20000) : dput k (.tup [.str a, .str b]) (.int i) M = some (M.set k (.dT (TT (T.put (a, b) i)))) := by
  rw [dputT h (by rw [tt_len, sizeLine_eq]; omega), tt_put]
theorem tt_ix (h : M[k]? = some (.dT (TT T))) (hp : (a, b) ∈ T.1) : fIxA (.ptr k) (.tup [.str a, .str b]) M = .ok (.int (T.2 (a, b))) M := ixT2 (by rw [tt_look h, if_pos hp])
theorem tt_ixF (hp : (a, b) ∈ T.1) : fIxA (.dT (TT T)) (.tup [.str a, .str b]) M = .ok (.int (T.2 (a, b))) M := ixT2 (by rw [tt_lookF, if_pos hp])
theorem tt_sort : bSortB [.dT (TT T)] M = .ok (.lst ((srt2 T.1).map kT2)) M := sortFI
theorem srt2_mem {l : List PR} (h : p ∈ srt2 l) : p ∈ l := (srt2_perm l).mem_iff.mp h
theorem srt2_len {l : List PR} : (srt2 l).length = l.length := (srt2_perm l).length_eq
theorem lowT_tt (n : Nat) : lowT n (TT T) = true := lowT_pti n
theorem for_enum {gd : Mem → Prop} (J : List D → Sl → Mem → Prop) (hg : ∀ M, gd M)
    (hs : ∀ l d r S M, ds = l ++ d :: r → J l S M → wp (g (.tup [.int (l.length : Nat), d]) S M) (Ktn t (P.turn vs fun S2 M2 => J (l ++ [d]) S2 M2)) (P.ez S))
    (h0 : J [] S M) (he : ∀ S M, J ds S M → P.nx S M) : swp (forL gd g t vs (enumD 0 ds) S M) P := by
  have key : ∀ (r l : List D) (S : Sl) (M : Mem), ds = l ++ r → J l S M → swp (forL gd g t vs (enumD l.length r) S M) P := by
    intro r
    induction r with
    | nil => intro l S M e h; exact for_nil (hg _) (he _ _ (by rw [e, List.append_nil]; exact h))
    | cons d r ih =>
      intro l S M e h
      have st : ∀ S2 M2, J (l ++ [d]) S2 M2 → swp (forL gd g t vs (enumD (l.length + 1) r) S2 M2) P := fun S2 M2 h2 => by
        have := ih (l ++ [d]) _ _ (by rw [List.append_assoc]; exact e) h2
        rwa [List.length_append, List.length_singleton] at this
      refine for_cons (hg _) (wp_imp (hs l d r S M e h) (fun S1 M1 h1 => ?_) fun _ _ h => h)
      exact swp_imp h1 (fun S2 M2 h2 => st _ _ h2) (fun _ _ h => h) (fun _ _ h => h) (fun S2 M2 h2 => st _ _ h2) fun _ _ _ h => h
  exact key ds [] S M rfl h0
/-- a loop over things that are written out -/
theorem for_map {α : Type} {enc : α → D} {gd : Mem → Prop} {xs : List α} (J : List α → Sl → Mem → Prop) (hg : ∀ l S M, J l S M → gd M)
    (hs : ∀ l d r S M, xs = l ++ d :: r → J l S M → wp (g (enc d) S M) (Ktn t (P.turn vs fun S2 M2 => J (l ++ [d]) S2 M2)) (P.ez S))
    (h0 : J [] S M) (he : ∀ S M, J xs S M → P.nx S M) : swp (forL gd g t vs (xs.map enc) S M) P := by
  have key : ∀ (r l : List α) (S : Sl) (M : Mem), xs = l ++ r → J l S M → swp (forL gd g t vs (r.map enc) S M) P := by
    intro r
    induction r with
    | nil => intro l S M e h; exact for_nil (hg _ _ _ h) (he _ _ (by rw [e, List.append_nil]; exact h))
    | cons d r ih =>
      intro l S M e h
      refine for_cons (hg _ _ _ h) (wp_imp (hs l d r S M e h) (fun S1 M1 h1 => ?_) fun _ _ h => h)
      exact swp_imp h1 (fun S2 M2 h2 => ih (l ++ [d]) _ _ (by rw [List.append_assoc]; exact e) h2) (fun _ _ h => h) (fun _ _ h => h) (fun S2 M2 h2 => ih (l ++ [d]) _ _ (by rw [List.append_assoc]; exact e) h2) fun _ _ _ h => h
  exact key xs [] S M rfl h0
/-- a list at x, at its place or by itself -/
def itsOf (x : D) (ds : List D) : Its := match x with
  | .ptr k => ⟨ds, some k⟩
  | _ => ⟨ds, none⟩
theorem Kis_at {Q : QQ Its} (h : asL M x = some ds) : Kis Q x M = Q (itsOf x ds) M := by
  cases x with
  | lst es => cases h; rfl
  | ptr k =>
    have h' : (match M[k]? with | some (.lst ds) => some ds | _ => none) = some ds := h
    unfold Kis
    rcases e : M[k]? with _ | mo
    · rw [e] at h'; cases h'
    · rw [e] at h'
      cases mo with
      | lst es => cases h'; simp only [e]; rfl
      | _ => cases h'
  | _ => cases h
theorem itsOf_ds : (itsOf x ds).ds = ds := by cases x <;> rfl
theorem itsOf_gd (h : asL M x = some ds) : (itsOf x ds).gd M := by
  cases x with
  | ptr k =>
    have h' : (match M[k]? with | some (.lst ds) => some ds | _ => none) = some ds := h
    show M[k]? = some (.lst ds)
    rcases e : M[k]? with _ | mo
    · rw [e] at h'; cases h'
    · rw [e] at h'
      cases mo with
      | lst es => cases h'; rfl
      | _ => cases h'
  | _ => exact trivial
theorem asL_app {mo : MO} (h : asL M x = some ds) : asL (M ++ [mo]) x = some ds := by
  cases x with
  | ptr k =>
    have h' : (match M[k]? with | some (.lst ds) => some ds | _ => none) = some ds := h
    show (match (M ++ [mo])[k]? with | some (.lst ds) => some ds | _ => none) = _
    rcases e : M[k]? with _ | m
    · rw [e] at h'; cases h'
    · rw [List.getElem?_append_left (List.getElem?_eq_some_iff.mp e).1]
      exact h'
  | lst es => exact h
  | _ => cases h
theorem asL_p (h : M[k]? = some (.lst ds)) : asL M (.ptr k) = some ds := by simp only [asL, h]
theorem asL_l : asL M (.lst ds) = some ds := rfl
theorem Klc_mapI {α : Type} {p : BF} {e : EF} {I : Its} {Q : QQ D} (enc out : α → D) {xs : List α} (hI : I.ds = xs.map enc) (hg : I.gd M) (hz : xs.length ≤ sizeLine)
    (hs : ∀ x ∈ xs, wp (g (enc x) (kl vs S) M) (Klg p e (fun y M' => y = out x ∧ M' = M) (fun _ => False)) XN)
    (k : Q (.lst (xs.map out)) M) : Klc g p e vs S Q I M := by
  unfold Klc
  rw [hI]
  refine lc_filt hg enc (fun _ => true) out xs hz (fun x hx => ?_) (by rw [List.filter_eq_self.mpr fun _ _ => rfl]; exact k)
  refine wp_imp (hs x hx) (fun S1 M1 h => wp_imp h (fun b M2 h => ?_) fun _ _ h => h) fun _ _ h => h
  cases b with
  | true => exact wp_imp (show wp (e S1 M2) _ XN from h) (fun y M3 h => ⟨rfl, h⟩) fun _ _ h => h
  | false => exact h.elim
theorem any_map {α : Type} {xs : List α} {f : α → Bool} : bAny [.lst (xs.map fun x => D.bl (f x))] M = .ok (.bl (xs.any f)) M := by
  have e : ∀ xs : List α, blsOf (xs.map fun x => D.bl (f x)) = some (xs.map f) := fun xs => by
    induction xs with
    | nil => rfl
    | cons y r ih =>
      show (blsOf (r.map fun x => D.bl (f x))).map (f y :: ·) = _
      rw [ih]; rfl
  show (match blsOf (xs.map fun x => D.bl (f x)) with | some ns => Res.ok (D.bl (ns.any id)) M | none => .bad) = _
  rw [e]
  show Res.ok (D.bl ((xs.map f).any id)) M = _
  rw [List.any_map]
  rfl
theorem all_map {α : Type} {xs : List α} {f : α → Bool} : bAll [.lst (xs.map fun x => D.bl (f x))] M = .ok (.bl (xs.all f)) M := by
  have e : ∀ xs : List α, blsOf (xs.map fun x => D.bl (f x)) = some (xs.map f) := fun xs => by
    induction xs with
    | nil => rfl
    | cons y r ih =>
      show (blsOf (r.map fun x => D.bl (f x))).map (f y :: ·) = _
      rw [ih]; rfl
  show (match blsOf (xs.map fun x => D.bl (f x)) with | some ns => Res.ok (D.bl (ns.all id)) M | none => .bad) = _
  rw [e]
  show Res.ok (D.bl ((xs.map f).all id)) M = _
  rw [List.all_map]
  rfl
end
end QL
end
section
set_option Elab.async false
set_option linter.all false
set_option maxRecDepth 100000
set_option maxHeartbeats 4000000
set_option autoImplicit false
/-! QAll2: the layer, with xs[:] = ys, sorted of tuples, items of pair tables. -/
namespace QL
open PySem PySem.Spec L2
open Classical
def bSortC := orC bSortB bSortK
section
variable {X : Cx} {W : WX} {p pos : Pos} {e : Expr} {a : AF}
end
section
variable {S : Sl} {M M1 : Mem} {d : D} {fo : EF} {QS' : QQ Sl} {E : XQ} {Q : QQ D} {e : EF}
def KgA (d : D) (S : Sl) (Q : QQ Sl) : QQ D := fun x M1 => match x with
  | .ptr k => match M1[k]? with
    | some (.lst es) => match d with
      | .lst ds => es.length + ds.length ≤ sizeLine ∧ Q S (M1.set k (.lst ds))
      | _ => False
    | _ => False
  | _ => False
theorem w_gAll : wp (gAll fo d S M) QS' E = wp (fo S M) (KgA d S QS') E := by
  unfold gAll; rw [wp_bind]; congr 1; funext x M1; unfold KgA
  cases x with
  | ptr k =>
    simp only
    rcases M1[k]? with _ | mo
    · rfl
    · cases mo with
      | lst es =>
        simp only
        cases d with
        | lst ds =>
          simp only
          by_cases h : es.length + ds.length ≤ sizeLine
          · rw [if_pos h]; exact propext ⟨fun z => ⟨h, z⟩, fun z => z.2⟩
          · rw [if_neg h]; exact propext ⟨fun z => z.elim, fun z => absurd z.1 h⟩
        | _ => rfl
      | _ => rfl
  | _ => rfl
/-- items of a pair table -/
def KitT (Q : QQ Its) : QQ D := fun d M => match d with
  | .dT kvs => Q ⟨kvs.map fun kv => .tup [kTD kv.1, kv.2], none⟩ M
  | _ => False
theorem w_iItemsT {Q : QQ Its} : wp (iItemsT e S M) Q E = wp (e S M) (KitT Q) E := by
  unfold iItemsT; rw [wp_bind]; congr 1; funext d M1; cases d <;> rfl
theorem KitT_ap {Q : QQ Its} {kvs : List (List Key × D)} : KitT Q (.dT kvs) M = Q ⟨kvs.map fun kv => .tup [kTD kv.1, kv.2], none⟩ M := (rfl)
end
end QL
end
section
set_option Elab.async false
set_option linter.all false
set_option maxRecDepth 100000
set_option maxHeartbeats 4000000
set_option autoImplicit false
namespace QL
open PySem PySem.Spec L2
open Classical
local macro_rules | `(tactic| simp_arith [$as,*]) => `(tactic| simp only [wp_ok, wp_rz, sq_nx, sq_rt, sq_bk, sq_ct, sq_rz, sq_ez, swp_nx, swp_rt, swp_bk, swp_ct, swp_rz, wv_some, w_eVar, w_eC, w_aNil, Kc2_ap, Kc1_ap, w_aCons, Kcl_ap, w_eCall, w_eTup, Ktu_0, Ktu_1, Ktu_2, Ktu_3, Ktu_4, w_eLst, Kls_0, Kls_1, Kls_2, Kls_3, Kls_4, Kls_5, Kls_6, Kls_7, Kls_8, Kls_9, w_eLstP, Klp_0, Klp_1, Klp_2, K2c_ap, K2b_ap, w_e2, K3d_t, K3d_f, K3c_ap, K3b_ap, w_e3, KbV_ap, w_bV, Kno_ap, w_bNot, Kan_t, Kan_f, w_bAnd, Kor_t, Kor_f, w_bOr, w_bYes, Ken_ap, w_eNot, Kea_t, Kea_f, w_eAnd, Keo_t, Keo_f, w_eOr, Kei_t, Kei_f, w_eIf, w_kNil, w_kSeq, w_kRet, w_kRetN, Kdr_ap, w_kDrop, Kif_t, Kif_f, w_kIf, w_kBreak, w_kCont, Kas_ap, w_kAsg, w_gN, w_gNil, Kgc_ap, w_gCons, w_gTup2, w_gTup3, wls_some, Ks2_ap, Ks1_ap, w_gSubL, Kpr_ap, w_kPar, Kau_ap, wau_i, w_kAug, wdp_some, Kd3_ap, Kd2_ap, Kd1_ap, w_kDPut, Kg4_ap, wlk_i, Kg2_ap, Kg1_ap, w_kDAug, w_oNone, Kso_ap, w_oSome, Kl3_ap, Kl2_ap, Kl1_ap, w_eSl, Kfl_1, w_eFld, w_eMeth, Kis_l, w_iSeq, Kit_t, w_iTup, w_iRange1, Ken1_l, w_iEnum, Kfo_ap, w_kFor, turn_nx, turn_ct, turn_rt, turn_bk, turn_rz, turn_ez, Ktn_ap, w_eLc, w_eLcP, Klb_t, Klb_f, Klg_ap, pof_nx, pof_rt, List.getElem?_cons_succ, List.getElem?_cons_zero, List.set_cons_succ, List.set_cons_zero, kl_cons, kl_nil, List.map_cons, List.map_nil, List.replicate_succ, List.replicate_zero, List.cons_append, List.nil_append, Bool.not_true, Bool.not_false, fAdd_i, fSub_i, fLt_i, fLe_i, fGt_i, fGe_i, fEqA_i, fEqA_s, fNe_i, fNe_s, fNe_b, fSl_l, bLenA_l, bMax2_i, bMin2_i, bInt_b, bInt_i, fIs0_n, fNot0_n, fIs0_i, fNot0_i, fNot0_p, settle_self, settle_selfX, Kf1_ap, w_kFld, w_eFrz, w_eFrzT, KfT_d, KkT_ap, w_iKeysT, KkF_ap, w_iKeysF, Kmk_ap, w_eMake, w_kRz, Krz_1, pof_rz, pof_ez, ez_ap, tr_nx, tr_rt, Kge3_ap, Kge2_ap, w_eGet2, wgl_s, wgl_n, min_s, max_s, Kq3_ap, Kq2_ap, Kq1_ap, w_eSlP, $as,*])
/-! QSh: texts that can be shown; data that can be shown and compared. -/
theorem len_cps0 (a : Str) : a.length = a.cps.toList.length := by simp [Str.length]
theorem cps_app0 (a b : Str) : (a ++ b).cps.toList = a.cps.toList ++ b.cps.toList := by
  show (a.cps ++ b.cps).toList = _
  simp
/-- a text of at most n signs that can be shown -/
structure Sx (n : Nat) (x : Str) : Prop where
  len : x.length ≤ n
  ok : PyData.strOk x = true
theorem ok_iff {x : Str} : PyData.strOk x = true ↔ ∀ c ∈ x.cps.toList, c < 0x110000 := by
  unfold PyData.strOk
  rw [Array.all_eq_true']
  constructor
  · intro h c hc
    exact of_decide_eq_true (h c (Array.mem_toList_iff.mp hc))
  · intro h c hc
    exact decide_eq_true (h c (Array.mem_toList_iff.mpr hc))
section
variable {x y : Str} {n m : Nat} {i : Int}
theorem Sx.mono (h : Sx n x) (l : n ≤ m) : Sx m x := ⟨Nat.le_trans h.len l, h.ok⟩
theorem Sx.cut (h : Sx n x) (lo hi : Option Int) : Sx n (cutS x lo hi) := by
  constructor
  · have := h.len
    rw [len_cps0] at this ⊢
    show ((x.cps.toList.drop _).take _).toArray.toList.length ≤ n
    simp only [List.length_take, List.length_drop]
    omega
  · rw [ok_iff]
    intro c hc
    have hc' : c ∈ ((x.cps.toList.drop (HT.sIx x.length 0 lo)).take (HT.sIx x.length x.length hi - HT.sIx x.length 0 lo)) := hc
    exact ok_iff.mp h.ok c (List.mem_of_mem_drop (List.mem_of_mem_take hc'))
theorem len_app : (x ++ y).length = x.length + y.length := by rw [len_cps0, cps_app0, List.length_append, ← len_cps0, ← len_cps0]
theorem Sx.app (h : Sx n x) (h2 : Sx m y) : Sx (n + m) (x ++ y) := by
  constructor
  · rw [len_app]
    exact Nat.add_le_add h.len h2.len
  · rw [ok_iff]
    intro c hc
    rw [cps_app0] at hc
    rcases List.mem_append.mp hc with q | q
    · exact ok_iff.mp h.ok c q
    · exact ok_iff.mp h2.ok c q
theorem rep_cps (a : Array Nat) : ∀ (k : Nat) (b : Array Nat), ((List.replicate k a).foldl (· ++ ·) b).toList = b.toList ++ (List.replicate k a.toList).flatten
  | 0, b => by simp
  | k + 1, b => by
    rw [List.replicate_succ, List.foldl_cons, rep_cps a k, List.replicate_succ, List.flatten_cons]
    simp
theorem Sx.mul (h : Sx n x) {k : Int} (hk : 0 ≤ k) : Sx (n * (k.toNat + 1)) (Txt.mul x k) := by
  unfold Txt.mul
  split
  · refine ⟨Nat.zero_le _, ?_⟩
    rw [ok_iff]
    intro c hc
    cases hc
  · split
    · exact h.mono (Nat.le_mul_of_pos_right n (by omega))
    · have e : (⟨(List.replicate k.toNat x.cps).foldl (· ++ ·) #[]⟩ : Str).cps.toList = (List.replicate k.toNat x.cps.toList).flatten := by
        show ((List.replicate k.toNat x.cps).foldl (· ++ ·) #[]).toList = _
        rw [rep_cps]
        rfl
      constructor
      · rw [len_cps0, e, List.length_flatten, List.map_replicate, List.sum_replicate_nat]
        have hl := h.len
        rw [len_cps0] at hl
        have h1 : k.toNat * x.cps.toList.length ≤ k.toNat * n := Nat.mul_le_mul_left _ hl
        have h2 : n * (k.toNat + 1) = k.toNat * n + n := by rw [Nat.mul_add, Nat.mul_one, Nat.mul_comm]
        omega
      · rw [ok_iff]
        intro c hc
        rw [e] at hc
        obtain ⟨l, hl, hc⟩ := List.mem_flatten.mp hc
        rw [(List.mem_replicate.mp hl).2] at hc
        exact ok_iff.mp h.ok c hc
end

/-- data of depth at most n and weight at most w, without places and dicts -/
structure Shw (n w : Nat) (d : D) : Prop where
  k : okK n d = true
  e : okD (n + 4) d = true
  wt : wtK d ≤ w
  lo : ∀ m, lowD m d = true
section
variable {M : Mem} {n w v : Nat} {d x y : D} {ds : List D} {k : Nat}
theorem Shw.mono (h : Shw n w d) (l : w ≤ v) : Shw n v d := ⟨h.k, h.e, Nat.le_trans h.wt l, h.lo⟩
theorem sh_str {a : Str} {m : Nat} (h : Sx m a) : Shw n (10 * m + 2) (.str a) := ⟨by simp [okK, h.ok], by simp [okD, h.ok], by show 10 * a.length + 2 ≤ _; have := h.len; omega, fun _ => rfl⟩
theorem sh_int {i : Int} {b : Nat} (h : i.natAbs < 2 ^ b) (hb : b ≤ 1900) : Shw n (b + 2) (.int i) := by
  have l : i.natAbs.log2 ≤ b := by
    by_cases z : i.natAbs = 0
    · rw [z]; show 0 ≤ b; omega
    · have := (Nat.log2_lt z).mpr h
      omega
  exact ⟨by simp only [okK, decide_eq_true_eq]; omega, by simp [okD], by show i.natAbs.log2 + 2 ≤ _; omega, fun _ => rfl⟩
theorem okKs_all : ∀ {ds : List D}, (∀ d ∈ ds, okK n d = true) → okKs n ds = true
  | [], _ => by simp [okKs]
  | x :: r, h => by
    simp only [okKs, h x List.mem_cons_self, okKs_all fun d hd => h d (List.mem_cons_of_mem _ hd), Bool.and_self]
theorem okDs_all' : ∀ {ds : List D}, (∀ d ∈ ds, okD n d = true) → okDs n ds = true
  | [], _ => by simp [okDs]
  | x :: r, h => by
    simp only [okDs, h x List.mem_cons_self, okDs_all' fun d hd => h d (List.mem_cons_of_mem _ hd), Bool.and_self]
theorem lowAll : ∀ {l : List D}, (∀ d ∈ l, lowD n d = true) → lowDs n l = true
  | [], _ => rfl
  | x :: r, h => by
    show (lowD n x && lowDs n r) = true
    rw [h x List.mem_cons_self, lowAll fun d hd => h d (List.mem_cons_of_mem _ hd)]
    rfl
theorem wtKs_le : ∀ {ds : List D}, (∀ d ∈ ds, wtK d ≤ w) → wtKs ds ≤ (w + 2) * ds.length
  | [], _ => Nat.zero_le _
  | x :: r, h => by
    have h1 := h x List.mem_cons_self
    have h2 := wtKs_le fun d hd => h d (List.mem_cons_of_mem x hd)
    rw [List.length_cons, Nat.mul_succ]
    simp only [wtKs]
    omega
theorem sh_tup (h : ∀ d ∈ ds, Shw n w d) : Shw (n + 1) ((w + 2) * ds.length + 3) (.tup ds) := by
  have wt := wtKs_le fun d hd => (h d hd).wt
  refine ⟨?_, ?_, by simp only [wtK]; omega, fun m => lowAll fun d hd => (h d hd).lo m⟩
  · show okKs n ds = true
    exact okKs_all fun d hd => (h d hd).k
  · show okDs (n + 4) ds = true
    exact okDs_all' fun d hd => (h d hd).e
theorem sh_lst (h : ∀ d ∈ ds, Shw n w d) : Shw (n + 1) ((w + 2) * ds.length + 4) (.lst ds) := by
  have wt := wtKs_le fun d hd => (h d hd).wt
  refine ⟨?_, ?_, by simp only [wtK]; omega, fun m => lowAll fun d hd => (h d hd).lo m⟩
  · show okKs n ds = true
    exact okKs_all fun d hd => (h d hd).k
  · show okDs (n + 4) ds = true
    exact okDs_all' fun d hd => (h d hd).e
/-- the text that repr gives -/
noncomputable def reprS (d : D) : Str := match bReprB [d] [] with
  | .ok (.str s) _ => s
  | _ => ""
end
end QL
end
section
set_option Elab.async false
set_option linter.all false
set_option maxRecDepth 100000
set_option maxHeartbeats 4000000
set_option autoImplicit false
namespace QL
open PySem PySem.Spec L2
open Classical
local macro_rules | `(tactic| simp_arith [$as,*]) => `(tactic| simp only [wp_ok, wp_rz, sq_nx, sq_rt, sq_bk, sq_ct, sq_rz, sq_ez, swp_nx, swp_rt, swp_bk, swp_ct, swp_rz, wv_some, w_eVar, w_eC, w_aNil, Kc2_ap, Kc1_ap, w_aCons, Kcl_ap, w_eCall, w_eTup, Ktu_0, Ktu_1, Ktu_2, Ktu_3, Ktu_4, w_eLst, Kls_0, Kls_1, Kls_2, Kls_3, Kls_4, Kls_5, Kls_6, Kls_7, Kls_8, Kls_9, w_eLstP, Klp_0, Klp_1, Klp_2, K2c_ap, K2b_ap, w_e2, K3d_t, K3d_f, K3c_ap, K3b_ap, w_e3, KbV_ap, w_bV, Kno_ap, w_bNot, Kan_t, Kan_f, w_bAnd, Kor_t, Kor_f, w_bOr, w_bYes, Ken_ap, w_eNot, Kea_t, Kea_f, w_eAnd, Keo_t, Keo_f, w_eOr, Kei_t, Kei_f, w_eIf, w_kNil, w_kSeq, w_kRet, w_kRetN, Kdr_ap, w_kDrop, Kif_t, Kif_f, w_kIf, w_kBreak, w_kCont, Kas_ap, w_kAsg, w_gN, w_gNil, Kgc_ap, w_gCons, w_gTup2, w_gTup3, wls_some, Ks2_ap, Ks1_ap, w_gSubL, Kpr_ap, w_kPar, Kau_ap, wau_i, w_kAug, wdp_some, Kd3_ap, Kd2_ap, Kd1_ap, w_kDPut, Kg4_ap, wlk_i, Kg2_ap, Kg1_ap, w_kDAug, w_oNone, Kso_ap, w_oSome, Kl3_ap, Kl2_ap, Kl1_ap, w_eSl, Kfl_1, w_eFld, w_eMeth, Kis_l, w_iSeq, Kit_t, w_iTup, w_iRange1, Ken1_l, w_iEnum, Kfo_ap, w_kFor, turn_nx, turn_ct, turn_rt, turn_bk, turn_rz, turn_ez, Ktn_ap, w_eLc, w_eLcP, Klb_t, Klb_f, Klg_ap, pof_nx, pof_rt, List.getElem?_cons_succ, List.getElem?_cons_zero, List.set_cons_succ, List.set_cons_zero, kl_cons, kl_nil, List.map_cons, List.map_nil, List.replicate_succ, List.replicate_zero, List.cons_append, List.nil_append, Bool.not_true, Bool.not_false, fAdd_i, fSub_i, fLt_i, fLe_i, fGt_i, fGe_i, fEqA_i, fEqA_s, fNe_i, fNe_s, fNe_b, fSl_l, bLenA_l, bMax2_i, bMin2_i, bInt_b, bInt_i, fIs0_n, fNot0_n, fIs0_i, fNot0_i, fNot0_p, settle_self, settle_selfX, Kf1_ap, w_kFld, w_eFrz, w_eFrzT, KfT_d, KkT_ap, w_iKeysT, KkF_ap, w_iKeysF, Kmk_ap, w_eMake, w_kRz, Krz_1, pof_rz, pof_ez, ez_ap, tr_nx, tr_rt, Kge3_ap, Kge2_ap, w_eGet2, wgl_s, wgl_n, min_s, max_s, Kq3_ap, Kq2_ap, Kq1_ap, w_eSlP, $as,*])
/-! QWp5: more equations; != of data; sorted lists of runs. -/
section
variable {M M1 M2 : Mem} {S : Sl} {Q : QQ D} {E : XQ} {P : Po} {e o v a b : EF} {d x y w : D} {k n : Nat} {ds : List D} {t : TF} {ar : AF} {g : GF}
def Ksi (Q : QQ D) : QQ D := fun d M => match asK M d with
  | some kvs => match itemsOf kvs with
    | some ks => ks.length < 64 ∧ Q (.lst ((srtI ks).map itD)) M
    | none => False
  | none => False
theorem w_eSortIt : wp (eSortIt e S M) Q E = wp (e S M) (Ksi Q) E := by
  unfold eSortIt; rw [wp_bind]; congr 1; funext d M1; unfold Ksi
  rcases asK M1 d with _ | kvs
  · rfl
  · simp only
    rcases itemsOf kvs with _ | ks
    · rfl
    · simp only
      by_cases h : ks.length < 64
      · rw [if_pos h]; exact propext ⟨fun z => ⟨h, z⟩, fun z => z.2⟩
      · rw [if_neg h]; exact propext ⟨fun z => z.elim, fun z => absurd z.1 h⟩
def KiF (Q : QQ Its) : QQ D := fun d M => match d with
  | .dK kvs => Q ⟨kvs.map fun kv => .tup [kD kv.1, kv.2], none⟩ M
  | _ => False
theorem w_iItemsF {Q : QQ Its} : wp (iItemsF e S M) Q E = wp (e S M) (KiF Q) E := by
  unfold iItemsF; rw [wp_bind]; congr 1; funext d M1; cases d <;> rfl
theorem KiF_ap {Q : QQ Its} {kvs : List (Key × D)} : KiF Q (.dK kvs) M = Q ⟨kvs.map fun kv => .tup [kD kv.1, kv.2], none⟩ M := (rfl)
def KrV (Q : QQ D) : QQ D := fun d M => match asL M d with
  | some ds => Q (.lst ds.reverse) M
  | none => False
theorem w_eRev : wp (eRev e S M) Q E = wp (e S M) (KrV Q) E := by
  unfold eRev; rw [wp_bind]; congr 1; funext d M1; unfold KrV
  rcases asL M1 d with _ | ds <;> rfl
def KiC (cl : Str) (Q : QQ D) : QQ D := fun d M => match isObj cl d M with
  | some _ => Q (.bl true) M
  | none => match asK M d with
    | some _ => Q (.bl false) M
    | none => False
theorem w_eIsC {cl : Str} : wp (eIsC cl e S M) Q E = wp (e S M) (KiC cl Q) E := by
  unfold eIsC; rw [wp_bind]; congr 1; funext d M1; unfold KiC
  rcases isObj cl d M1 with _ | fs
  · simp only
    rcases asK M1 d with _ | fs <;> rfl
  · rfl
theorem KiC_o {cl : Str} {fs : List (Str × D)} : KiC cl Q (.obj cl fs) M = Q (.bl true) M := by simp [KiC, isObj]
theorem eqO_wp {cl : Str} {g : List D → Mem → Res D} (h : wp (a S M) (fun x M1 => wp (b S M1) (fun y M2 => (∃ fs, isObj cl x M2 = some fs) ∧ (isObj cl y M2).isSome = true ∧ ∃ r M3, g [x, y] M2 = .ok (.bl r) M3 ∧ Q (.bl r) M3) E) E) :
    wp (eEqO cl g a b S M) Q E := by
  unfold eEqO; rw [wp_bind]
  refine wp_imp h (fun x M1 h => ?_) fun _ _ h => h
  rw [wp_bind]
  refine wp_imp h (fun y M2 ⟨⟨fs, h1⟩, h2, r, M3, h3, h4⟩ => ?_) fun _ _ h => h
  simp only [h1, h3]
  rw [if_pos (.inl h2)]
  exact h4
def KoG (g : GF) (t : TF) (vs : List Nat) (S : Sl) (P : Po) : QQ ItG := fun I M => swp (forL I.gd g t vs I.ds S M) P
theorem KoG_ap {I : ItG} {vs : List Nat} : KoG g t vs S P I M = swp (forL I.gd g t vs I.ds S M) P := (rfl)
theorem w_kForG {f : IFG} {vs : List Nat} : swp (kForG f g t vs S M) P = wp (f S M) (KoG g t vs S P) (P.ez S) := by
  unfold kForG; rw [swp_thnR]; rfl
/-- the walk leaves the list at x as it is -/
def gdOf (x : D) (ds : List D) : Mem → Prop := match x with
  | .ptr k => fun M => M[k]? = some (.lst ds)
  | _ => fun _ => True
def KeG (Q : QQ ItG) : QQ (List D) := fun ds M1 => match ds with
  | [.lst xs] => Q ⟨enumD 0 xs, fun _ => True⟩ M1
  | [.ptr k] => match M1[k]? with
    | some (.lst xs) => Q ⟨enumD 0 xs, fun M => M[k]? = some (.lst xs)⟩ M1
    | _ => False
  | _ => False
theorem w_iEnumG {Q : QQ ItG} : wp (iEnumG ar S M) Q E = wp (ar S M) (KeG Q) E := by
  unfold iEnumG; rw [wp_bind]; congr 1; funext ds M1
  match ds with
  | [] => rfl
  | [d] =>
    cases d with
    | ptr k =>
      show wp (match M1[k]? with | some (.lst xs) => _ | _ => Res.bad) Q E = (match M1[k]? with | some (.lst xs) => _ | _ => False)
      rcases M1[k]? with _ | mo
      · rfl
      · cases mo <;> rfl
    | _ => rfl
  | d :: _ :: _ => cases d <;> rfl
/-! ### != of data -/
end
/-! ### runs -/
abbrev Rn := Str × Str × Int
abbrev eR (r : Rn) : D := .tup [.str r.1, .str r.2.1, .int r.2.2]
def rnk (r : Rn) : List Key := [.inr r.1, .inr r.2.1, .inl r.2.2]
noncomputable def srtR (rs : List Rn) : List Rn := rs.mergeSort fun a b => leL (rnk a) (rnk b)
end QL
end
section
set_option Elab.async false
set_option linter.all false
set_option maxRecDepth 100000
set_option maxHeartbeats 4000000
set_option autoImplicit false
namespace QL
open PySem PySem.Spec L2
open Classical
local macro_rules | `(tactic| simp_arith [$as,*]) => `(tactic| simp only [wp_ok, wp_rz, sq_nx, sq_rt, sq_bk, sq_ct, sq_rz, sq_ez, swp_nx, swp_rt, swp_bk, swp_ct, swp_rz, wv_some, w_eVar, w_eC, w_aNil, Kc2_ap, Kc1_ap, w_aCons, Kcl_ap, w_eCall, w_eTup, Ktu_0, Ktu_1, Ktu_2, Ktu_3, Ktu_4, w_eLst, Kls_0, Kls_1, Kls_2, Kls_3, Kls_4, Kls_5, Kls_6, Kls_7, Kls_8, Kls_9, w_eLstP, Klp_0, Klp_1, Klp_2, K2c_ap, K2b_ap, w_e2, K3d_t, K3d_f, K3c_ap, K3b_ap, w_e3, KbV_ap, w_bV, Kno_ap, w_bNot, Kan_t, Kan_f, w_bAnd, Kor_t, Kor_f, w_bOr, w_bYes, Ken_ap, w_eNot, Kea_t, Kea_f, w_eAnd, Keo_t, Keo_f, w_eOr, Kei_t, Kei_f, w_eIf, w_kNil, w_kSeq, w_kRet, w_kRetN, Kdr_ap, w_kDrop, Kif_t, Kif_f, w_kIf, w_kBreak, w_kCont, Kas_ap, w_kAsg, w_gN, w_gNil, Kgc_ap, w_gCons, w_gTup2, w_gTup3, wls_some, Ks2_ap, Ks1_ap, w_gSubL, Kpr_ap, w_kPar, Kau_ap, wau_i, w_kAug, wdp_some, Kd3_ap, Kd2_ap, Kd1_ap, w_kDPut, Kg4_ap, wlk_i, Kg2_ap, Kg1_ap, w_kDAug, w_oNone, Kso_ap, w_oSome, Kl3_ap, Kl2_ap, Kl1_ap, w_eSl, Kfl_1, w_eFld, w_eMeth, Kis_l, w_iSeq, Kit_t, w_iTup, w_iRange1, Ken1_l, w_iEnum, Kfo_ap, w_kFor, turn_nx, turn_ct, turn_rt, turn_bk, turn_rz, turn_ez, Ktn_ap, w_eLc, w_eLcP, Klb_t, Klb_f, Klg_ap, pof_nx, pof_rt, List.getElem?_cons_succ, List.getElem?_cons_zero, List.set_cons_succ, List.set_cons_zero, kl_cons, kl_nil, List.map_cons, List.map_nil, List.replicate_succ, List.replicate_zero, List.cons_append, List.nil_append, Bool.not_true, Bool.not_false, fAdd_i, fSub_i, fLt_i, fLe_i, fGt_i, fGe_i, fEqA_i, fEqA_s, fNe_i, fNe_s, fNe_b, fSl_l, bLenA_l, bMax2_i, bMin2_i, bInt_b, bInt_i, fIs0_n, fNot0_n, fIs0_i, fNot0_i, fNot0_p, settle_self, settle_selfX, Kf1_ap, w_kFld, w_eFrz, w_eFrzT, KfT_d, KkT_ap, w_iKeysT, KkF_ap, w_iKeysF, Kmk_ap, w_eMake, w_kRz, Krz_1, pof_rz, pof_ez, ez_ap, tr_nx, tr_rt, Kge3_ap, Kge2_ap, w_eGet2, wgl_s, wgl_n, min_s, max_s, Kq3_ap, Kq2_ap, Kq1_ap, w_eSlP, w_gAll, KitT_ap, w_iItemsT, w_eSortIt, w_iItemsF, KiF_ap, w_eRev, w_eIsC, KiC_o, w_kForG, KoG_ap, w_iEnumG, $as,*])
/-! V1: exchanges, as plain functions. -/
abbrev sw (p : PR) : PR := (p.2, p.1)
abbrev kD2 (r : Rn) : PR := (r.1, r.2.1)
section
variable {T U : Tab} {p q : PR} {i m : Int} {ps : List Rn} {es : List PR} {g : PR → Int}
theorem get_mem (h : 0 < T.get p) : p ∈ T.1 := by
  unfold Tab.get at h
  by_cases q : p ∈ T.1
  · exact q
  · rw [if_neg q] at h; omega
theorem get_in (h : p ∈ T.1) : T.get p = T.2 p := if_pos h
def gridT (ps : List Rn) : Tab := ps.foldl (fun T r => T.put (kD2 r) r.2.2) T0
def tblS (T : Tab) (r : Rn) : Tab := (T.put (kD2 r) r.2.2).put (sw (kD2 r)) ((T.put (kD2 r) r.2.2).get (sw (kD2 r)))
def tableT (ps : List Rn) : Tab := ps.foldl tblS T0
/-! ### a step, all steps -/
def stepF (m : Int) (g : PR → Int) (p : PR) : PR → Int := fun q => if q = sw p then (if sw p = p then g p - m else g (sw p)) + m else if q = p then g p - m else g q
def stepT (m : Int) (T : Tab) (p : PR) : Tab := (T.put p (T.get p - m)).put (sw p) ((T.put p (T.get p - m)).get (sw p) + m)
def stepsT (m : Int) (T : Tab) (es : List PR) : Tab := es.foldl (stepT m) T
def stepsF (m : Int) (g : PR → Int) (es : List PR) : PR → Int := es.foldl (stepF m) g
/-- steps along pairs that differ, none of which is another one turned -/
structure Way (es : List PR) : Prop where
  nd : es.Nodup
  tw : ∀ e ∈ es, sw e ∉ es
theorem Way.turn {es : List PR} (w : Way es) : Way (es.reverse.map sw) := by
  refine ⟨?_, fun e he z => ?_⟩
  · refine List.pairwise_map.mpr (((List.reverse_perm es).nodup_iff.mpr w.nd).imp fun h e => h ?_)
    have := congrArg sw e
    exact this
  · obtain ⟨e', h1, rfl⟩ := List.mem_map.mp he
    obtain ⟨e2, h2, h3⟩ := List.mem_map.mp z
    have : e2 = sw e' := congrArg sw h3
    rw [this] at h2
    exact w.tw e' (List.mem_reverse.mp h1) (List.mem_reverse.mp h2)
/-! ### the payments of a table -/
noncomputable def outR (T : Tab) : List Rn := srtR ((T.1.filter fun p => decide (0 < T.2 p)).map fun p => (p.1, p.2, T.2 p))
/-- payments, ascending: the pairs differ, the numbers are above 0 -/
structure Pay (ps : List Rn) : Prop where
  nd : (ps.map kD2).Nodup
  pos : ∀ r ∈ ps, 1 ≤ r.2.2
  so : srtR ps = ps
end
end QL
end
section
set_option Elab.async false
set_option linter.all false
set_option maxRecDepth 100000
set_option maxHeartbeats 1000000
set_option autoImplicit false
/-! QSc2: {name for t in rows for name in t}, rows a list of tuples of texts: the set of them all. -/
namespace QL
open PySem PySem.Spec L2
/-! ### the two loops, told by what is still to come -/
abbrev scE (elt t0 i0 t1 i1 : Expr) (scope : Scope) (pos : Pos) : Expr := .SetComp elt [⟨t0, i0, [], 0⟩, ⟨t1, i1, [], 0⟩] scope pos
/-- no error comes out -/
abbrev noE : Value → Shared → Prop := fun _ _ => False
section
variable {prog : Program} {w : World} {A : Around} {R : Result → Shared → Prop} {elt t0 i0 t1 i1 : Expr} {scope : Scope} {pos : Pos} {acc it : Value} {env : Env}
end
/-! ### one more text in the set -/
section
variable {X : Cx} {pins : List (Addr × Obj)} {σ : L2.St} {H : Hp} {s : Shared}
end
/-! ### the walk -/
/-- the tuples of texts that a list holds -/
def TxL (H : Hp) : List V → List (List Str) → Prop
  | [], [] => True
  | v :: vs, n :: ns => (∃ b, v = .ref b ∧ H b = some (.tup (n.map V.str))) ∧ TxL H vs ns
  | _, _ => False
theorem TxL.len {H : Hp} : ∀ {vs : List V} {ns : List (List Str)}, TxL H vs ns → vs.length = ns.length
  | [], [], _ => rfl
  | _ :: _, _ :: _, h => congrArg (· + 1) (TxL.len h.2)
theorem TxL.at {H : Hp} : ∀ {vs : List V} {ns : List (List Str)}, TxL H vs ns → ∀ {i : Nat} {n : List Str}, ns[i]? = some n → ∃ b, vs[i]? = some (.ref b) ∧ H b = some (.tup (n.map V.str))
  | [], [], _, i, _, e => by simp at e
  | [], _ :: _, h, _, _, _ => h.elim
  | _ :: _, [], h, _, _, _ => h.elim
  | _ :: _, _ :: _, h, 0, _, e => by
    obtain ⟨⟨b, rfl, hb⟩, _⟩ := h
    cases e
    exact ⟨b, rfl, hb⟩
  | _ :: _, _ :: _, h, i + 1, _, e => TxL.at (i := i) h.2 e
section
variable {Y : Cx} {pins : List (Addr × Obj)} {σ : L2.St} {H : Hp} {s : Shared} {elt t0 i0 t1 i1 : Expr} {scope : Scope} {pos : Pos} {R : Result → Shared → Prop} {fp : List Addr} {a b it D : Addr} {tn : Nat → Heap → Prop} {l n : List Str} {j0 j1 : Nat}
/-- pinned things stay -/
theorem pins_keep {h : Heap} (I : Inv Y (pins ++ pinsAt fp h) σ H s) {c : Addr} (hc : c ∈ fp) {o : Obj} (e : h.get? c = some o) : s.heap.get? c = some o :=
  (I.pin (c, o) (List.mem_append_right _ (List.mem_append_right _ (mem_pinsAt hc e)))).1
end
/-! ### as a value -/
/-- td: the rows -/
def tSc2 (P : Program) (w : World) (K : PySem.W.Frag) (td : TE) : TE := fun σ H Q => iList K td σ H fun J H1 => ∃ (a : Addr) (L : List V) (ns : List (List Str)), J = Itl K a ∧ SqL K H1 a L ∧ TxL H1 L ns ∧ ns.flatten.length + 1 < scanBound ∧ ∀ D, H1 D = none → Q (.ref D) (upd H1 D (SetT P w D (dedup ns.flatten)))
section
variable {X : Cx} {elt t0 iter t1 i1 : Expr} {scope : Scope} {own : List (Str × Nat)} {pos : Pos} {td : TE} {j0 j1 : Nat}
end
/-! ### sorted({name for t in rows for name in t}) on data -/
def rowsT : List D → Option (List (List Str))
  | [] => some []
  | .tup ds :: r => match strsOf ds, rowsT r with
    | some n, some t => some (n :: t)
    | _, _ => none
  | _ => none
noncomputable def rsR (r : Res D) : Res D := r.bind fun d M1 => match asL M1 d with
  | some xs => match rowsT xs with
    | some ns => if ns.flatten.length + 1 < scanBound ∧ (dedup ns.flatten).length < 64 then .ok (.lst ((srt (dedup ns.flatten)).map D.str)) M1 else .bad
    | none => .bad
  | none => .bad
noncomputable def eSortSc2 (e : EF) : EF := fun S M => rsR (e S M)
end QL
end
section
set_option Elab.async false
set_option linter.all false
set_option maxRecDepth 100000
set_option maxHeartbeats 4000000
set_option autoImplicit false
/-! QDcT: {(a, b): c for ..}, a new table whose keys are tuples; the number of the turns is known. -/
namespace L2
open PySem PySem.Spec PyProof.Rows
open QL (noE pins_keep)
/-- one more pair in the table at D -/
theorem lay_pair {Y : Cx} {pins : List (Addr × Obj)} {σ : L2.St} {H : Hp} {s : Shared} {D b : Addr} {l : List (List Key × V)} {k : List Key} {z : V} {r : Value} {Q : Unit → Shared → Prop} {E : Value → Shared → Prop} (hu : Y.A.units + 1 < cLine) (I : Inv Y pins σ H s)
    (hD : H D = some (.dT l)) (hb : H b = some (.tup (k.map kV))) (room : l.length < sizeLine) (rz : RelV z r) (q : ∀ s', Inv Y pins σ (upd H D (.dT (putK l k z))) s' → Q () s') : wpAny (model Y.prog Y.w) Y.A (dictSet D (.ref b) r) Q E s := by
  have more := length_putK l k z
  obtain ⟨z0, hsm, xs, rel, dd⟩ := dt_of I.hok hD
  refine wpAny_dictSet_heap (hsz := by rw [← Paired.length rel]; exact z0) (show Y.A.units < cLine by omega) (key_of I.hok hb) dd fun h' dd' hs => q _ ?_
  obtain ⟨o', es, ep, ho, h2, h3, h4, _, h5⟩ := dd'
  have other : ∀ c ys, H c = some (.tup ys) → upd H D (HO.dT (putK l k z)) c = some (.tup ys) := fun c ys ec => by
    rw [upd_ne (ne_of ec hD (fun z => nomatch z))]
    exact ec
  exact d_write I (by rw [hD]; exact True.intro) hs ⟨o', ho⟩ ⟨by omega, hsm, _, (rel.put k hb rz).keeps other, o', es, ep, ho, h2, h3, h4, h5⟩
/-- W: what holds ahead of turn i; D: the new table -/
def tTab (wi : TI) (g : TG) (tk tv : TE) (vs : List Nat) : TE := fun σ H Q => wi σ H fun J H1 => ∀ D, H1 D = none → ∃ (n : Nat) (W : Nat → Hp → Prop), W 0 (upd H1 D (.dT [])) ∧ (∀ H', W n H' → J.stop n H' ∧ Q (.ref D) H') ∧
  ∀ i H', i < n → W i H' → J.go i H' ∧ ∀ x H2, J.yld i H' x H2 → g x (wipe σ vs) H2 fun σ3 H3 => wipe σ3 vs = wipe σ vs ∧ tk σ3 H3 fun y H4 => tv σ3 H4 fun z H5 =>
    ∃ (l : List (List Key × V)) (k : List Key) (b : Addr), y = .ref b ∧ H5 b = some (.tup (k.map kV)) ∧ H5 D = some (.dT l) ∧ l.length < sizeLine ∧ W (i + 1) (upd H5 D (.dT (putK l k z)))
abbrev dcE (kx vx tg iter : Expr) (scope : Scope) (pos : Pos) : Expr := .DictComp kx vx [⟨tg, iter, [], 0⟩] scope pos
section
variable {Y : Cx} {kx vx tg iter : Expr} {scope : Scope} {pos : Pos} {R : Result → Shared → Prop} {fp : List Addr} {it D : Addr} {tn : Nat → Heap → Prop} {J : It} {g : TG} {tk tv : TE} {vs : List Nat} {σ : L2.St} {n : Nat} {W : Nat → Hp → Prop} {s : Shared} {H : Hp}
/-- the turns, told by how many are still to come -/
theorem tab_turns (hu : Y.A.units + 1 < cLine) (calm : Y.calm = true) (hx : Y.xe = noE) (T : Turn Y.prog Y.w Y.K tg J fp it tn) (pg : PG Y tg g) (pk : PE Y kx tk) (pv : PE Y vx tv)
    (foot : ∀ {σ' : L2.St} {H' : Hp} {s' : Shared}, Inv Y [] σ' H' s' → (∀ c ∈ fp, H' c = none) → ∀ c ∈ fp, FpOk Y [] H' c)
    (step : ∀ i H', i < n → W i H' → J.go i H' ∧ ∀ x H2, J.yld i H' x H2 → g x (wipe σ vs) H2 fun σ3 H3 => wipe σ3 vs = wipe σ vs ∧ tk σ3 H3 fun y H4 => tv σ3 H4 fun z H5 =>
      ∃ (l : List (List Key × V)) (k : List Key) (b : Addr), y = .ref b ∧ H5 b = some (.tup (k.map kV)) ∧ H5 D = some (.dT l) ∧ l.length < sizeLine ∧ W (i + 1) (upd H5 D (.dT (putK l k z))))
    (last : ∀ H' s', W n H' → Inv Y [] (wipe σ vs) H' s' → R (.ok .next) s') (stop : ∀ H', W n H' → J.stop n H')
    (I : Inv Y [] (wipe σ vs) H s) (st : tn 0 s.heap) (none0 : ∀ c ∈ fp, H c = none) (w0 : W 0 H) :
    codeAny (model Y.prog Y.w) Y.A (.compLoop (dcE kx vx tg iter scope pos) 0 (.ref it) (.ref D) Y.env) R s := by
  refine compLoop_anyD (fun m s' => ∃ i H', i + m = n ∧ Inv Y [] (wipe σ vs) H' s' ∧ tn i s'.heap ∧ (∀ c ∈ fp, H' c = none) ∧ W i H') (fun m s5 z => ?_) n ⟨0, H, Nat.zero_add n, I, st, none0, w0⟩
  obtain ⟨i, H5, hin, I5, st5, n5, w5⟩ := z
  by_cases hm : m = 0
  · have ei : i = n := by omega
    subst ei
    refine wpAny_mono (T.done Y rfl rfl rfl calm i [] s5 _ H5 noE I5 (foot I5 n5) st5 (stop H5 w5)) (fun r s6 z => ?_) fun _ _ e => e.elim
    obtain ⟨rfl, I6⟩ := z
    exact last H5 s6 w5 I6
  · obtain ⟨go, nxt⟩ := step i H5 (by omega) w5
    refine wpAny_mono (T.item Y rfl rfl rfl calm i [] s5 _ H5 noE I5 (foot I5 n5) st5 go) (fun r s6 z => ?_) fun _ _ e => e.elim
    obtain ⟨u, rfl, z⟩ := z
    refine wpAny_mono z (fun _ s7 z => ?_) fun _ _ e => e.elim
    obtain ⟨x, H7, I7, r7, y7, st7, n7⟩ := z
    have a8 := pg.run _ s7 _ H7 x u _ (I7.pinned (foot I7 n7) (T.obj _ _ st7)) r7 (nxt x H7 y7)
    rw [hx] at a8
    refine wpAny_mono a8 (fun _ s8 z => ?_) fun _ _ e => e.elim
    obtain ⟨σ8, H8, I8, same, q8⟩ := z
    rw [List.forIn_nil]
    refine wpAny_pure ?_
    rw [if_pos rfl]
    have a9 := pk.run _ s8 σ8 H8 _ I8 q8
    rw [hx] at a9
    refine wpAny_mono a9 (fun y s9 z => ?_) fun _ _ e => e.elim
    obtain ⟨yv, H9, I9, r9, q9⟩ := z
    have a10 := pv.run _ s9 σ8 H9 _ I9 q9
    rw [hx] at a10
    refine wpAny_mono a10 (fun v s10 z => ?_) fun _ _ e => e.elim
    obtain ⟨zv, H10, I10, r10, l, k, b, rfl, hb, hD, room, wn⟩ := z
    cases (show y = Value.ref b from r9)
    refine lay_pair hu I10 hD hb room r10 fun s11 I11 => ⟨m - 1, by omega, i + 1, _, by omega, ?_, ?_, ?_, wn⟩
    · refine (I11.unpinned (pins := [])).weak (by rw [← same, wipe_length]) fun j v e => ?_
      rw [← same] at e
      exact (wipe_some e).1
    · exact T.keep _ _ _ st7 fun c hc o e => pins_keep I11 hc e
    · intro c hc
      obtain ⟨o, e, _⟩ := T.obj _ _ st7 c hc
      exact (I11.pin (c, o) (List.mem_append_right _ (List.mem_append_right _ (mem_pinsAt hc e)))).2.1
end
section
variable {X : Cx} {kx vx tg iter : Expr} {scope : Scope} {own : List (Str × Nat)} {pos : Pos} {wi : TI} {g : TG} {tk tv : TE}
theorem pe_tab (hu : X.A.units + 1 < cLine) (hc : X.calm = true) (hN : X.N.Nodup) (hi : PI X tg iter wi) (ok : BlkOk X.N X.env.scope scope own)
    (hg : ∀ (s : Shared) (H : Hp) (C : Addr) (cl : List (Str × Addr)) (fp : List Addr), PG (X.blk s H scope (compEnvC scope cl C X.env) fp) tg g)
    (hk : ∀ (s : Shared) (H : Hp) (C : Addr) (cl : List (Str × Addr)) (fp : List Addr), PE (X.blk s H scope (compEnvC scope cl C X.env) fp) kx tk)
    (hv : ∀ (s : Shared) (H : Hp) (C : Addr) (cl : List (Str × Addr)) (fp : List Addr), PE (X.blk s H scope (compEnvC scope cl C X.env) fp) vx tv)
    (hs : ∀ x, foldedSetIterable iter X.env x = pure x := by intro _; rfl) :
    PE X (dcE kx vx tg iter scope pos) (tTab wi g tk tv (own.map (·.2))) := by
  refine ⟨fun pins s σ H Q I h => ?_⟩
  rw [arm_eval_DictComp]
  have free : ∀ y ∈ scope.names, y.2 = .free → ∃ c, X.env.cells.lookup y.1 = some c := fun y hy e => (ok.free y hy e).elim (fun k => I.ok.has _ (.inl k)) fun k => I.ok.has _ (.inr k)
  refine wpAny_comprehension_free rfl hs (closure_ok free) ok.kind (fun y hy e => by rw [ok.uniq y hy, e]) (wpAny_mono (hi.run pins s σ H _ I h) (fun xv s1 z => wpAny_mono z (fun itv s2 z => ?_) fun _ _ e => e) fun _ _ e => e)
  obtain ⟨it, fp, tn, J, H2, rfl, I2, T, st2, foot2, q⟩ := z
  refine wpAny_newObj_type (newEnv_comp ?_)
  have none2 : H2 s2.heap.objs.size = none := I2.hok.fresh (Nat.le_refl _)
  have empty := dt_empty (P := X.prog) (w := X.w) (H := upd H2 s2.heap.objs.size (.dT [])) s2.heap I2.big
  have old : ∀ b o, s2.heap.get? b = some o → (s2.heap.push { cls := .type "dict", data := .dict #[] }).get? b = some o := fun b o e => Heap.get?_push_of_some _ e
  have grow : s2.heap.objs.size < (s2.heap.push { cls := .type "dict", data := .dict #[] }).objs.size := by rw [Heap.size_push]; exact Nat.lt_succ_self _
  generalize s2.heap.push { cls := .type "dict", data := .dict #[] } = h3 at empty old grow ⊢
  generalize eD : s2.heap.objs.size = D at none2 empty grow ⊢
  have I3 : Inv X pins σ (upd H2 D (.dT [])) { s2 with heap := h3 } := I2.laid (t' := s2.toks) old (Nat.le_of_eq eD) empty
  have there : ∀ b ∈ fp, b < D := fun b hb => by
    obtain ⟨o, e, _⟩ := T.obj _ _ st2 b hb
    rw [← eD]
    exact Heap.lt_size e
  have foot3 : ∀ b ∈ fp, FpOk X pins (upd H2 D (.dT [])) b := fun b hb => ⟨by rw [upd_ne (Nat.ne_of_lt (there b hb))]; exact (foot2 b hb).1, (foot2 b hb).2⟩
  have I4 := block_start I3 ok hN fun b hb => ⟨foot3 b hb, Nat.lt_trans (there b hb) grow⟩
  have st4 : tn 0 (pushCells (h3.push { cls := .type "dict", data := .dict #[] }) scope.names) := T.keep _ _ _ st2 fun b _ o e => pushCells_keeps _ _ _ _ (Heap.get?_push_of_some _ (old b o e))
  obtain ⟨n, W, w0, fin, step⟩ := q D none2
  show codeAny _ _ (.compStart (dcE kx vx tg iter scope pos) 0 (.ref it) (.ref D) (compEnvC scope (cellsFrom (h3.objs.size + 1) scope.names (cloFrom X.env.cells scope.names [])) h3.objs.size X.env)) (compPost (model X.prog X.w) X.A X.xe none (EP X pins σ Q) (.ref D) h3.objs.size) { s2 with heap := pushCells (h3.push { cls := .type "dict", data := .dict #[] }) scope.names }
  have loop := tab_turns (Y := X.blk { s2 with heap := h3 } (upd H2 D (.dT [])) scope (compEnvC scope (cellsFrom (h3.objs.size + 1) scope.names (cloFrom X.env.cells scope.names [])) h3.objs.size X.env) fp) (iter := iter) (scope := scope) (pos := pos) (R := compPost (model X.prog X.w) X.A X.xe none (EP X pins σ Q) (.ref D) h3.objs.size) hu hc rfl T (hg _ _ _ _ _) (hk _ _ _ _ _) (hv _ _ _ _ _)
    (fun I' hn b hb => ⟨hn b hb, (I'.ok.exf b hb).1, I'.ok.exfs b hb, .inl hb, (I'.ok.exf b hb).2, fun p hp => absurd hp (List.not_mem_nil)⟩) step (fun H5 s5 w5 I5 => ?_) (fun H' w' => (fin H' w').1) I4 st4 (fun b hb => (foot3 b hb).1) w0
  · exact codeAny_compStart_dict loop (T.self X.A 0 _ _ _ st4 loop)
  · obtain ⟨m, nsp, _⟩ := I5.loc
    have I6 := I3.call' (ch := fp) I5.os (I5.base) I5.hok I5.bare fun b hb => by
      obtain ⟨_, f1, _, f3, f4, f5⟩ := foot3 b hb
      exact ⟨f3, f1, f4, f5⟩
    have freeC := I5.free
    refine ⟨m, nsp, fun h' sb => ⟨.ref D, H5, ?_, rfl, (fin H5 w5).2⟩⟩
    obtain ⟨_, g1, _, g3, g4, g5⟩ := I3.fpOk (b := h3.objs.size) (Nat.le_refl _) (I3.hok.fresh (Nat.le_refl _))
    exact I6.turned (t' := s5.toks) (fun b o hb e => (sb.2 b hb).trans e) freeC g1 g3 g4 g5
end
end L2
namespace QL
open PySem PySem.Spec L2
open Classical
/-- the pairs that the turns lay -/
noncomputable def dtL (gd : Mem → Prop) (g : GF) (ke e : EF) (S0 : Sl) : List D → List (List Key × D) → Mem → Res (List (List Key × D))
  | [], acc, M => if gd M then .ok acc M else .bad
  | d :: r, acc, M => if gd M then match g d S0 M with
      | .ok S1 M1 => match ke S1 M1 with
        | .ok (.tup ds) M2 => match keysOf ds with
          | some k => match e S1 M2 with
            | .ok y M3 => if acc.length < sizeLine then dtL gd g ke e S0 r (putKD acc k y) M3 else .bad
            | _ => .bad
          | none => .bad
        | _ => .bad
      | _ => .bad
    else .bad
/-- a new table that may change -/
noncomputable def eDcT (f : IF) (g : GF) (ke e : EF) (vs : List Nat) : EF := fun S M => (f S M).bind fun I M1 => (dtL I.gd g ke e (kl vs S) I.ds [] M1).bind fun ys M2 => .ok (.ptr M2.length) (M2 ++ [.dT ys])
section
variable {X : Cx} {W : WX} {tg iter kx elt : Expr} {scope : Scope} {own : List (Str × Nat)} {pos : Pos} {f : IF} {g : GF} {ke e : EF}
theorem wipe_at (vs : List Nat) : ∀ (σ : L2.St) (i : Nat), (wipe σ vs)[i]? = if i ∈ vs then (σ[i]?).map (fun _ => (none : Option V)) else σ[i]? := by
  induction vs with
  | nil => intro σ i; simp [wipe]
  | cons v vs ih =>
    intro σ i
    show ((wipe σ vs).set v none)[i]? = _
    by_cases hv : v = i
    · subst hv
      rw [if_pos (List.mem_cons_self), List.getElem?_set, if_pos rfl, wipe_length]
      by_cases hl : v < σ.length
      · rw [if_pos hl, List.getElem?_eq_getElem hl]; rfl
      · rw [if_neg hl, List.getElem?_eq_none (by omega)]; rfl
    · rw [List.getElem?_set_ne hv, ih σ i]
      by_cases hm : i ∈ vs
      · rw [if_pos hm, if_pos (List.mem_cons_of_mem _ hm)]
      · rw [if_neg hm, if_neg (by intro z; rcases List.mem_cons.mp z with z | z; exact hv z.symm; exact hm z)]
theorem wipe_twice (vs : List Nat) (σ : L2.St) : wipe (wipe σ vs) vs = wipe σ vs := by
  apply List.ext_getElem?
  intro i
  rw [wipe_at vs (wipe σ vs), wipe_at vs σ]
  by_cases hm : i ∈ vs
  · rw [if_pos hm, if_pos hm]
    cases σ[i]? <;> rfl
  · rw [if_neg hm, if_neg hm]
theorem dt_turns {c : Cn} {σ : L2.St} {vs : List Nat} {G1 : Gd} {S : Sl} {H1 : Hp} {M1 : Mem} {ids : List D} {igd : Mem → Prop} {J : It} {D : Addr} {Qd : Hp → Prop} (r1 : Rep c G1 H1 M1) (s1 : SlR c G1 S σ) (w1 : Wk c G1 J ids igd) (hD : H1 D = none)
    (ne : dtL igd g ke e (kl vs S) ids [] M1 ≠ .bad) (hq : ∀ ys M2, dtL igd g ke e (kl vs S) ids [] M1 = .ok ys M2 → ∀ G2 H2 us, Gr0 G1 G2 → G2.P = (D, .dT us) :: G1.P → Rep c G2 H2 M2 → DVt c G2 ys us → Qd H2) :
    ∃ (n : Nat) (Wd : Nat → Hp → Prop), Wd 0 (upd H1 D (.dT [])) ∧ (∀ H', Wd n H' → J.stop n H' ∧ Qd H') ∧
      ∀ i H', i < n → Wd i H' → J.go i H' ∧ ∀ x H2, J.yld i H' x H2 → UpGv c W0 vs g x (wipe σ vs) H2 fun σ3 H3 => wipe σ3 vs = wipe σ vs ∧ Up c W0 (DV c) ke σ3 H3 fun y H4 => Up c W0 (DV c) e σ3 H4 fun z H5 =>
        ∃ (l : List (List Key × V)) (k : List Key) (b : Addr), y = .ref b ∧ H5 b = some (.tup (k.map kV)) ∧ H5 D = some (.dT l) ∧ l.length < sizeLine ∧ Wd (i + 1) (upd H5 D (.dT (putK l k z))) := by
  have nP : ∀ q ∈ G1.P, q.1 ≠ D := fun q hq z => by
    obtain ⟨h1, _⟩ := r1.pin q hq
    rw [z, hD] at h1
    cases h1
  obtain ⟨R0, eR0⟩ : ∃ R0, dtL igd g ke e (kl vs S) ids [] M1 = R0 := ⟨_, rfl⟩
  rw [eR0] at ne hq
  refine ⟨ids.length, fun i H => ∃ G acc us M, Gr0 G1 G ∧ G.P = (D, .dT us) :: G1.P ∧ Rep c G H M ∧ DVt c G acc us ∧ dtL igd g ke e (kl vs S) (ids.drop i) acc M = R0,
    ⟨{ G1 with P := (D, .dT []) :: G1.P }, [], [], M1, ⟨fun _ _ h => h, [], (List.append_nil _).symm⟩, rfl, r1.pinNew hD, rfl, eR0⟩, ?_, ?_⟩
  · rintro H ⟨G, acc, us, M, g0, eP, r, q, el⟩
    rw [List.drop_length] at el
    unfold dtL at el
    by_cases hk : igd M
    · rw [if_pos hk] at el
      exact ⟨(w1 G H M g0 r hk).2 _ (Nat.le_refl _), hq _ _ el.symm G H us g0 eP r q⟩
    · rw [if_neg hk] at el
      exact absurd el.symm ne
  rintro i H hlt ⟨G, acc, us, M, g0, eP, r, q, el⟩
  have ed : ids.drop i = ids[i] :: ids.drop (i + 1) := List.drop_eq_getElem_cons hlt
  rw [ed] at el
  unfold dtL at el
  by_cases hk : igd M
  · rw [if_pos hk] at el
    obtain ⟨go, yl⟩ := (w1 G H M g0 r hk).1 i hlt
    refine ⟨go, fun x H' y => ?_⟩
    obtain ⟨G3, d, ed3, g3, r3, q3⟩ := yl x H' y
    rw [List.getElem?_eq_getElem hlt] at ed3
    cases ed3
    refine ⟨G3, kl vs S, M, _, r3, SlR.klw (S := S) (⟨s1.1, fun i d e => let ⟨v, z, w⟩ := s1.2 i d e; ⟨v, z, w.mono0 (g0.trans g3.toGr0)⟩⟩), q3, ?_⟩
    cases eg : g ids[i] (kl vs S) M with
    | rz x M2 => rw [eg] at el; exact absurd el.symm ne
    | bad => rw [eg] at el; exact absurd el.symm ne
    | ok S4 M4 =>
      rw [eg] at el
      intro G4 σ4 H4 g4 r4 ⟨s4, w4⟩
      refine ⟨by rw [w4, wipe_twice], G4, S4, M4, r4, s4, ?_⟩
      have gg := (g0.trans g3.toGr0).trans g4.toGr0
      have eP4 : G4.P = (D, .dT us) :: G1.P := by rw [g4.P, g3.P, eP]
      have q4 := q.mono0 (g3.toGr0.trans g4.toGr0)
      cases ek : ke S4 M4 with
      | rz x M6 => simp only [ek] at el; exact absurd el.symm ne
      | bad => simp only [ek] at el; exact absurd el.symm ne
      | ok kd M6 =>
        simp only [ek] at el
        cases kd with
        | tup ds =>
          simp only at el
          cases eko : keysOf ds with
          | none => simp only [eko] at el; exact absurd el.symm ne
          | some key =>
            simp only [eko] at el
            intro G6 kv H6 g6 r6 qk
            refine ⟨G6, S4, M6, r6, s4.mono g6, ?_⟩
            cases ee : e S4 M6 with
            | rz x M7 => simp only [ee] at el; exact absurd el.symm ne
            | bad => simp only [ee] at el; exact absurd el.symm ne
            | ok y M7 =>
              simp only [ee] at el
              by_cases hz : acc.length < sizeLine
              · rw [if_pos hz] at el
                intro G7 v H7 g7 r7 q7
                obtain ⟨b, ts, rfl, fb, qs⟩ := qk
                have hb : H7 b = some (.tup (key.map kV)) := by
                  rw [← keysOf_at qs eko]
                  exact r7.fz.tup (g7.F _ _ fb)
                have eP7 : G7.P = (D, .dT us) :: G1.P := by rw [g7.P, g6.P, eP4]
                have hpin := r7.pin (D, .dT us) (by rw [eP7]; exact List.mem_cons_self)
                have q5 := (q4.mono g6).mono g7
                refine ⟨us, key, b, rfl, hb, hpin.1, by rw [kr_len q5.pr]; exact hz, ?_⟩
                rw [gd_eta eP7] at r7
                have r8 := r7.pinSet (o' := .dT (putK us key v)) nP
                have gz := gg.trans (g6.toGr0.trans g7.toGr0)
                refine ⟨{ G7 with P := (D, .dT (putK us key v)) :: G1.P }, putKD acc key y, putK us key v, M7, ⟨gz.F, gz.θ⟩, rfl, r8, ?_, el⟩
                have g8 : Gr0 G7 { G7 with P := (D, .dT (putK us key v)) :: G1.P } := ⟨fun _ _ h => h, [], (List.append_nil _).symm⟩
                exact (DVt.of (kr_put q5.pr key q7)).mono0 g8
              · rw [if_neg hz] at el
                exact absurd el.symm ne
        | _ => exact absurd el.symm ne
  · rw [if_neg hk] at el
    exact absurd el.symm ne
theorem up_dcT {c : Cn} {vs : List Nat} {σ : L2.St} {H : Hp} {Q : VK} (h : Up c W (DV c) (eDcT f g ke e vs) σ H Q) : tTab (UpI c W f) (UpGv c W0 vs g) (Up c W0 (DV c) ke) (Up c W0 (DV c) e) vs σ H Q := by
  obtain ⟨G, S, M, r, s, p⟩ := h
  refine ⟨G, S, M, r, s, ?_⟩
  unfold eDcT at p
  cases ef : f S M with
  | bad => rw [ef] at p; exact p
  | rz x M1 => rw [ef] at p; exact p
  | ok I M1 =>
    rw [ef] at p
    intro G1 J H1 g1 r1 w1 D hD
    have p1 : Post c W σ G1 (DV c) ((dtL I.gd g ke e (kl vs S) I.ds [] M1).bind fun ys M2 => .ok (.ptr M2.length) (M2 ++ [.dT ys])) Q := Post.mono g1 p
    have ne : dtL I.gd g ke e (kl vs S) I.ds [] M1 ≠ .bad := fun z => by rw [z] at p1; exact p1
    refine dt_turns r1 (s.mono g1) w1 hD ne fun ys M2 ey G2 H2 us g2 eP r2 q2 => ?_
    rw [ey] at p1
    have nP : ∀ q ∈ G1.P, q.1 ≠ D := fun q hq z => by
      obtain ⟨h1, _⟩ := r1.pin q hq
      rw [z, hD] at h1
      cases h1
    rw [gd_eta eP] at r2
    have hd := (r2.pin (D, .dT us) List.mem_cons_self).1
    have g3 : Gr0 G2 { G2 with θ := G2.θ ++ [D], P := G1.P } := ⟨fun a u e => e, [D], rfl⟩
    have r3 := r2.pinP (mo := .dT ys) nP ⟨us, hd, q2.mono0 g3⟩
    have hl : G2.θ.length = M2.length := r2.len
    refine p1 _ _ H2 ⟨g2.trans g3, rfl⟩ r3 ⟨D, ?_, rfl⟩
    show (G2.θ ++ [D])[M2.length]? = some D
    rw [← hl, List.getElem?_append_right (Nat.le_refl _), Nat.sub_self]
    rfl
theorem qdcT (hu : X.A.units + 1 < cLine) (hc : X.calm = true) (hN : X.N.Nodup) (hi : QI X W tg iter f) (ok : BlkOk X.N X.env.scope scope own)
    (hg : ∀ (s : Shared) (H : Hp) (C : Addr) (cl : List (Str × Addr)) (fp : List Addr), QGv (X.blk s H scope (compEnvC scope cl C X.env) fp) (own.map (·.2)) tg g)
    (hk : ∀ (s : Shared) (H : Hp) (C : Addr) (cl : List (Str × Addr)) (fp : List Addr), QE (X.blk s H scope (compEnvC scope cl C X.env) fp) W0 kx ke)
    (he : ∀ (s : Shared) (H : Hp) (C : Addr) (cl : List (Str × Addr)) (fp : List Addr), QE (X.blk s H scope (compEnvC scope cl C X.env) fp) W0 elt e) (hs : ∀ x, foldedSetIterable iter X.env x = pure x := by intro _; rfl) :
    QE X W (.DictComp kx elt [⟨tg, iter, [], 0⟩] scope pos) (eDcT f g ke e (own.map (·.2))) := PE.imp (pe_tab (g := UpGv (cn X) W0 (own.map fun p : Str × Nat => p.2) g) (tk := Up (cn X) W0 (DV (cn X)) ke) (tv := Up (cn X) W0 (DV (cn X)) e) hu hc hN hi ok hg hk he hs) fun σ H Q h => up_dcT h
end
end QL
end
section
set_option Elab.async false
set_option linter.all false
set_option maxRecDepth 100000
set_option maxHeartbeats 1000000
set_option autoImplicit false
/-! QDeep: == and repr of data that holds lists at places; max of a list; dict([((a, b), v), ..]). -/
namespace QL
open PySem PySem.Spec L2
open Classical
/-- the data with what its places hold, n deep -/
def derN (M : Mem) : Nat → D → D
  | 0, d => d
  | n + 1, .tup ds => .tup (ds.map (derN M n))
  | n + 1, .lst ds => .lst (ds.map (derN M n))
  | n + 1, .ptr k => match M[k]? with
    | some (.lst ds) => .lst (ds.map (derN M n))
    | _ => .ptr k
  | _ + 1, d => d
section
variable {c : Cn} {G : Gd} {H : Hp} {M : Mem}
theorem dps_map {f : D → D} {m : Nat} (hf : ∀ d v, okD m (f d) = true → DV c G d v → Dp c.K H v (toPy (f d))) : ∀ (ds : List D) (vs : List V), okDs m (ds.map f) = true → DVs c G ds vs → DpAll c.K H vs (toPys (ds.map f))
  | [], _, _, q => by rw [show _ = ([] : List V) from q, List.map_nil, toPys]; exact .nil
  | d :: r, _, h, q => by
    rw [List.map_cons] at h ⊢
    simp only [okDs, Bool.and_eq_true] at h
    obtain ⟨v, t, rfl, q1, q2⟩ := q
    rw [toPys]
    exact .cons (hf d v h.1 q1) (dps_map hf r t h.2 q2)
theorem derN_dp (r : Rep c G H M) : ∀ (n m : Nat) (d : D) (v : V), okD m (derN M n d) = true → DV c G d v → Dp c.K H v (toPy (derN M n d)) := by
  intro n
  induction n with
  | zero => intro m d v h q; exact DV.dp r.fz h q
  | succ n ih =>
    intro m d v h q
    cases d with
    | tup ds =>
      obtain ⟨a, vs, rfl, s, t⟩ := q
      cases m with
      | zero => simp [derN, okD] at h
      | succ m =>
        have h' : okDs m (ds.map (derN M n)) = true := by simpa [derN, okD] using h
        show Dp c.K H _ (toPy (.tup (ds.map (derN M n))))
        rw [toPy]
        exact .tup (.inl (.inl (r.fz.tup s))) (dps_map (fun d v => ih m d v) ds vs h' t)
    | lst ds =>
      obtain ⟨a, vs, rfl, s, t⟩ := q
      cases m with
      | zero => simp [derN, okD] at h
      | succ m =>
        have h' : okDs m (ds.map (derN M n)) = true := by simpa [derN, okD] using h
        show Dp c.K H _ (toPy (.lst (ds.map (derN M n))))
        rw [toPy]
        exact .lst (r.fz.sqL s) (dps_map (fun d v => ih m d v) ds vs h' t)
    | ptr k =>
      rcases e : M[k]? with _ | mo
      · simp [derN, e, okD] at h
      · cases mo with
        | lst ds =>
          obtain ⟨a, e1, rfl⟩ := q
          obtain ⟨vs, hu, t⟩ := r.mem k _ a e e1
          have ed : derN M (n + 1) (.ptr k) = .lst (ds.map (derN M n)) := by simp [derN, e]
          rw [ed] at h ⊢
          cases m with
          | zero => simp [okD] at h
          | succ m =>
            have h' : okDs m (ds.map (derN M n)) = true := by simpa [okD] using h
            rw [toPy]
            exact .lst (.inl (.inl hu)) (dps_map (fun d v => ih m d v) ds vs h' t)
        | _ => simp [derN, e, okD] at h
    | _ => exact DV.dp r.fz h q
end
/-! ### ==, != -/
def fEqN (x y : D) (M : Mem) : Res D := if okD 64 (derN M 4 x) = true ∧ okD 64 (derN M 4 y) = true then .ok (.bl (PyData.eqv (toPy (derN M 4 x)) (toPy (derN M 4 y)))) M else .bad
def fNeN (x y : D) (M : Mem) : Res D := if okD 64 (derN M 4 x) = true ∧ okD 64 (derN M 4 y) = true then .ok (.bl (!PyData.eqv (toPy (derN M 4 x)) (toPy (derN M 4 y)))) M else .bad
theorem r2_eqN {c : Cn} : R2s c fEqN (fun x y H Q => rEq x y H Q ∨ rEqD c.K x y H Q) := by
  intro W σ G H M x y dx dy Q r qx qy p
  unfold fEqN at p
  split at p
  · rename_i h
    exact .inr ⟨_, _, derN_dp r _ _ _ _ h.1 qx, derN_dp r _ _ _ _ h.2 qy, okD_shaped h.1, okD_shaped h.2, p G _ H (Gr.refl _) r rfl⟩
  · exact p.elim
def fEqZ := or2 fEqN fEqA
def fNeZ := or2 fNeN fNeA
section
variable {X : Cx} {W : WX} {pos : Pos} {a b : Expr} {fa fb : EF}
theorem qeqZ (hu : X.A.units + 64 < cLine) (ha : QE X W a fa) (hb : QE X W b fb) : QE X W (.Compare a [.Eq] [b] pos) (e2 fEqZ fa fb) := (q_cmp (op_eqA hu) r2_eqN (nomark _) ha hb).e2 (qeqA hu ha hb)
end
/-! ### repr -/
def bReprN (ds : List D) (M : Mem) : Res D := match ds with
  | [d] => if okD 60 (derN M 4 d) = true ∧ shD (derN M 4 d) = true ∧ wtD (derN M 4 d) ≤ sizeLine ∧ isSeqD (derN M 4 d) = true then .ok (.str (toPy (derN M 4 d)).shown) M else .bad
  | _ => .bad
theorem isSeqN_ref {c : Cn} {G : Gd} {H : Hp} {M : Mem} {d : D} {v : V} (r : Rep c G H M) (q : DV c G d v) (h : isSeqD (derN M 4 d) = true) : ∃ a, v = .ref a := by
  cases d with
  | tup ds => obtain ⟨a, vs, rfl, _⟩ := q; exact ⟨a, rfl⟩
  | lst ds => obtain ⟨a, vs, rfl, _⟩ := q; exact ⟨a, rfl⟩
  | ptr k => obtain ⟨a, _, rfl⟩ := q; exact ⟨a, rfl⟩
  | _ => cases h
theorem rc_reprN {c : Cn} : RCs c bReprN (rReprD c.K) := by
  intro W σ G H M vs ds Q r q p
  unfold bReprN at p
  split at p
  · split at p
    · rename_i d hz
      obtain ⟨v, t, rfl, q1, rfl⟩ := q
      obtain ⟨a, rfl⟩ := isSeqN_ref r q1 hz.2.2.2
      exact .inr ⟨a, _, rfl, derN_dp r _ _ _ _ hz.1 q1, shD_show hz.2.1, noDict_toPy _, (okD_lay hz.1).2, Nat.le_trans (shown_le hz.1) hz.2.2.1, p G _ H (Gr.refl _) r rfl⟩
    · exact p.elim
  · exact p.elim
def bReprZ := orC bReprN bReprB
theorem qreprZ {X : Cx} {W : WX} {p pos : Pos} {e : Expr} {a : AF} (hgd : X.A.guards = some []) (hu : X.A.units + 64 < cLine) (hg : Gl X "repr") (hm : X.mg "repr" = none) (ha : QA X W [e] a) (he : starEach [e] X.env = (false, eval e X.env) :: starEach [] X.env := by rfl) (hpl : (backTo pos (starEach [] X.env)).any (·.1) = false := by rfl) :
    QE X W (.Call (.Name "repr" p) [e] [] pos) (eCall bReprZ a) := (q_cb (call_reprD hgd hu) rc_reprN hg hm ha (by decide +kernel) (by decide) (by decide) he hpl).call (qreprB hgd hu hg hm ha he hpl)
/-! ### max of a list of ints -/
def bMaxL (ds : List D) (M : Mem) : Res D := match ds with
  | [d] => match asL M d with
    | some xs => match intsOf xs with
      | some (n :: r) => .ok (.int (r.foldl max n)) M
      | _ => .bad
    | none => .bad
  | _ => .bad
/-! ### dict([((a, b), v), ..]) -/
def rowsOf : List D → Option (List (List Key × D))
  | [] => some []
  | .tup [.tup ds, v] :: r => match keysOf ds, rowsOf r with
    | some k, some t => some ((k, v) :: t)
    | _, _ => none
  | _ => none
def mergeTD (kvs more : List (List Key × D)) : List (List Key × D) := more.foldl (fun acc kv => putKD acc kv.1 kv.2) kvs
def bDictT (ds : List D) (M : Mem) : Res D := match ds with
  | [d] => match asL M d with
    | some xs => match rowsOf xs with
      | some kvs => .ok (.ptr M.length) (M ++ [.dT (mergeTD [] kvs)])
      | none => .bad
    | none => .bad
  | _ => .bad
end QL
end
section
set_option Elab.async false
set_option linter.all false
set_option maxRecDepth 100000
set_option maxHeartbeats 1000000
set_option autoImplicit false
/-! QBent: lists at places of their own by +, *, sorted; < of texts; a or b, a a list; repr of data that holds lists at places, many deep. -/
namespace QL
open PySem PySem.Spec L2
open Classical
section
variable {c : Cn} {W : WX} {σ : L2.St} {G : Gd} {H : Hp} {M : Mem}
end
/-! ### + -/
def fAddP (x y : D) (M : Mem) : Res D := match asL M x, asL M y with
  | some xs, some ys => if xs.length + ys.length ≤ sizeLine then .ok (.ptr M.length) (M ++ [.lst (xs ++ ys)]) else .bad
  | _, _ => .bad
/-! ### * -/
def fRepP (x y : D) (M : Mem) : Res D := match x with
  | .ptr k => match M[k]? with
    | some (.lst ds) => match y with
      | .int n => if -(2 ^ 63) ≤ n ∧ n < 2 ^ 63 ∧ ds.length * n.toNat ≤ sizeLine then .ok (.ptr M.length) (M ++ [.lst (List.replicate n.toNat ds).flatten]) else .bad
      | _ => .bad
    | _ => .bad
  | _ => .bad
/-! ### sorted -/
def bSortSP (ds : List D) (M : Mem) : Res D := match ds with
  | [d] => match asL M d with
    | some xs => match strsOf xs with
      | some ns => if ns.length < 64 then .ok (.ptr M.length) (M ++ [.lst ((srt ns).map D.str)]) else .bad
      | none => .bad
    | none => .bad
  | _ => .bad
/-! ### < of texts -/
def fLtS (x y : D) (M : Mem) : Res D := match x, y with
  | .str a, .str b => .ok (.bl (decide (a.cps.toList < b.cps.toList))) M
  | _, _ => .bad
theorem r2_ltS {c : Cn} : R2s c fLtS (fun x y H Q => ∃ i j, x = .str i ∧ y = .str j ∧ Q (.bl (decide (i.cps.toList < j.cps.toList))) H) := by
  intro W σ G H M x y dx dy Q r qx qy p
  unfold fLtS at p
  split at p
  · exact ⟨_, _, qx, qy, p G _ H (Gr.refl _) r rfl⟩
  · exact p.elim
def fLtA := or2 fLt fLtS
/-! ### a or b, a a list -/
def eOrL (a b : EF) : EF := fun S M => (a S M).bind fun x M1 => match asL M1 x with
  | some xs => if xs.isEmpty = true then b S M1 else .ok x M1
  | none => .bad
section
variable {X : Cx} {W : WX} {p pos : Pos} {a b e : Expr} {rest : List Expr} {fa fb fe : EF} {aa : AF}
theorem qltA (ha : QE X W a fa) (hb : QE X W b fb) : QE X W (.Compare a [.Lt] [b] pos) (e2 fLtA fa fb) := (qlt ha hb).e2 (q_cmp op_lt_str r2_ltS (nomark _) ha hb)
end
/-! ### repr, many deep -/
def bReprM (ds : List D) (M : Mem) : Res D := match ds with
  | [d] => if okD 60 (derN M 24 d) = true ∧ shD (derN M 24 d) = true ∧ wtD (derN M 24 d) ≤ sizeLine ∧ isSeqD (derN M 24 d) = true then .ok (.str (toPy (derN M 24 d)).shown) M else .bad
  | _ => .bad
def bReprY := orC bReprM bReprB
end QL
end
section
set_option Elab.async false
set_option linter.all false
set_option maxRecDepth 100000
set_option maxHeartbeats 1000000
set_option autoImplicit false
/-! QSumL: sum(xs, []), xs a list of lists. -/
namespace QL
open PySem PySem.Spec L2 PyProof.Rows
/-- a list at a -/
def PlL (h : Heap) (a : Addr) (us : List Value) : Prop := ∃ (o : Obj) (n : Nat), h.get? a = some o ∧ o.cls = .type "list" ∧ o.dict = none ∧ o.data = .seq us.toArray n
theorem PlL.stays {h h' : Heap} {a : Addr} {us : List Value} (z : PlL h a us) (k : ∀ o, h.get? a = some o → h'.get? a = some o) : PlL h' a us := by
  obtain ⟨o, n, e, r⟩ := z
  exact ⟨o, n, k o e, r⟩
section
variable {P : Program} {w : World} {A : Around} {E : Value → Shared → Prop} {s : Shared}
/-- what is still to be added -/
abbrev tot (cs : List (Addr × List Value)) : List Value := (cs.map (·.2)).flatten
end
/-! ### on data -/
/-- lists in a list -/
def LiL (K : PySem.W.Frag) (H : Hp) : List V → List (List V) → Prop
  | [], [] => True
  | v :: vs, u :: us => (∃ b, v = .ref b ∧ SqL K H b u) ∧ LiL K H vs us
  | _, _ => False
def rSumL (K : PySem.W.Frag) : List V → Hp → VK → Prop := fun xs H Q => ∃ (l b : Addr) (L : List V) (us : List (List V)), xs = [.ref l, .ref b] ∧ SqL K H l L ∧ SqL K H b [] ∧ LiL K H L us ∧ us.flatten.length ≤ sizeLine ∧
  (L = [] → Q (.ref b) H) ∧ (L ≠ [] → ∀ p, H p = none → Q (.ref p) (upd H p (.lst us.flatten)))
/-! ### the data's own lists -/
def lstsOf : List D → Option (List (List D))
  | [] => some []
  | .lst ds :: r => match lstsOf r with
    | some t => some (ds :: t)
    | none => none
  | _ => none
def bSumL (ds : List D) (M : Mem) : Res D := match ds with
  | [x, .lst []] => match asL M x with
    | some xs => match lstsOf xs with
      | some es => if es.flatten.length ≤ sizeLine then .ok (.lst es.flatten) M else .bad
      | none => .bad
    | none => .bad
  | _ => .bad
end QL
end
section
set_option Elab.async false
set_option linter.all false
set_option maxRecDepth 100000
set_option maxHeartbeats 4000000
set_option autoImplicit false
/-! QWalk: a loop over the keys of a table (keys are tuples) that may change again behind the loop. -/
namespace QL
open PySem PySem.Spec L2
open Classical
/-- a table stands locked at d, with this epoch and these keys -/
def Lkd (d : Addr) (ep : Nat) (ks : List (List Key)) (H : Hp) : Prop := ∃ (o : Obj) (es : Array DictEntry) (ws : List (List Key × V)), H d = some (.frz o (.dT ws)) ∧ o.data = .dict es ep ∧ ws.map (·.1) = ks
/-- its keys one by one; the table may be another one of the same keys and epoch at each turn -/
def ItW (d : Addr) (ep : Nat) (ks : List (List Key)) : It where
  go i H := Lkd d ep ks H ∧ i < ks.length
  yld i H x H' := H' = H ∧ ∃ (k : List Key) (q : Addr), ks[i]? = some k ∧ x = .ref q ∧ H q = some (.tup (k.map kV))
  stop i H := Lkd d ep ks H ∧ ks.length ≤ i
/-- what the heap holds of it -/
theorem Lkd.heap {X : Cx} {pins : List (Addr × Obj)} {σ : St} {H : Hp} {s : Shared} {d : Addr} {ep : Nat} {ks : List (List Key)} (I : Inv X pins σ H s) (l : Lkd d ep ks H) :
    ∃ (o : Obj) (es : Array DictEntry), s.heap.get? d = some o ∧ o.data = .dict es ep ∧ es.size = ks.length ∧ ∀ (i : Nat) (k : List Key), ks[i]? = some k → ∃ (en : DictEntry) (q : Addr), es[i]? = some en ∧ en.key = .ref q ∧ H q = some (.tup (k.map kV)) := by
  obtain ⟨o, es, ws, hd, ho, rfl⟩ := l
  have z := I.frzT hd
  obtain ⟨_, hg, _, es1, ep1, h1, hsz, ent⟩ := z
  have ee := dict_ep ho h1
  obtain ⟨e1, e2⟩ := ee
  subst e1 e2
  refine ⟨o, _, hg, h1, by rw [hsz, List.length_map], fun i k hk => ?_⟩
  rw [List.getElem?_map] at hk
  cases hw : ws[i]? with
  | none => rw [hw] at hk; cases hk
  | some kv =>
    rw [hw] at hk
    cases hk
    exact ent i kv.1 kv.2 hw
def iKeysW (td : TE) : TI := fun σ H R => td σ H fun x H1 => ∃ (d : Addr) (ep : Nat) (ks : List (List Key)), x = .ref d ∧ Lkd d ep ks H1 ∧ R (ItW d ep ks) H1
/-! ### a statement while a table is locked -/
def tLockT (t : TS) : TS := fun D σ H => ∃ (d : Addr) (ws : List (List Key × V)), H d = some (.dT ws) ∧
  ∀ (o : Obj) (es : Array DictEntry) (ep : Nat), o.data = .dict es ep → t ⟨fun σ' H' => ∃ o' u, H' d = some (.frz o' u) ∧ D.nx σ' (upd H' d u), fun _ _ => False, fun _ _ => False, fun _ _ => False⟩ σ (upd H d (.frz o (.dT ws)))
noncomputable def meltT (k : Nat) (kvs : List (List Key × D)) (ep : Nat) : SR → SR
  | .nx S M => if M[k]? = some (.wkT kvs ep) then .nx S (M.set k (.dT kvs)) else .bad
  | _ => .bad
/-- the statement, while the table in slot i is walked -/
noncomputable def kWalkT (i : Nat) (t : TF) : TF := fun S M => match S[i]? with
  | some (some (.ptr k)) => match M[k]? with
    | some (.dT kvs) => if ∀ ep, meltT k kvs ep (t S (M.set k (.wkT kvs ep))) = meltT k kvs 0 (t S (M.set k (.wkT kvs 0))) then meltT k kvs 0 (t S (M.set k (.wkT kvs 0))) else .bad
    | _ => .bad
  | _ => .bad
/-! ### its keys -/
noncomputable def iKeysTG (e : EF) : IFG := fun S M => (e S M).bind fun d M1 => match d with
  | .ptr k => match M1[k]? with
    | some (.wkT kvs ep) => .ok ⟨kvs.map fun kv => kTD kv.1, fun M => M[k]? = some (.wkT kvs ep)⟩ M1
    | _ => .bad
  | _ => .bad
/-! ### a pair whose first part will not change any more -/
def eFrzIn (f : EF) : EF := fun S M => (f S M).bind fun d M1 => match d with
  | .tup [.ptr k, y] => match M1[k]? with
    | some (.lst ds) => .ok (.tup [.lst ds, y]) (M1.set k .gone)
    | _ => .bad
  | _ => .bad
/-! ### how it is stepped through -/
section
variable {M M' : Mem} {S S' : Sl} {P : Po} {E : XQ} {e : EF} {k i : Nat} {kvs : List (List Key × D)} {ep : Nat} {t : TF} {Q : QQ D}
def KwT (Q : QQ ItG) : QQ D := fun d M => match d with
  | .ptr k => match M[k]? with
    | some (.wkT kvs ep) => Q ⟨kvs.map fun kv => kTD kv.1, fun M => M[k]? = some (.wkT kvs ep)⟩ M
    | _ => False
  | _ => False
def KfI (Q : QQ D) : QQ D := fun d M => match d with
  | .tup [.ptr k, y] => match M[k]? with
    | some (.lst ds) => Q (.tup [.lst ds, y]) (M.set k .gone)
    | _ => False
  | _ => False
def KrP (Q : QQ D) : QQ D := fun d M => match asL M d with
  | some ds => Q (.ptr M.length) (M ++ [.lst ds.reverse])
  | none => False
end
end QL
end
section
set_option Elab.async false
set_option linter.all false
set_option maxRecDepth 100000
set_option maxHeartbeats 4000000
set_option autoImplicit false
/-! QTupI: tuple + tuple, sum of a tuple of ints, {t: v} that may change. -/
namespace QL
open PySem PySem.Spec L2
open Classical
/-! ### t + u -/
def fAddT (x y : D) (M : Mem) : Res D := match x, y with
  | .tup xs, .tup ys => if xs.length + ys.length ≤ sizeLine then .ok (.tup (xs ++ ys)) M else .bad
  | _, _ => .bad
/-! ### sum(t) -/
def rSumT (K : PySem.W.Frag) : List V → Hp → VK → Prop := fun vs H Q => ∃ (a : Addr) (ns : List Int), vs = [V.ref a] ∧ SqT K H a (ns.map V.int) ∧ Q (.int ns.sum) H
def bSumT (ds : List D) (M : Mem) : Res D := match ds with
  | [.tup xs] => match intsOf xs with
    | some ns => .ok (.int ns.sum) M
    | none => .bad
  | _ => .bad
/-! ### {t: v} -/
def eDisp1TP (k v : EF) : EF := fun S M => match k S M with
  | .ok (.tup ds) M1 => match keysOf ds with
    | some key => match v S M1 with
      | .ok z M2 => .ok (.ptr M2.length) (M2 ++ [.dT [(key, z)]])
      | _ => .bad
    | none => .bad
  | _ => .bad
end QL
end
section
set_option Elab.async false
set_option linter.all false
set_option maxRecDepth 100000
set_option maxHeartbeats 4000000
set_option autoImplicit false
/-! QMinD: min of three ints; min(xs, default=None). -/
namespace QL
open PySem PySem.Spec L2
open Classical
/-! ### min of three ints -/
def bMin3 (ds : List D) (M : Mem) : Res D := match ds with
  | [.int i, .int j, .int k] => .ok (.int (min (min i j) k)) M
  | _ => .bad
/-! ### min(xs, default=None) -/
def bMinD (ds : List D) (M : Mem) : Res D := match ds with
  | [d] => match asL M d with
    | some xs => match intsOf xs with
      | some [] => .ok .non M
      | some (n :: r) => .ok (.int (r.foldl min n)) M
      | none => .bad
    | none => .bad
  | _ => .bad
def rMinD (K : PySem.W.Frag) : List V → List V → Hp → VK → Prop := fun vs zs H Q => ∃ (a : Addr) (ns : List Int), vs = [V.ref a] ∧ zs = [.non] ∧ SqL K H a (ns.map V.int) ∧ (ns = [] → Q .non H) ∧ ∀ m, m ∈ ns → (∀ y, y ∈ ns → m ≤ y) → Q (.int m) H
def eMinD (f : EF) : EF := eCall bMinD (aCons f aNil)
end QL
end
section
set_option Elab.async false
set_option linter.all false
set_option maxRecDepth 100000
set_option maxHeartbeats 4000000
set_option autoImplicit false
/-! QTryO: try: .. except C: .., the error without a name. -/
namespace QL
open PySem PySem.Spec L2
open Classical
def SR.cool : SR → SR
  | .rz _ _ _ => .bad
  | r => r
noncomputable def kTryO (cl : List Str) (tb su : TF) : TF := fun S M => match tb S M with
  | .rz x S2 M2 => if x.c ∈ cl then (su S2 M2).cool else .bad
  | r => r
section
variable {X : Cx} {W : WX} {cx : Str} {c : Value} {body suite : List Stmt} {b0 : Stmt} {np pos pos' : Pos} {tb su : TF} {cl : List Str}
end
end QL
end
section
set_option Elab.async false
set_option linter.all false
set_option maxRecDepth 100000
set_option maxHeartbeats 4000000
set_option autoImplicit false
/-! QWalkK: the keys of a dict that may change again behind the statement; dict comprehensions over such walks. -/
namespace QL
open PySem PySem.Spec L2
open Classical
/-- a dict stands locked at d, with this epoch and these keys -/
def LkK (d : Addr) (ep : Nat) (ks : List Key) (H : Hp) : Prop := ∃ (o : Obj) (es : Array DictEntry) (ws : List (Key × V)), H d = some (.frz o (.dK ws)) ∧ o.data = .dict es ep ∧ ws.map (·.1) = ks
def ItWK (d : Addr) (ep : Nat) (ks : List Key) : It where
  go i H := LkK d ep ks H ∧ i < ks.length
  yld i H x H' := H' = H ∧ ∃ k : Key, ks[i]? = some k ∧ x = kV k
  stop i H := LkK d ep ks H ∧ ks.length ≤ i
def iKeysWK (td : TE) : TI := fun σ H R => td σ H fun x H1 => ∃ (d : Addr) (ep : Nat) (ks : List Key), x = .ref d ∧ LkK d ep ks H1 ∧ R (ItWK d ep ks) H1
/-! ### a statement while a dict is locked -/
def tLockK (t : TS) : TS := fun D σ H => ∃ (d : Addr) (ws : List (Key × V)), H d = some (.dK ws) ∧
  ∀ (o : Obj) (es : Array DictEntry) (ep : Nat), o.data = .dict es ep → t ⟨fun σ' H' => ∃ o' u, H' d = some (.frz o' u) ∧ D.nx σ' (upd H' d u), fun _ _ => False, fun _ _ => False, fun _ _ => False⟩ σ (upd H d (.frz o (.dK ws)))
noncomputable def meltK (k : Nat) (kvs : List (Key × D)) (ep : Nat) : SR → SR
  | .nx S M => if M[k]? = some (.wkK kvs ep) then .nx S (M.set k (.dK kvs)) else .bad
  | _ => .bad
/-- the statement, while the dict in slot i is walked -/
noncomputable def kWalkK (i : Nat) (t : TF) : TF := fun S M => match S[i]? with
  | some (some (.ptr k)) => match M[k]? with
    | some (.dK kvs) => if ∀ ep, meltK k kvs ep (t S (M.set k (.wkK kvs ep))) = meltK k kvs 0 (t S (M.set k (.wkK kvs 0))) then meltK k kvs 0 (t S (M.set k (.wkK kvs 0))) else .bad
    | _ => .bad
  | _ => .bad
/-! ### its keys -/
noncomputable def iKeysKG (e : EF) : IFG := fun S M => (e S M).bind fun d M1 => match d with
  | .ptr k => match M1[k]? with
    | some (.wkK kvs ep) => .ok ⟨kvs.map fun kv => kD kv.1, fun M => M[k]? = some (.wkK kvs ep)⟩ M1
    | _ => .bad
  | _ => .bad
/-! ### dict comprehensions over such walks -/
noncomputable def eDcG (f : IFG) (g : GF) (b : BF) (ke e : EF) (vs : List Nat) : EF := fun S M => (f S M).bind fun I M1 => (dcL I.gd g b ke e (kl vs S) I.ds [] M1).bind fun ys M2 => .ok (.ptr M2.length) (M2 ++ [.dK ys])
section
variable {X : Cx} {W : WX} {tg iter kx elt : Expr} {ifs : List Expr} {scope : Scope} {own : List (Str × Nat)} {pos : Pos} {f : IFG} {g : GF} {b : BF} {ke e : EF}
end
/-! ### how it is stepped through -/
section
variable {M M' : Mem} {S S' : Sl} {P : Po} {E : XQ} {e : EF} {k i : Nat} {kvs : List (Key × D)} {ep : Nat} {t : TF} {Q : QQ D} {f : IFG} {g : GF} {b : BF} {ke : EF} {vs : List Nat}
def KwK (Q : QQ ItG) : QQ D := fun d M => match d with
  | .ptr k => match M[k]? with
    | some (.wkK kvs ep) => Q ⟨kvs.map fun kv => kD kv.1, fun M => M[k]? = some (.wkK kvs ep)⟩ M
    | _ => False
  | _ => False
/-- a dict comprehension, by its turns -/
def KdG (g : GF) (b : BF) (ke e : EF) (vs : List Nat) (S : Sl) (Q : QQ D) : QQ ItG := fun I M => wp (dcL I.gd g b ke e (kl vs S) I.ds [] M) (fun ys M2 => Q (.ptr M2.length) (M2 ++ [.dK ys])) fun _ _ => False
def KdC (g : GF) (b : BF) (ke e : EF) (vs : List Nat) (S : Sl) (Q : QQ D) : QQ Its := fun I M => wp (dcL I.gd g b ke e (kl vs S) I.ds [] M) (fun ys M2 => Q (.ptr M2.length) (M2 ++ [.dK ys])) fun _ _ => False
end
end QL
end
section
set_option Elab.async false
set_option linter.all false
set_option maxRecDepth 100000
set_option maxHeartbeats 4000000
set_option autoImplicit false
/-! QLtP: < and >= of pairs of texts. -/
namespace QL
open PySem PySem.Spec L2
open Classical
def ltS (a b : Str) : Prop := a.cps.toList < b.cps.toList
/-- (a, b) < (c, d) -/
def ltPr (a b c d : Str) : Bool := if a = c then decide (b.cps.toList < d.cps.toList) else decide (a.cps.toList < c.cps.toList)
def rPr (f : Str → Str → Str → Str → Bool) : R2 := fun x y H Q => ∃ (p q : Addr) (a b c d : Str), x = .ref p ∧ y = .ref q ∧ H p = some (.tup [.str a, .str b]) ∧ H q = some (.tup [.str c, .str d]) ∧ Q (.bl (f a b c d)) H
theorem hold_pr {X : Cx} {pins : List (Addr × Obj)} {σ : St} {H : Hp} {s : Shared} {p : Addr} {a b : Str} (I : Inv X pins σ H s) (h : H p = some (.tup [.str a, .str b])) : PySem.W.Holds s.heap (.ref p) (a, b) := by
  obtain ⟨_, its, r, o, ho, hc, n, hd⟩ := I.hok _ _ h
  obtain ⟨u1, u2, rfl, ⟨t1, rfl⟩, t2, rfl⟩ := vals2 r
  exact PySem.W.holds_pair ⟨o, ho, hc, n, hd⟩ (PySem.W.holds_str _ _) (PySem.W.holds_str _ _)
theorem lt_pr (a b c d : Str) : PySem.W.DatumOrd.lt (α := Str × Str) (a, b) (c, d) = ltPr a b c d := by
  show (if a = c then decide (b.cps.toList < d.cps.toList) else decide (a.cps.toList < c.cps.toList)) = _
  rfl
theorem op_ltPr {X : Cx} (hu : X.A.units + 64 < cLine) : OpR X (compareOp .Lt) (rPr ltPr) := by
  intro pins s σ H x y v u Q I rx ry h
  obtain ⟨p, q, a, b, c, d, rfl, rfl, hp, hq, z⟩ := h
  obtain rfl : v = Value.ref p := rx
  obtain rfl : u = Value.ref q := ry
  refine PySem.W.lt_datum (hold_pr I hp) (hold_pr I hq) (by show X.A.units + (max 0 0 + 1) < cLine; omega) ?_
  rw [lt_pr]
  exact ⟨.bl _, H, I, rfl, z⟩
def fPr (f : Str → Str → Str → Str → Bool) (x y : D) (M : Mem) : Res D := match x, y with
  | .tup [.str a, .str b], .tup [.str c, .str d] => .ok (.bl (f a b c d)) M
  | _, _ => .bad
theorem dv_pr {c : Cn} {G : Gd} {H : Hp} {M : Mem} {a b : Str} {v : V} (r : Rep c G H M) (q : DV c G (.tup [.str a, .str b]) v) : ∃ p, v = .ref p ∧ H p = some (.tup [.str a, .str b]) := by
  obtain ⟨p, vs, rfl, hF, v1, t1, rfl, q1, v2, t2, rfl, q2, q3⟩ := q
  cases q1; cases q2; cases q3
  exact ⟨p, rfl, r.fz.tup hF⟩
theorem r2_pr {c : Cn} {f : Str → Str → Str → Str → Bool} : R2s c (fPr f) (rPr f) := by
  intro W σ G H M x y dx dy Q r qx qy p
  unfold fPr at p
  split at p
  · obtain ⟨a1, rfl, h1⟩ := dv_pr r qx
    obtain ⟨a2, rfl, h2⟩ := dv_pr r qy
    exact ⟨a1, a2, _, _, _, _, rfl, rfl, h1, h2, p G _ H (Gr.refl _) r rfl⟩
  · exact p.elim
def fLtP := or2 fLtA (fPr ltPr)
def fGeP := or2 fGe (fPr fun a b c d => !ltPr a b c d)
section
variable {X : Cx} {W : WX} {a b : Expr} {fa fb : EF} {pos : Pos}
theorem qltP (hu : X.A.units + 64 < cLine) (ha : QE X W a fa) (hb : QE X W b fb) : QE X W (.Compare a [.Lt] [b] pos) (e2 fLtP fa fb) := (qltA ha hb).e2 (q_cmp (op_ltPr hu) r2_pr (nomark _) ha hb)
end
theorem fLtP_pr {a b c d : Str} {M : Mem} : fLtP (.tup [.str a, .str b]) (.tup [.str c, .str d]) M = .ok (.bl (ltPr a b c d)) M := rfl
end QL
end
section
set_option Elab.async false
set_option linter.all false
set_option maxRecDepth 100000
set_option maxHeartbeats 4000000
set_option autoImplicit false
/-! QInZ: in, not in, for data of any depth. -/
namespace QL
open PySem PySem.Spec L2
open Classical
/-- what the list at y holds, deep -/
def inZ (neg : Bool) (x y : D) (M : Mem) : Res D := match derN M 4 y with
  | .lst ds => if okD 64 (derN M 4 x) = true ∧ okD 64 (.lst ds) = true then .ok (.bl (neg ^^ ds.any fun z => PyData.eqv (toPy z) (toPy (derN M 4 x)))) M else .bad
  | _ => .bad
section
variable {X : Cx} {W : WX} {a b : Expr} {fa fb : EF} {pos : Pos}
end
end QL
end
section
set_option Elab.async false
set_option linter.all false
set_option maxRecDepth 100000
set_option maxHeartbeats 4000000
set_option autoImplicit false
/-! QTrim: what an expression made for itself is let go, but for one list that its answer, a pair, names. -/
namespace QL
open PySem PySem.Spec L2
open Classical
def trim1 (n : Nat) (r : Res D) : Res D := match r with
  | .ok (.tup [x, .ptr k]) M => match M[k]? with
    | some (.lst ds) => if (n ≤ k ∧ lowD n x = true) ∧ (lowDs n ds = true ∧ lowM n (M.take n) = true) then .ok (.tup [x, .ptr n]) (M.take n ++ [.lst ds]) else .ok (.tup [x, .ptr k]) M
    | _ => .ok (.tup [x, .ptr k]) M
  | r => r
def eTrim (f : EF) : EF := fun S M => trim1 M.length (settle M.length (f S M))
section
variable {M : Mem} {S : Sl} {Q : QQ D} {E : XQ} {f : EF}
end
end QL
end
section
set_option Elab.async false
set_option linter.all false
set_option maxRecDepth 100000
set_option maxHeartbeats 4000000
set_option autoImplicit false
/-! QWalkE: an expression while a dict is walked that may change again behind it. -/
namespace QL
open PySem PySem.Spec L2
open Classical
def tLockKe (t : TE) : TE := fun σ H Q => ∃ (d : Addr) (ws : List (Key × V)), H d = some (.dK ws) ∧
  ∀ (o : Obj) (es : Array DictEntry) (ep : Nat), o.data = .dict es ep → t σ (upd H d (.frz o (.dK ws))) fun v H' => ∃ o' u, H' d = some (.frz o' u) ∧ Q v (upd H' d u)
noncomputable def meltE (k : Nat) (kvs : List (Key × D)) (ep : Nat) : Res D → Res D
  | .ok d M => if M[k]? = some (.wkK kvs ep) then .ok d (M.set k (.dK kvs)) else .bad
  | _ => .bad
noncomputable def eWalkK (i : Nat) (f : EF) : EF := fun S M => match S[i]? with
  | some (some (.ptr k)) => match M[k]? with
    | some (.dK kvs) => if ∀ ep, meltE k kvs ep (f S (M.set k (.wkK kvs ep))) = meltE k kvs 0 (f S (M.set k (.wkK kvs 0))) then meltE k kvs 0 (f S (M.set k (.wkK kvs 0))) else .bad
    | _ => .bad
  | _ => .bad
section
variable {M M' : Mem} {S : Sl} {Q : QQ D} {E : XQ} {f : EF} {k i : Nat} {kvs : List (Key × D)} {d : D}
end
end QL
end
section
set_option Elab.async false
set_option linter.all false
set_option maxRecDepth 100000
set_option maxHeartbeats 1000000
set_option autoImplicit false
/-! QSortL: sorted(xs), xs a list of lists of texts; any number of them. -/
namespace QL
open PySem PySem.Spec L2
open Classical
def encB (b : V × List Str) : PyData := .list (b.2.map .str)
def rowB (r : List Str) : PyData := .list (r.map .str)
noncomputable def rowLe (r t : List Str) : Bool := PySem.W.dataLe false rowB r t
def rSortL (K : PySem.W.Frag) : List V → Hp → VK → Prop := fun vs H Q => ∃ (a : Addr) (bs : List (V × List Str)), vs = [V.ref a] ∧ SqL K H a (bs.map (·.1)) ∧ (∀ b ∈ bs, Dp K H b.1 (encB b)) ∧
  ∀ p, H p = none → Q (.ref p) (upd H p (.lst ((bs.mergeSort (PySem.W.dataLe false encB)).map (·.1))))
/-! ### the data -/
def encLs (r : List Str) : D := .lst (r.map D.str)
def rowsL : List D → Option (List (List Str))
  | [] => some []
  | .lst es :: r => match strsOf es, rowsL r with
    | some x, some t => some (x :: t)
    | _, _ => none
  | _ => none
noncomputable def bSortL (ds : List D) (M : Mem) : Res D := match ds with
  | [d] => match asL M d with
    | some xs => match rowsL xs with
      | some rows => if xs.all (okD 60) = true then .ok (.lst ((rows.mergeSort rowLe).map encLs)) M else .bad
      | none => .bad
    | none => .bad
  | _ => .bad
section
variable {X : Cx} {W : WX} {p pos : Pos} {e : Expr} {a : AF}
end
/-! ### rows in order -/
end QL
end
section
set_option Elab.async false
set_option linter.all false
set_option maxRecDepth 100000
set_option maxHeartbeats 4000000
set_option autoImplicit false
/-! QTryN: a try whose body raises nothing, whatever its clauses catch; name = [.. for .. for ..]. -/
namespace QL
open PySem PySem.Spec L2
open Classical
noncomputable def kTryN (tb : TF) : TF := fun S M => match tb S M with
  | .rz _ _ _ => .bad
  | r => r
section
variable {X : Cx} {W : WX} {body : List Stmt} {h0 : ExceptHandler} {hds : List ExceptHandler} {pos : Pos} {tb : TF}
theorem ps_tryN {t : WX → TS} (hb : ∀ (V : WX) (pn : List (Addr × Obj)) (xe : Value → Shared → Prop), Takes (X.tr pn xe) V → PassesOwn (model X.prog X.w) X.A X.env xe → PSs (X.tr pn xe) body (t V)) :
    PS X (.Try body (h0 :: hds) [] [] pos) (t fun _ _ _ _ => False) := ⟨fun pins s σ H D I h => by
  have calm := I.ok
  refine wpAny_Try_except (wpAny_mono ((hb (fun _ _ _ _ => False) (X.pn ++ pins) _ (fun u z xx => ?_) PassesOwn.looking).run [] s σ H D (I.toTry _) h) (fun f s1 out => ?_) fun _ _ z => z)
  · obtain ⟨_, _, _, _, _, _, _, _, _, _, _, _, _, _, _, _, no⟩ := xx
    exact no.elim
  · match f, out with
    | .next, ⟨a, b, J, q⟩ => exact wpAny_execs_nil ⟨a, b, J.ofTry calm, q⟩
    | .brk, ⟨a, b, J, q⟩ => exact ⟨a, b, J.ofTry calm, q⟩
    | .cont, ⟨a, b, J, q⟩ => exact ⟨a, b, J.ofTry calm, q⟩
    | .ret u, ⟨v, a, b, J, r, q⟩ => exact ⟨v, a, b, J.ofTry calm, r, q⟩⟩
theorem qtryN (hb : ∀ (V : WX) (pn : List (Addr × Obj)) (xe : Value → Shared → Prop), Takes (X.tr pn xe) V → PassesOwn (model X.prog X.w) X.A X.env xe → QSs (X.tr pn xe) V body tb) :
    QS X W (.Try body (h0 :: hds) [] [] pos) (kTryN tb) := by
  refine PS.imp (ps_tryN (t := fun V => UpS (cn X) V tb) hb) fun D σ H h => ?_
  obtain ⟨G, S, M, r, s, p⟩ := h
  refine ⟨G, S, M, r, s, ?_⟩
  unfold kTryN at p
  cases e : tb S M with
  | rz x S2 M2 => rw [e] at p; exact p.elim
  | _ => rw [e] at p; exact p
theorem tryN_wp {S : Sl} {M : Mem} {P : Po} (h : swp (tb S M) ⟨P.nx, P.rt, P.bk, P.ct, fun _ _ _ => False⟩) : swp (kTryN tb S M) P := by
  unfold kTryN
  cases e : tb S M with
  | rz x S2 M2 => rw [e] at h; exact h.elim
  | _ => rw [e] at h; exact h
end
section
variable {X : Cx} {W : WX} {elt tg iter tg1 iter1 : Expr} {ifs ifs1 : List Expr} {scope : Scope} {own : List (Str × Nat)} {vs1 : List Nat} {pos spos py : Pos} {f f1 : IF} {g g1 : GF} {b b1 : BF} {e : EF} {i : Nat} {y : Str}
end
end QL
end
section
set_option Elab.async false
set_option linter.all false
set_option maxRecDepth 100000
set_option maxHeartbeats 2000000
set_option autoImplicit false
/-! QVals: list(d.values()); sorted(xs), xs ints. -/
namespace QL
open PySem PySem.Spec L2 PyProof.Rows
open Classical
section
variable {X : Cx} {e : Expr} {td : TE} {p pos apos cpos : Pos}
end
def eVals (f : EF) : EF := fun S M => (f S M).bind fun d M1 => match asK M1 d with
  | some kvs => .ok (.lst (kvs.map (·.2))) M1
  | none => .bad
section
variable {X : Cx} {W : WX} {e : Expr} {fe : EF} {a : AF} {p apos cpos pos : Pos}
/-! ### sorted(xs), ints -/
def srtN (ns : List Int) : List Int := ns.mergeSort fun a b => decide (a ≤ b)
def bSortN (ds : List D) (M : Mem) : Res D := match ds with
  | [d] => match asL M d with
    | some xs => match intsOf xs with
      | some ns => .ok (.lst ((srtN ns).map D.int)) M
      | none => .bad
    | none => .bad
  | _ => .bad
end
end QL
end
section
set_option Elab.async false
set_option linter.all false
set_option maxRecDepth 100000
set_option maxHeartbeats 2000000
set_option autoImplicit false
/-! QNeO: x != y, both of an own class that has an own == and no own !=. -/
namespace QL
open PySem PySem.Spec L2
open PySem.W (InstAt findIn isFn)
open Classical
section
variable {P : Program} {w : World} {A : Around} {E : Value → Shared → Prop} {s : Shared} {K : PySem.W.Frag} {x y C f : Addr} {ox oy : Obj} {od od2 : Option Obj}
end
def eNeO (cl : Str) (g : List D → Mem → Res D) (a b : EF) : EF := fun S M => (a S M).bind fun x M1 => (b S M1).bind fun y M2 => match isObj cl x M2, isObj cl y M2 with
  | some _, some _ => match g [x, y] M2 with
    | .ok (.bl r) M3 => .ok (.bl (!r)) M3
    | _ => .bad
  | _, _ => .bad
/-- x != y, both of the own class -/
def rNeO (C : Addr) (sp : Sp) : R2 := fun x y H Q => ∃ a dx ws b dy ws2, x = .ref a ∧ y = .ref b ∧ H a = some (.ins C dx ws) ∧ H b = some (.ins C dy ws2) ∧ sp [x, y] H (fun v H1 => ∃ r, v = .bl r ∧ Q (.bl (!r)) H1) (fun _ _ _ => False)
section
variable {X : Cx} {W : WX} {pos : Pos} {a b : Expr} {fa fb : EF} {k : Nat} {ps : List Str} {g : List D → Mem → Res D} {cl : Str} {C f : Addr} {fd : FuncData}
end
end QL
end
section
set_option Elab.async false
set_option linter.all false
set_option maxRecDepth 100000
set_option maxHeartbeats 4000000
set_option autoImplicit false
/-! QExc0: own errors whose classes have no __init__: raised, caught, looked at. -/
namespace QL
open PySem PySem.Spec L2
open Classical
abbrev bmV : List Value := [.type "ValueError", .type "Exception", .type "BaseException", .type "object"]
/-- what the written part says of such a class -/
structure Er0 (K : PySem.W.Frag) (mg : Str → Option Value) (n : Str) : Prop where
  nm : mg n = some (.ref (adr mg n))
  ex : PySem.W.excIn K (adr mg n) bmV "ValueError.__new__" = true
  kp : PySem.W.keepIn K (.ref (adr mg n)) = true
  sb : PySem.W.subIn K (.ref (adr mg n)) (.type "BaseException") = some true
  ty : PySem.W.typeIn K (.ref (adr mg n)) = some (.type "type")
def kRz0 (n : Str) : TF := fun S M => .rz ⟨n, []⟩ S M
noncomputable def kTry0 (cl : List Str) (i : Nat) (tb : TF) (su : Addr → Ex → TF) : TF := fun S M => match tb S M with
  | .rz x S2 M2 => if x.c ∈ cl ∧ x.fs = [] then pick fun a _ => (su a x (S2.set i (some (.raw (.ref a)))) M2).off i else .bad
  | r => r
def eIsX0 (a : Addr) (b : Bool) (e : EF) : EF := fun S M => (e S M).bind fun d M1 => match d with
  | .raw (.ref a') => if a' = a then .ok (.bl b) M1 else .bad
  | _ => .bad
section
variable {X : Cx} {W : WX} {n : Str} {p pos pos' : Pos}
end
section
variable {X : Cx} {W : WX} {cx n : Str} {c : Value} {i : Nat} {body suite : List Stmt} {b0 : Stmt} {np pos pos' : Pos} {tb : TF} {su : Addr → Ex → TF} {cl : List Str}
theorem PostS.offs {c : Cn} {W : WX} {G : Gd} {D : Ends} {i : Nat} {r : SR} (p : PostS c W G D (r.off i)) : PostS c W G ⟨fun σ H => D.nx (σ.set i none) H, fun v H => D.rt v H, fun σ H => D.bk (σ.set i none) H, fun σ H => D.ct (σ.set i none) H⟩ r := by
  cases r with
  | nx S M => exact fun G1 σ1 H1 g1 r1 s1 => p G1 _ H1 g1 r1 (s1.offs i)
  | bk S M => exact fun G1 σ1 H1 g1 r1 s1 => p G1 _ H1 g1 r1 (s1.offs i)
  | ct S M => exact fun G1 σ1 H1 g1 r1 s1 => p G1 _ H1 g1 r1 (s1.offs i)
  | rt d M => exact p
  | rz x S M => exact p.elim
  | bad => exact p.elim
/-- the context's wish is nothing: what cannot be raised -/
theorem PostS.any {c : Cn} {W W' : WX} {G : Gd} {D : Ends} {i : Nat} {r : SR} (p : PostS c W G D (r.off i)) : PostS c W' G D (r.off i) := by
  cases r with
  | nx S M => exact p
  | bk S M => exact p
  | ct S M => exact p
  | rt d M => exact p
  | rz x S M => exact p.elim
  | bad => exact p.elim
end
/-! ### in the suite: isinstance(e, C), isinstance(e, (C, D)), isinstance(e, ValueError) -/
section
variable {X : Cx} {W : WX} {a C Ct : Addr} {oe : Obj} {pn : List (Addr × Obj)} {e : Expr} {fe : EF} {p p2 pos : Pos} {t : Str} {T : String} {b : Bool}
end
end QL
end
section
set_option Elab.async false
set_option linter.all false
set_option maxRecDepth 100000
set_option maxHeartbeats 4000000
set_option autoImplicit false
/-! QTrim2: what an expression made for itself is let go, but for the list or the table that its answer names: the answer a place, or a pair with a place. -/
namespace QL
open PySem PySem.Spec L2
open Classical
def trimTo (n k : Nat) (M : Mem) (a b : D) : Res D := match M[k]? with
  | some mo => if n ≤ k ∧ lowO n mo = true ∧ lowM n (M.take n) = true then .ok a (M.take n ++ [mo]) else .ok b M
  | none => .ok b M
def trim2 (n : Nat) (r : Res D) : Res D := match r with
  | .ok (.ptr k) M => trimTo n k M (.ptr n) (.ptr k)
  | .ok (.tup [.ptr k, .non]) M => trimTo n k M (.tup [.ptr n, .non]) (.tup [.ptr k, .non])
  | .ok (.tup [.non, .ptr k]) M => trimTo n k M (.tup [.non, .ptr n]) (.tup [.non, .ptr k])
  | r => r
theorem trim2_rep {c : Cn} {G : Gd} {H : Hp} {M : Mem} {n k : Nat} {mo : MO} {a : Addr} (r : Rep c G H M) (l : lowM n (M.take n) = true) (hk : M[k]? = some mo) (ha : G.θ[k]? = some a) (hn : n ≤ k) (ld : lowO n mo = true) :
    Gr0 (cutG n G) ⟨G.F, G.θ.take n ++ [a], G.P⟩ ∧ Rep c ⟨G.F, G.θ.take n ++ [a], G.P⟩ H (M.take n ++ [mo]) := by
  have g0 : Gr0 (cutG n G) ⟨G.F, G.θ.take n ++ [a], G.P⟩ := ⟨fun _ _ e => e, [a], rfl⟩
  have rc := r.cut l
  have kM := (List.getElem?_eq_some_iff.mp hk).1
  have lM : (M.take n).length = n := by rw [List.length_take]; omega
  have kG := (List.getElem?_eq_some_iff.mp ha).1
  have lG : (G.θ.take n).length = n := by rw [List.length_take]; omega
  have pick : ∀ {j : Nat} {m1 : MO} {b : Addr}, (M.take n ++ [mo])[j]? = some m1 → (G.θ.take n ++ [a])[j]? = some b → ((M.take n)[j]? = some m1 ∧ (G.θ.take n)[j]? = some b) ∨ (m1 = mo ∧ b = a) := fun {j m1 b} e1 e2 => by
    rcases Nat.lt_trichotomy j n with q | q | q
    · rw [List.getElem?_append_left (by rw [lM]; exact q)] at e1
      rw [List.getElem?_append_left (by rw [lG]; exact q)] at e2
      exact .inl ⟨e1, e2⟩
    · subst q
      have z1 : (M.take j ++ [mo])[j]? = some mo := by
        rw [List.getElem?_append_right (Nat.le_of_eq lM), lM, Nat.sub_self]; rfl
      have z2 : (G.θ.take j ++ [a])[j]? = some a := by
        rw [List.getElem?_append_right (Nat.le_of_eq lG), lG, Nat.sub_self]; rfl
      exact .inr ⟨Option.some.inj (e1.symm.trans z1), Option.some.inj (e2.symm.trans z2)⟩
    · rw [List.getElem?_eq_none (by rw [List.length_append, lM]; exact q)] at e1
      cases e1
  have na : a ∉ G.θ.take n := fun h => by
    obtain ⟨i, hi, e⟩ := List.getElem_of_mem h
    rw [lG] at hi
    rw [List.getElem_take] at e
    have := (List.getElem_inj r.nd).mp (e.trans (List.getElem?_eq_some_iff.mp ha).2.symm)
    omega
  have lies : MOk c ⟨G.F, G.θ.take n ++ [a], G.P⟩ H mo a := ((r.mem k mo a hk ha).low ld).mono0 g0
  have other : ∀ {q : Addr}, q ∈ G.θ.take n ++ [a] → q ∈ G.θ := fun {q} h => (List.mem_append.mp h).elim List.mem_of_mem_take fun z => List.mem_singleton.mp z ▸ List.mem_of_getElem? ha
  refine ⟨g0, { fz := rc.fz, len := ?len, nd := ?nd, mem := ?mem, sep := ?sep, liv := fun q hq => r.liv q (other hq), pin := fun q hq => ?pin }⟩
  case len =>
    show (G.θ.take n ++ [a]).length = (M.take n ++ [mo]).length
    rw [List.length_append, List.length_append, lM, lG]; rfl
  case nd => exact List.nodup_append.mpr ⟨rc.nd, by simp, fun x hx y hy e => na (List.mem_singleton.mp hy ▸ e ▸ hx)⟩
  case mem =>
    intro j m1 b e1 e2
    rcases pick e1 e2 with ⟨z1, z2⟩ | ⟨z1, z2⟩
    · exact (rc.mem j m1 b z1 z2).mono0 g0
    · subst z1 z2; exact lies
  case sep =>
    intro j m1 b e1 e2 lv
    rcases pick e1 e2 with ⟨z1, z2⟩ | ⟨z1, z2⟩
    · exact rc.sep j m1 b z1 z2 lv
    · subst z1 z2; exact r.sep k _ _ hk ha lv
  case pin =>
    obtain ⟨h1, h2, h3, h4⟩ := r.pin q hq
    exact ⟨h1, h2, fun z => h3 (other z), h4⟩
section
variable {c : Cn} {W : WX} {σ : St} {G : Gd} {k : Nat} {M : Mem} {Q : VK} {x y : D}
/-- the answer named by its place in the store that is left -/
theorem Post.trimTo (lift : ∀ (G' : Gd) (a : Addr) (v : V), G.θ.length ≤ G'.θ.length → G'.θ[k]? = some a → DV c G' y v → DV c ⟨G'.F, G'.θ.take G.θ.length ++ [a], G'.P⟩ x v) (name : ∀ (G' : Gd) (v : V), DV c G' y v → ∃ a, G'.θ[k]? = some a) (h : Post c W σ G (DV c) (trimTo G.θ.length k M x y) Q) : Post c W σ G (DV c) (.ok y M) Q := by
  unfold QL.trimTo at h
  split at h
  · rename_i mo hk
    by_cases z : G.θ.length ≤ k ∧ lowO G.θ.length mo = true ∧ lowM G.θ.length (M.take G.θ.length) = true
    · rw [if_pos z] at h
      intro G' v H g rp q
      obtain ⟨a, ha⟩ := name G' v q
      obtain ⟨g0, r0⟩ := trim2_rep rp z.2.2 hk ha z.1 z.2.1
      obtain ⟨more, e⟩ := g.θ
      have et : G'.θ.take G.θ.length = G.θ := by rw [e, List.take_left]
      exact h ⟨G'.F, G'.θ.take G.θ.length ++ [a], G'.P⟩ v H ⟨⟨g.F, [a], by show G'.θ.take _ ++ [a] = _; rw [et]⟩, g.P⟩ r0 (lift G' a v (by rw [e, List.length_append]; omega) ha q)
    · rw [if_neg z] at h
      exact h
  · exact h
theorem at_end {θ : List Addr} {a : Addr} (n : Nat) (h : n ≤ θ.length) : (θ.take n ++ [a])[n]? = some a := by
  have l : (θ.take n).length = n := by rw [List.length_take]; omega
  rw [List.getElem?_append_right (Nat.le_of_eq l), l, Nat.sub_self]; rfl
theorem Post.trim2 {r : Res D} (h : Post c W σ G (DV c) (trim2 G.θ.length r) Q) : Post c W σ G (DV c) r Q := by
  unfold QL.trim2 at h
  split at h
  · rename_i k M
    refine Post.trimTo (fun G' a v hl ha q => ?_) (fun G' v ⟨a, ha, _⟩ => ⟨a, ha⟩) h
    obtain ⟨b, hb, ev⟩ := q
    exact ⟨b, by rw [← Option.some.inj (ha.symm.trans hb)]; exact at_end _ hl, ev⟩
  · rename_i k M
    refine Post.trimTo (fun G' a v hl ha q => ?_) (fun G' v ⟨_, _, _, _, _, _, _, ⟨a, ha, _⟩, _⟩ => ⟨a, ha⟩) h
    obtain ⟨p, vs, ev, hF, u1, r1, e1, ⟨b, hb, eb⟩, u2, r2, e2, q2, e3⟩ := q
    exact ⟨p, vs, ev, hF, u1, r1, e1, ⟨b, by rw [← Option.some.inj (ha.symm.trans hb)]; exact at_end _ hl, eb⟩, u2, r2, e2, q2, e3⟩
  · rename_i k M
    refine Post.trimTo (fun G' a v hl ha q => ?_) (fun G' v ⟨_, _, _, _, _, _, _, _, _, _, _, ⟨a, ha, _⟩, _⟩ => ⟨a, ha⟩) h
    obtain ⟨p, vs, ev, hF, u1, r1, e1, q1, u2, r2, e2, ⟨b, hb, eb⟩, e3⟩ := q
    exact ⟨p, vs, ev, hF, u1, r1, e1, q1, u2, r2, e2, ⟨b, by rw [← Option.some.inj (ha.symm.trans hb)]; exact at_end _ hl, eb⟩, e3⟩
  · exact h
end
def eTrim2 (f : EF) : EF := fun S M => trim2 M.length (settle M.length (f S M))
section
variable {M N : Mem} {S : Sl} {Q : QQ D} {E : XQ} {f : EF} {n k : Nat} {mo : MO} {a b : D}
end
end QL
end
section
set_option Elab.async false
set_option linter.all false
set_option maxRecDepth 100000
set_option maxHeartbeats 1000000
set_option autoImplicit false
/-! QItSort: sorted(d.items()), d a table that will not change: keys pairs of texts, values ints. -/
namespace QL
open PySem PySem.Spec L2 PyProof.Rows
open Classical
abbrev EnT := (Str × Str) × Int
abbrev entT (e : EnT) : List Key × V := ([.inr e.1.1, .inr e.1.2], .int e.2)
def encT (e : EnT) : PyData := .tuple [.tuple [.str e.1.1, .str e.1.2], .int e.2]
noncomputable def leT (a b : EnT) : Bool := PySem.W.dataLe false encT a b
section
variable {X : Cx} {e : Expr} {td : TE} {apos cpos : Pos}
end
def rSortItT : List V → Hp → VK → Prop := fun vs H Q => ∃ (p a : Addr) (o : Obj) (rows : List EnT), vs = [.ref p] ∧ H p = some (L2.DX.itemsO p a) ∧ H a = some (.frz o (.dT (rows.map entT))) ∧ rows.length ≤ 1000 ∧
  ∀ (H' : Hp) (l : Addr) (ps : List ((Addr × Addr) × EnT)), ps.map (·.2) = rows.mergeSort leT → H l = none → (∀ z ∈ ps, H z.1.1 = none ∧ H z.1.2 = some (.tup [.str z.2.1.1, .str z.2.1.2]) ∧ H' z.1.1 = some (.tup [.ref z.1.2, .int z.2.2])) → H' l = some (.lst (ps.map fun z => V.ref z.1.1)) →
    (∀ b, b ≠ l → (∀ z ∈ ps, b ≠ z.1.1) → H' b = H b) → Q (.ref l) H'
/-! ### the data -/
def entsT : List (List Key × D) → Option (List EnT)
  | [] => some []
  | ([.inr a, .inr b], .int i) :: r => (entsT r).map (((a, b), i) :: ·)
  | _ => none
def itT (e : EnT) : D := .tup [.tup [.str e.1.1, .str e.1.2], .int e.2]
noncomputable def eSortItT (e : EF) : EF := fun S M => (e S M).bind fun d M1 => match d with
  | .dT kvs => match entsT kvs with
    | some rows => if rows.length ≤ 1000 then .ok (.lst ((rows.mergeSort leT).map itT)) M1 else .bad
    | none => .bad
  | _ => .bad
section
variable {X : Cx} {W : WX} {e : Expr} {fe : EF} {p apos cpos pos : Pos}
end
/-! ### the order -/
end QL
end
section
set_option Elab.async false
set_option linter.all false
set_option maxRecDepth 100000
set_option maxHeartbeats 1000000
set_option autoImplicit false
/-! QInD: in, not in, a list of tables of numbers. -/
namespace PySem.SeqAt
open AutoSeq1 (wpAny_loadPart')
open MeetsSeq MeetsSeq2 MeetsSeq3 SeqRoads2
section
variable {prog : Program} {w : World} {l : Addr} {items : Array Value} {n : Nat} {dd : Option Addr} {sl : Array (Option Value)} {x : Value} {e : Value → Bool}
/-- what is left of a list is looked through, in one model -/
def LookSpec (l : Addr) (items : Array Value) (n : Nat) (dd : Option Addr) (sl : Array (Option Value)) (x : Value) (e : Value → Bool) (prog : Program) (w : World) (rest : List Value) : Around → (Result → Shared → Prop) → Shared → Prop :=
  fun A R s => s.heap.get? l = some { cls := .type "list", dict := dd, data := .seq items n, slots := sl } ∧ (∀ y ∈ rest, EqP prog w A.in1 s y x (e y)) ∧ R (.ok (.ret (.bool (rest.any e)))) s
variable {A : Around} {E : Value → Shared → Prop} {s : Shared} {Q : Value → Shared → Prop}
end
end PySem.SeqAt
namespace QL
open PySem PySem.Spec L2
open Classical
def rInDK (neg : Bool) (K : PySem.W.Frag) : R2 := fun x y H Q => ∃ (a b : Addr) (xs : List (Key × Int)) (ys : List (Addr × List (Key × Int))), x = .ref a ∧ y = .ref b ∧ Rd H a (.dK (xs.map encI)) ∧ SqL K H b (ys.map fun z => V.ref z.1) ∧ (∀ z ∈ ys, Rd H z.1 (.dK (z.2.map encI))) ∧ Q (.bl (neg ^^ ys.any fun z => eqT z.2 xs)) H
section
variable {X : Cx}
end
/-! ### the data -/
def tabsOf (M : Mem) : List D → Option (List (List (Key × Int)))
  | [] => some []
  | d :: r => match asK M d with
    | some kvs => match intsK kvs, tabsOf M r with
      | some xs, some t => some (xs :: t)
      | _, _ => none
    | none => none
def fInDK (neg : Bool) (x y : D) (M : Mem) : Res D := match asK M x, asL M y with
  | some kvs, some ds => match intsK kvs, tabsOf M ds with
    | some xs, some yss => .ok (.bl (neg ^^ yss.any fun ys => eqT ys xs)) M
    | _, _ => .bad
  | _, _ => .bad
section
variable {X : Cx} {W : WX} {a b : Expr} {fa fb : EF} {pos : Pos}
end
end QL
end
section
set_option Elab.async false
set_option linter.all false
set_option maxRecDepth 100000
set_option maxHeartbeats 2000000
set_option autoImplicit false
/-! QFlat: list(d.values()) of a table that will not change; == of lists of flat things, of one length. -/
namespace QL
open PySem PySem.Spec L2 PyProof.Rows
open Classical
section
variable {X : Cx} {e : Expr} {td : TE} {p pos apos cpos : Pos}
end
def eValsT (f : EF) : EF := fun S M => (f S M).bind fun d M1 => match d with
  | .dT kvs => if kvs.length ≤ 20000 then .ok (.lst (kvs.map (·.2))) M1 else .bad
  | _ => .bad
section
variable {X : Cx} {W : WX} {e : Expr} {fe : EF} {a : AF} {p apos cpos pos : Pos}
end
/-! ### lists of flat things -/
def zipE : List V → List V → Bool
  | x :: xs, y :: ys => eqV x y && zipE xs ys
  | _, _ => true
def zipF : List D → List D → Bool
  | x :: xs, y :: ys => eqFlat x y && zipF xs ys
  | _, _ => true
def rFlat (K : PySem.W.Frag) : R2 := fun x y H Q => ∃ (a b : Addr) (xs ys : List V), x = .ref a ∧ y = .ref b ∧ SqL K H a xs ∧ SqL K H b ys ∧ xs.length = ys.length ∧ xs.all flatV = true ∧ ys.all flatV = true ∧ Q (.bl (zipE xs ys)) H
def fEqFl (x y : D) (M : Mem) : Res D := match asL M x, asL M y with
  | some ds, some es => if ds.length = es.length ∧ ds.all flatD = true ∧ es.all flatD = true then .ok (.bl (zipF ds es)) M else .bad
  | _, _ => .bad
section
variable {X : Cx} {W : WX} {a b : Expr} {fa fb : EF} {pos : Pos}
end
end QL
end
section
set_option Elab.async false
set_option linter.all false
set_option maxRecDepth 100000
set_option maxHeartbeats 4000000
set_option autoImplicit false
/-! QGeS: >= of texts. -/
namespace QL
open PySem PySem.Spec L2
open Classical
def rGeS : R2 := fun x y H Q => ∃ i j, x = .str i ∧ y = .str j ∧ Q (.bl (!decide (i.cps.toList < j.cps.toList))) H
def fGeS (x y : D) (M : Mem) : Res D := match x, y with
  | .str a, .str b => .ok (.bl (!decide (a.cps.toList < b.cps.toList))) M
  | _, _ => .bad
def fGeA := or2 fGe fGeS
section
variable {X : Cx} {W : WX} {a b : Expr} {fa fb : EF} {pos : Pos}
end
end QL
end
section
set_option Elab.async false
set_option linter.all false
set_option maxRecDepth 100000
set_option maxHeartbeats 1000000
set_option autoImplicit false
/-! QTxt: str(x) of a text or a number; int(x) of a text of digits. -/
namespace QL
open PySem PySem.Spec L2
open Classical
def bStrS (ds : List D) (M : Mem) : Res D := match ds with
  | [.str x] => .ok (.str x) M
  | _ => .bad
def bIntS (ds : List D) (M : Mem) : Res D := match ds with
  | [.str x] => if x.length ≤ 640 then (match PySem.intText? x with
    | some n => .ok (.int n) M
    | none => .bad) else .bad
  | _ => .bad
theorem rc_strS {c : Cn} : RCs c bStrS (fun xs H Q => ∃ a, xs = [.str a] ∧ Q (.str a) H) := by
  intro W σ G H M vs ds Q r q p
  unfold bStrS at p
  split at p
  · exact ⟨_, (by obtain ⟨v, t, rfl, qv, qt⟩ := q; cases (show v = _ from qv); cases (show t = _ from qt); rfl), p G _ H (Gr.refl _) r rfl⟩
  · exact p.elim
theorem rc_intS {c : Cn} : RCs c bIntS (fun xs H Q => ∃ a n, xs = [.str a] ∧ PySem.intText? a = some n ∧ a.length ≤ 640 ∧ Q (.int n) H) := by
  intro W σ G H M vs ds Q r q p
  unfold bIntS at p
  split at p
  · split at p
    · rename_i hz
      split at p
      · rename_i n hn
        exact ⟨_, n, (by obtain ⟨v, t, rfl, qv, qt⟩ := q; cases (show v = _ from qv); cases (show t = _ from qt); rfl), hn, hz, p G _ H (Gr.refl _) r rfl⟩
      · exact p.elim
    · exact p.elim
  · exact p.elim
def bStrX := orC bStrI bStrS
def bIntX := orC bInt bIntS
section
variable {X : Cx} {W : WX} {p pos : Pos} {e : Expr} {a : AF}
theorem qstrX (hg : Gl X "str") (hm : X.mg "str" = none) (ha : QA X W [e] a) (he : starEach [e] X.env = (false, eval e X.env) :: starEach [] X.env := by rfl) (hpl : (backTo pos (starEach [] X.env)).any (·.1) = false := by rfl) :
    QE X W (.Call (.Name "str" p) [e] [] pos) (eCall bStrX a) := QE.call (qstrI hg hm ha he hpl) (q_ct SkE.call_str_str rc_strS hg hm ha (by decide +kernel) (by decide) (by decide) he hpl)
theorem qintX (hg : Gl X "int") (hm : X.mg "int" = none) (ha : QA X W [e] a) (he : starEach [e] X.env = (false, eval e X.env) :: starEach [] X.env := by rfl) (hpl : (backTo pos (starEach [] X.env)).any (·.1) = false := by rfl) :
    QE X W (.Call (.Name "int" p) [e] [] pos) (eCall bIntX a) := QE.call (qint1 hg hm ha he hpl) (q_ct call_int_str rc_intS hg hm ha (by decide +kernel) (by decide) (by decide) he hpl)
end
end QL
end
section
set_option Elab.async false
set_option linter.all false
set_option maxRecDepth 100000
set_option maxHeartbeats 4000000
set_option autoImplicit false
namespace QL
open PySem PySem.Spec L2
open Classical
def topQ (i : Nat) : Stmt := PySem.Challenge.pw_eitherpays_k95_texts_there_and_back.main.body.getD i (.Pass ⟨0, 0, 0, 0⟩)
abbrev s__law_hand : Stmt := topQ 39
abbrev s__law_step : Stmt := topQ 40
abbrev s__law_take : Stmt := topQ 41
abbrev s__law_draw : Stmt := topQ 42
abbrev s__law_names : Stmt := topQ 45
abbrev s__law_mixed_names : Stmt := topQ 52
abbrev s__law_table : Stmt := topQ 48
abbrev s_Purses___len__ : Stmt := inClass (topQ 25) 8
abbrev s_Lot___len__ : Stmt := inClass (topQ 22) 10
abbrev s__law_two : Stmt := topQ 46
abbrev s_is_name : Stmt := topQ 14
abbrev s_is_integer : Stmt := topQ 13
abbrev s_is_amount : Stmt := topQ 15
abbrev s_Purses___init__ : Stmt := inClass (topQ 25) 0
abbrev s__law_shuffled : Stmt := topQ 43
abbrev s__law_purses : Stmt := topQ 49
abbrev s_pair_of : Stmt := topQ 20
abbrev s_is_count : Stmt := topQ 16
abbrev s_is_run : Stmt := topQ 17
abbrev s_Lot___init__ : Stmt := inClass (topQ 22) 0
abbrev s__law_lot : Stmt := topQ 50
abbrev s__law_lines : Stmt := topQ 51
abbrev s_show_rows : Stmt := topQ 30
abbrev s_Purses_entries : Stmt := inClass (topQ 25) 2
abbrev s_show_purses : Stmt := topQ 32
abbrev s_Lot_entries : Stmt := inClass (topQ 22) 1
abbrev s_show_lot : Stmt := topQ 34
abbrev s_show_timetable : Stmt := topQ 36
abbrev s__law_alike : Stmt := topQ 44
abbrev s_read_number : Stmt := topQ 29
abbrev s_read_rows : Stmt := topQ 31
abbrev s_read_timetable : Stmt := topQ 37
abbrev s_read_purses : Stmt := topQ 33
abbrev s_with_table : Stmt := topQ 21
abbrev s_read_lot : Stmt := topQ 35
abbrev s__law_count : Stmt := topQ 47
abbrev s_Purses___eq__ : Stmt := inClass (topQ 25) 7
abbrev s_Lot___eq__ : Stmt := inClass (topQ 22) 9
abbrev s_law : Stmt := topQ 53
abbrev RAISED : List Str := []
abbrev TESTED : List Str := []
abbrev FIELDS : List Str := []
structure Tx (K : PySem.W.Frag) (mg : Str → Option Value) : Prop where
  b_abs : mg "abs" = none
  b_all : mg "all" = none
  b_bool : mg "bool" = none
  b_enumerate : mg "enumerate" = none
  b_int : mg "int" = none
  b_isinstance : mg "isinstance" = none
  b_len : mg "len" = none
  b_list : mg "list" = none
  b_max : mg "max" = none
  b_min : mg "min" = none
  b_range : mg "range" = none
  b_repr : mg "repr" = none
  b_sorted : mg "sorted" = none
  b_str : mg "str" = none
  b_tuple : mg "tuple" = none
  c_DIGITS : ∃ t, mg "DIGITS" = some (.str "0123456789" t)
  c_LETTERS : ∃ t, mg "LETTERS" = some (.str "abcdefghijklmnopqrstuvwxyz" t)
  c_LONGEST_NAME : ∃ t, mg "LONGEST_NAME" = some (.int 8 t)
  c_MOST_DIGITS : ∃ t, mg "MOST_DIGITS" = some (.int 40 t)
  c_MOST_ITEMS : ∃ t, mg "MOST_ITEMS" = some (.int 500 t)
  c_MOST_PLAYERS : ∃ t, mg "MOST_PLAYERS" = some (.int 24 t)
  c_MOST_RUNS : ∃ t, mg "MOST_RUNS" = some (.int 1000 t)
  c_MOST_TICKETS : ∃ t, mg "MOST_TICKETS" = some (.int 1000000000000000000000000000000 t)
  c_MOST_TIMES : ∃ t, mg "MOST_TIMES" = some (.int 1000000000000000000000000 t)
  m_Lot : mg "Lot" = some (.ref (adr mg "Lot"))
  m_Purses : mg "Purses" = some (.ref (adr mg "Purses"))
  k_Lot : Cls K (adr mg "Lot")
  k_Purses : Cls K (adr mg "Purses")
  o_Lot : OwnC K (adr mg "Lot")
  o_Purses : OwnC K (adr mg "Purses")
  n_Lot_table : NoAttr K (adr mg "Lot") "table"
  n_Purses_table : NoAttr K (adr mg "Purses") "table"
  r__law_hand : Raw K mg "_law_hand" s__law_hand ["_law_script"]
  r__law_step : Raw K mg "_law_step" s__law_step ["_law_hand_here"]
  r__law_take : Raw K mg "_law_take" s__law_take ["_law_hand_here"]
  r__law_draw : Raw K mg "_law_draw" s__law_draw ["_law_hand_here", "_law_tally"]
  r__law_names : Raw K mg "_law_names" s__law_names ["_law_hand_here", "_law_many"]
  r__law_mixed_names : Raw K mg "_law_mixed_names" s__law_mixed_names ["_law_hand_here"]
  r__law_table : Raw K mg "_law_table" s__law_table ["_law_items"]
  r_Purses___len__ : RawM K mg "Purses" "__len__" "Purses.__len__" s_Purses___len__ ["self"]
  r_Lot___len__ : RawM K mg "Lot" "__len__" "Lot.__len__" s_Lot___len__ ["self"]
  r__law_two : Raw K mg "_law_two" s__law_two ["_law_hand_here", "_law_names_here"]
  r_is_name : Raw K mg "is_name" s_is_name ["thing"]
  r_is_integer : Raw K mg "is_integer" s_is_integer ["thing"]
  r_is_amount : Raw K mg "is_amount" s_is_amount ["thing"]
  r_Purses___init__ : RawC K mg "Purses" "Purses.__init__" s_Purses___init__ ["self", "items"]
  r__law_shuffled : Raw K mg "_law_shuffled" s__law_shuffled ["_law_hand_here", "_law_some"]
  r__law_purses : Raw K mg "_law_purses" s__law_purses ["_law_hand_here", "_law_tickets"]
  r_pair_of : Raw K mg "pair_of" s_pair_of ["one", "other"]
  r_is_count : Raw K mg "is_count" s_is_count ["thing"]
  r_is_run : Raw K mg "is_run" s_is_run ["thing"]
  r_Lot___init__ : RawC K mg "Lot" "Lot.__init__" s_Lot___init__ ["self", "items"]
  r__law_lot : Raw K mg "_law_lot" s__law_lot ["_law_hand_here", "_law_items"]
  r__law_lines : Raw K mg "_law_lines" s__law_lines ["_law_rows"]
  r_show_rows : Raw K mg "show_rows" s_show_rows ["rows"]
  r_Purses_entries : RawM K mg "Purses" "entries" "Purses.entries" s_Purses_entries ["self"]
  r_show_purses : Raw K mg "show_purses" s_show_purses ["purses"]
  r_Lot_entries : RawM K mg "Lot" "entries" "Lot.entries" s_Lot_entries ["self"]
  r_show_lot : Raw K mg "show_lot" s_show_lot ["lot"]
  r_show_timetable : Raw K mg "show_timetable" s_show_timetable ["timetable"]
  r__law_alike : Raw K mg "_law_alike" s__law_alike ["_law_found", "_law_due"]
  r_read_number : Raw K mg "read_number" s_read_number ["word"]
  r_read_rows : Raw K mg "read_rows" s_read_rows ["text", "width"]
  r_read_timetable : Raw K mg "read_timetable" s_read_timetable ["text"]
  r_read_purses : Raw K mg "read_purses" s_read_purses ["text"]
  r_with_table : Raw K mg "with_table" s_with_table ["table"]
  r_read_lot : Raw K mg "read_lot" s_read_lot ["text"]
  r__law_count : Raw K mg "_law_count" s__law_count ["_law_hand_here"]
  r_Purses___eq__ : RawM K mg "Purses" "__eq__" "Purses.__eq__" s_Purses___eq__ ["self", "other"]
  r_Lot___eq__ : RawM K mg "Lot" "__eq__" "Lot.__eq__" s_Lot___eq__ ["self", "other"]
  r_law : Raw K mg "law" s_law ["_law_script"]
/-! _law_hand -/
def N__law_hand : List Str := ["_law_script"]
theorem sc__law_hand : FnScope N__law_hand ["_law_script"] (defScope s__law_hand) := ⟨rfl, rfl, rfl, by decide +kernel, rfl, by decide +kernel, by decide +kernel⟩
noncomputable def t__law_hand : TF := (kRet (eLstP (aCons (eCall bList (aCons (eSl (eVar 0) oNone (oSome (eC (.int 63)))) aNil)) (aCons (eC (.int 0)) (aCons (eC (.int 0)) (aCons (eC (.int 0)) (aCons (eC (.int 20011)) (aCons (eC (.int 40009)) aNil))))))))
noncomputable def g__law_hand : List D → Mem → Res D := runF 1 0 t__law_hand
theorem q__law_hand {P : Program} {w : World} {K : PySem.W.Frag} {mg : Str → Option Value} {base : Heap} (T : Tx K mg) : Has P w K mg base 1 "_law_hand" ["_law_script"] g__law_hand :=
  T.r__law_hand.has sc__law_hand rfl fun f cdv A outer s H E hr => (qs_one (qret (qlstP (qa_cons (qlist (by rfl) T.b_list (qa_cons (qsl (qv 0) qo_none (qo_some qint)) qa_nil)) (qa_cons qint (qa_cons qint (qa_cons qint (qa_cons qint (qa_cons qint qa_nil)))))))))
/-! _law_step -/
def N__law_step : List Str := ["_law_hand_here"]
theorem sc__law_step : FnScope N__law_step ["_law_hand_here"] (defScope s__law_step) := ⟨rfl, rfl, rfl, by decide +kernel, rfl, by decide +kernel, by decide +kernel⟩
noncomputable def t__law_step : TF := (kSeq (kAsg (e2 fMod (e2 fMul (e2 fIxA (eVar 0) (eC (.int 4))) (eC (.int 48271))) (eC (.int 2147483647))) (gSubL (eVar 0) (eC (.int 4))))
    (kSeq (kAsg (e2 fMod (e2 fMul (e2 fIxA (eVar 0) (eC (.int 5))) (eC (.int 40692))) (eC (.int 2147483399))) (gSubL (eVar 0) (eC (.int 5))))
    (kRet (e2 fAdd (e2 fIxA (eVar 0) (eC (.int 4))) (e2 fIxA (eVar 0) (eC (.int 5)))))))
noncomputable def g__law_step : List D → Mem → Res D := runF 1 0 t__law_step
theorem q__law_step {P : Program} {w : World} {K : PySem.W.Frag} {mg : Str → Option Value} {base : Heap} (T : Tx K mg) : Has P w K mg base 1 "_law_step" ["_law_hand_here"] g__law_step :=
  T.r__law_step.has sc__law_step rfl fun f cdv A outer s H E hr => (qs_cons (qasg (qmod (qmul (qixA hr.units (qv 0) qint) qint) qint) (qg_subL (qv 0) qint))
    (qs_cons (qasg (qmod (qmul (qixA hr.units (qv 0) qint) qint) qint) (qg_subL (qv 0) qint))
    (qs_one (qret (qadd (qixA hr.units (qv 0) qint) (qixA hr.units (qv 0) qint))))))
/-! _law_take -/
def N__law_take : List Str := ["_law_hand_here", "_law_cell"]
theorem sc__law_take : FnScope N__law_take ["_law_hand_here"] (defScope s__law_take) := ⟨rfl, rfl, rfl, by decide +kernel, rfl, by decide +kernel, by decide +kernel⟩
noncomputable def t__law_take_1 : TF := (kIf (bV (e2 fLt (e2 fIxA (eVar 0) (eC (.int 1))) (eCall bLenA (aCons (e2 fIxA (eVar 0) (eC (.int 0))) aNil))))
    (kAsg (eCall bAbs (aCons (e2 fIxA (e2 fIxA (eVar 0) (eC (.int 0))) (e2 fIxA (eVar 0) (eC (.int 1)))) aNil)) (gN 1))
    kNil)
noncomputable def t__law_take_2 : TF := (kIf (bV (e2 fGe (eVar 1) (e2 fPow (eC (.int 10)) (eC (.int 18)))))
    (kAsg (eVar 1) (gSubL (eVar 0) (eC (.int 2))))
    (kAsg (eC (.int 7)) (gSubL (eVar 0) (eC (.int 3)))))
noncomputable def t__law_take : TF := (kSeq (kAsg (eC (.int 0)) (gN 1))
    (kSeq t__law_take_1
    (kSeq (kLAug (eVar 0) (eC (.int 1)) (eC (.int 1)) (fun i j => i + j))
    (kSeq t__law_take_2
    (kSeq (kAsg (e2 fAdd (e2 fMod (e2 fAdd (e2 fIxA (eVar 0) (eC (.int 4))) (e2 fMod (eVar 1) (eC (.int 2147483587)))) (eC (.int 2147483646))) (eC (.int 1))) (gSubL (eVar 0) (eC (.int 4))))
    (kSeq (kAsg (e2 fAdd (e2 fMod (e2 fAdd (e2 fMul (e2 fIxA (eVar 0) (eC (.int 5))) (eC (.int 3))) (e2 fMod (eVar 1) (eC (.int 1000003)))) (eC (.int 2147483398))) (eC (.int 1))) (gSubL (eVar 0) (eC (.int 5))))
    (kSeq (kDrop (eCall g__law_step (aCons (eVar 0) aNil)))
    (kDrop (eCall g__law_step (aCons (eVar 0) aNil))))))))))
noncomputable def g__law_take : List D → Mem → Res D := runF 1 1 t__law_take
theorem q__law_take {P : Program} {w : World} {K : PySem.W.Frag} {mg : Str → Option Value} {base : Heap} (T : Tx K mg) : Has P w K mg base 2 "_law_take" ["_law_hand_here"] g__law_take :=
  T.r__law_take.has sc__law_take rfl fun f cdv A outer s H E hr => (qs_cons (qset (i := 1) sc__law_take.nd rfl qint)
    (qs_cons (qif (tLt' (qixA hr.units (qv 0) qint) (qlenA (by rfl) T.b_len (qa_cons (qixA hr.units (qv 0) qint) qa_nil))) (qs_one (qset (i := 1) sc__law_take.nd rfl (qabs (by rfl) T.b_abs (qa_cons (qixA hr.units (qixA hr.units (qv 0) qint) (qixA hr.units (qv 0) qint)) qa_nil)))) qs_nil)
    (qs_cons (qlaug (qv 0) qint qint ip_add)
    (qs_cons (qif (tGe' (qv 1) (qpow qint qint)) (qs_one (qasg (qv 1) (qg_subL (qv 0) qint))) (qs_one (qasg qint (qg_subL (qv 0) qint))))
    (qs_cons (qasg (qadd (qmod (qadd (qixA hr.units (qv 0) qint) (qmod (qv 1) qint)) qint) qint) (qg_subL (qv 0) qint))
    (qs_cons (qasg (qadd (qmod (qadd (qmul (qixA hr.units (qv 0) qint) qint) (qmod (qv 1) qint)) qint) qint) (qg_subL (qv 0) qint))
    (qs_cons (qexpr (qcall (q__law_step T) (hr.mono (by decide)) takesQ (by rfl) (qa_cons (qv 0) qa_nil)))
    (qs_one (qexpr (qcall (q__law_step T) (hr.mono (by decide)) takesQ (by rfl) (qa_cons (qv 0) qa_nil)))))))))))
/-! _law_draw -/
def N__law_draw : List Str := ["_law_hand_here", "_law_tally", "_law_got", "_law_value", "_law_size"]
theorem sc__law_draw : FnScope N__law_draw ["_law_hand_here", "_law_tally"] (defScope s__law_draw) := ⟨rfl, rfl, rfl, by decide +kernel, rfl, by decide +kernel, by decide +kernel⟩
noncomputable def t__law_draw_1 : TF := (kIf (bAnd (bV (e2 fEqA (e2 fIxA (eVar 0) (eC (.int 2))) (eC (.int 0)))) (bV (e2 fEqA (e2 fIxA (eVar 0) (eC (.int 3))) (eC (.int 0)))))
    (kDrop (eCall g__law_take (aCons (eVar 0) aNil)))
    kNil)
noncomputable def t__law_draw_2 : TF := (kIf (bV (e2 fGt (e2 fIxA (eVar 0) (eC (.int 2))) (eC (.int 0))))
    (kSeq (kAsg (e2 fMod (e2 fIxA (eVar 0) (eC (.int 2))) (eVar 1)) (gN 2))
    (kSeq (kAsg (e2 fDiv (e2 fIxA (eVar 0) (eC (.int 2))) (eVar 1)) (gSubL (eVar 0) (eC (.int 2))))
    (kRet (eVar 2))))
    kNil)
noncomputable def b__law_draw_3 : TF := (kSeq (kAsg (e2 fAdd (e2 fMul (eVar 3) (eC (.int 4294967296))) (eCall g__law_step (aCons (eVar 0) aNil))) (gN 3))
    (kAsg (e2 fMul (eVar 4) (eC (.int 4294967296))) (gN 4)))
noncomputable def t__law_draw_4 : TF := (kWhile (bV (e2 fLt (eVar 4) (eVar 1))) b__law_draw_3 [])
noncomputable def t__law_draw : TF := (kSeq t__law_draw_1
    (kSeq t__law_draw_2
    (kSeq (kLAug (eVar 0) (eC (.int 3)) (eC (.int 1)) (fun i j => i - j))
    (kSeq (kAsg (eCall g__law_step (aCons (eVar 0) aNil)) (gN 3))
    (kSeq (kAsg (eC (.int 4294967296)) (gN 4))
    (kSeq t__law_draw_4
    (kRet (e2 fMod (eVar 3) (eVar 1)))))))))
noncomputable def g__law_draw : List D → Mem → Res D := runF 2 3 t__law_draw
theorem q__law_draw {P : Program} {w : World} {K : PySem.W.Frag} {mg : Str → Option Value} {base : Heap} (T : Tx K mg) : Has P w K mg base 3 "_law_draw" ["_law_hand_here", "_law_tally"] g__law_draw :=
  T.r__law_draw.has sc__law_draw rfl fun f cdv A outer s H E hr => (qs_cons (qif (qt_w (qw_and (tEqA hr.units (qixA hr.units (qv 0) qint) qint) (qw_and1 (tEqA hr.units (qixA hr.units (qv 0) qint) qint)))) (qs_one (qexpr (qcall (q__law_take T) (hr.mono (by decide)) takesQ (by rfl) (qa_cons (qv 0) qa_nil)))) qs_nil)
    (qs_cons (qif (tGt' (qixA hr.units (qv 0) qint) qint) (qs_cons (qset (i := 2) sc__law_draw.nd rfl (qmod (qixA hr.units (qv 0) qint) (qv 1)))
    (qs_cons (qasg (qdiv (qixA hr.units (qv 0) qint) (qv 1)) (qg_subL (qv 0) qint))
    (qs_one (qret (qv 2))))) qs_nil)
    (qs_cons (qlaug (qv 0) qint qint ip_sub)
    (qs_cons (qset (i := 3) sc__law_draw.nd rfl (qcall (q__law_step T) (hr.mono (by decide)) takesQ (by rfl) (qa_cons (qv 0) qa_nil)))
    (qs_cons (qset (i := 4) sc__law_draw.nd rfl qint)
    (qs_cons (qwhile (vs := []) passesQ (tLt' (qv 4) (qv 1)) (qs_cons (qset (i := 3) sc__law_draw.nd rfl (qadd (qmul (qv 3) qint) (qcall (q__law_step T) (hr.mono (by decide)) takesQ (by rfl) (qa_cons (qv 0) qa_nil))))
    (qs_one (qset (i := 4) sc__law_draw.nd rfl (qmul (qv 4) qint)))))
    (qs_one (qret (qmod (qv 3) (qv 1))))))))))
/-! _law_names -/
def N__law_names : List Str := ["_law_hand_here", "_law_many", "_law_letters", "_law_words", "_law_way", "_law_turn", "_law_base", "_law_at", "_law_k"]
theorem sc__law_names : FnScope N__law_names ["_law_hand_here", "_law_many"] (defScope s__law_names) := ⟨rfl, rfl, rfl, by decide +kernel, rfl, by decide +kernel, by decide +kernel⟩
noncomputable def e__law_names_1 : EF := (eLc (iRange1 (aCons (e2 fAdd (eC (.int 1)) (eCall g__law_draw (aCons (eVar 0) (aCons (eC (.int 7)) aNil)))) aNil)) (gN 8) bYes (e2 fIxA (eVar 2) (eCall g__law_draw (aCons (eVar 0) (aCons (eC (.int 26)) aNil)))) [8])
noncomputable def t__law_names_2 : TF := (kIf (bV (e2 fEqA (eVar 4) (eC (.int 0))))
    (kRet (eSl (e2 fAdd (eSl (eVar 3) (oSome (eVar 5)) oNone) (eSl (eVar 3) oNone (oSome (eVar 5)))) oNone (oSome (eVar 1))))
    kNil)
noncomputable def e__law_names_3 : EF := (eLc (iRange1 (aCons (eVar 1) aNil)) (gN 8) bYes (e2 fIxA (eVar 2) (e2 fMod (e2 fAdd (eVar 5) (e2 fMul (eC (.int 3)) (eVar 8))) (eC (.int 26)))) [8])
noncomputable def t__law_names_4 : TF := (kIf (bV (e2 fEqA (eVar 4) (eC (.int 1))))
    (kRet e__law_names_3)
    kNil)
noncomputable def e__law_names_5 : EF := (eLc (iRange1 (aCons (eVar 1) aNil)) (gN 8) bYes (e2 fAdd (e2 fAdd (eSl (eVar 6) oNone (oSome (eVar 7))) (e2 fIxA (eVar 2) (e2 fMod (e2 fAdd (eVar 5) (e2 fMul (eC (.int 3)) (eVar 8))) (eC (.int 26))))) (eSl (eVar 6) (oSome (eVar 7)) oNone)) [8])
noncomputable def t__law_names : TF := (kSeq (kAsg (eC (.str "abcdefghijklmnopqrstuvwxyz")) (gN 2))
    (kSeq (kAsg (eC (.str "join give wish withdraw meet undo redo purses lot choices plan room left could yes no ok")) (gN 3))
    (kSeq (kAsg (eSplit (e2 fAdd (eVar 3) (eC (.str " a b ab ba aa z zz"))) (eC (.str " "))) (gN 3))
    (kSeq (kAsg (eTup (aCons (eCall g__law_draw (aCons (eVar 0) (aCons (eC (.int 4)) aNil))) (aCons (eCall g__law_draw (aCons (eVar 0) (aCons (eC (.int 24)) aNil))) aNil))) (gTupF 2 (gConsF (gN 4) (gConsF (gN 5) gNilF))))
    (kSeq (kAsg (eJoin (eC (.str "")) e__law_names_1) (gN 6))
    (kSeq (kAsg (eCall g__law_draw (aCons (eVar 0) (aCons (e2 fAdd (eCall bLenA (aCons (eVar 6) aNil)) (eC (.int 1))) aNil))) (gN 7))
    (kSeq t__law_names_2
    (kSeq t__law_names_4
    (kRet e__law_names_5)))))))))
noncomputable def g__law_names : List D → Mem → Res D := runF 2 7 t__law_names
theorem q__law_names {P : Program} {w : World} {K : PySem.W.Frag} {mg : Str → Option Value} {base : Heap} (T : Tx K mg) : Has P w K mg base 4 "_law_names" ["_law_hand_here", "_law_many"] g__law_names :=
  T.r__law_names.has sc__law_names rfl fun f cdv A outer s H E hr => (qs_cons (qset (i := 2) sc__law_names.nd rfl qstr)
    (qs_cons (qset (i := 3) sc__law_names.nd rfl qstr)
    (qs_cons (qset (i := 3) sc__law_names.nd rfl (qsplit (qadd (qv 3) qstr) qstr))
    (qs_cons (qasg (qtup (qa_cons (qcall (q__law_draw T) (hr.mono (by decide)) takesQ (by rfl) (qa_cons (qv 0) (qa_cons qint qa_nil))) (qa_cons (qcall (q__law_draw T) (hr.mono (by decide)) takesQ (by rfl) (qa_cons (qv 0) (qa_cons qint qa_nil))) qa_nil))) (qg_tup rfl (qgs_cons (qg_name (i := 4) sc__law_names.nd rfl) (qgs_cons (qg_name (i := 5) sc__law_names.nd rfl) qgs_nil))))
    (qs_cons (qset (i := 6) sc__law_names.nd rfl (qjoin qstr (qlc (own := [("_law_k", 8)]) rfl sc__law_names.nd (qi_range1 (by rfl) T.b_range (qa_cons (qadd qint (qcall (q__law_draw T) (hr.mono (by decide)) takesQ (by rfl) (qa_cons (qv 0) (qa_cons qint qa_nil)))) qa_nil)) (blkOk_by (own := [("_law_k", 8)]) (N := N__law_names) (sc := defScope s__law_names) (by decide +kernel)) (fun _ _ _ _ _ => (qv_name (i := 8) sc__law_names.nd rfl (by decide))) (fun _ _ _ _ _ => qts_nil) (fun _ _ _ _ _ => (qixA hr.units (qv 2) (qcall (q__law_draw T) (hr.mono (by decide)) takesB (by rfl) (qa_cons (qv 0) (qa_cons qint qa_nil))))))))
    (qs_cons (qset (i := 7) sc__law_names.nd rfl (qcall (q__law_draw T) (hr.mono (by decide)) takesQ (by rfl) (qa_cons (qv 0) (qa_cons (qadd (qlenA (by rfl) T.b_len (qa_cons (qv 6) qa_nil)) qint) qa_nil))))
    (qs_cons (qif (tEqA hr.units (qv 4) qint) (qs_one (qret (qsl (qadd (qsl (qv 3) (qo_some (qv 5)) qo_none) (qsl (qv 3) qo_none (qo_some (qv 5)))) qo_none (qo_some (qv 1))))) qs_nil)
    (qs_cons (qif (tEqA hr.units (qv 4) qint) (qs_one (qret (qlc (own := [("_law_k", 8)]) rfl sc__law_names.nd (qi_range1 (by rfl) T.b_range (qa_cons (qv 1) qa_nil)) (blkOk_by (own := [("_law_k", 8)]) (N := N__law_names) (sc := defScope s__law_names) (by decide +kernel)) (fun _ _ _ _ _ => (qv_name (i := 8) sc__law_names.nd rfl (by decide))) (fun _ _ _ _ _ => qts_nil) (fun _ _ _ _ _ => (qixA hr.units (qv 2) (qmod (qadd (qv 5) (qmul qint (qv 8))) qint)))))) qs_nil)
    (qs_one (qret (qlc (own := [("_law_k", 8)]) rfl sc__law_names.nd (qi_range1 (by rfl) T.b_range (qa_cons (qv 1) qa_nil)) (blkOk_by (own := [("_law_k", 8)]) (N := N__law_names) (sc := defScope s__law_names) (by decide +kernel)) (fun _ _ _ _ _ => (qv_name (i := 8) sc__law_names.nd rfl (by decide))) (fun _ _ _ _ _ => qts_nil) (fun _ _ _ _ _ => (qadd (qadd (qsl (qv 6) qo_none (qo_some (qv 7))) (qixA hr.units (qv 2) (qmod (qadd (qv 5) (qmul qint (qv 8))) qint))) (qsl (qv 6) (qo_some (qv 7)) qo_none))))))))))))))
/-! _law_mixed_names -/
def N__law_mixed_names : List Str := ["_law_hand_here", "_law_found", "_law_name", "_law_cut", "_law_one"]
theorem sc__law_mixed_names : FnScope N__law_mixed_names ["_law_hand_here"] (defScope s__law_mixed_names) := ⟨rfl, rfl, rfl, by decide +kernel, rfl, by decide +kernel, by decide +kernel⟩
noncomputable def e__law_mixed_names_1 : EF := (eLc (iSeq (eLst (aCons (e2 fIxA (eLst (aCons (eVar 2) (aCons (eVar 3) aNil))) (eCall g__law_draw (aCons (eVar 0) (aCons (eC (.int 2)) aNil)))) aNil))) (gN 4) (bV (e2 fNotInA (eVar 4) (eVar 1))) (eVar 4) [4])
noncomputable def b__law_mixed_names_2 : TF := (kSeq (kAsg (eSl (eVar 2) oNone (oSome (e2 fAdd (eC (.int 1)) (eCall g__law_draw (aCons (eVar 0) (aCons (eCall bLenA (aCons (eVar 2) aNil)) aNil)))))) (gN 3))
    (kAsg (e2 fAdd (eVar 1) e__law_mixed_names_1) (gN 1)))
noncomputable def t__law_mixed_names_3 : TF := (kFor (iSeq (eCall g__law_names (aCons (eVar 0) (aCons (eC (.int 24)) aNil)))) (gN 2) b__law_mixed_names_2 [2, 3])
noncomputable def t__law_mixed_names : TF := (kSeq (kAsg (eLst aNil) (gN 1))
    (kSeq t__law_mixed_names_3
    (kRet (eVar 1))))
noncomputable def g__law_mixed_names : List D → Mem → Res D := runF 1 4 t__law_mixed_names
theorem q__law_mixed_names {P : Program} {w : World} {K : PySem.W.Frag} {mg : Str → Option Value} {base : Heap} (T : Tx K mg) : Has P w K mg base 5 "_law_mixed_names" ["_law_hand_here"] g__law_mixed_names :=
  T.r__law_mixed_names.has sc__law_mixed_names rfl fun f cdv A outer s H E hr => (qs_cons (qset (i := 1) sc__law_mixed_names.nd rfl (qlst qa_nil))
    (qs_cons (qfor (vs := [2, 3]) passesQ rfl (qi_list (qcall (q__law_names T) (hr.mono (by decide)) takesQ (by rfl) (qa_cons (qv 0) (qa_cons qint qa_nil)))) (qg_name (i := 2) sc__law_mixed_names.nd rfl) (qs_cons (qset (i := 3) sc__law_mixed_names.nd rfl (qsl (qv 2) qo_none (qo_some (qadd qint (qcall (q__law_draw T) (hr.mono (by decide)) takesQ (by rfl) (qa_cons (qv 0) (qa_cons (qlenA (by rfl) T.b_len (qa_cons (qv 2) qa_nil)) qa_nil)))))))
    (qs_one (qset (i := 1) sc__law_mixed_names.nd rfl (qadd (qv 1) (qlc (own := [("_law_one", 4)]) rfl sc__law_mixed_names.nd (qi_list (qlst (qa_cons (qixA hr.units (qlst (qa_cons (qv 2) (qa_cons (qv 3) qa_nil))) (qcall (q__law_draw T) (hr.mono (by decide)) takesQ (by rfl) (qa_cons (qv 0) (qa_cons qint qa_nil)))) qa_nil))) (blkOk_by (own := [("_law_one", 4)]) (N := N__law_mixed_names) (sc := defScope s__law_mixed_names) (by decide +kernel)) (fun _ _ _ _ _ => (qv_name (i := 4) sc__law_mixed_names.nd rfl (by decide))) (fun _ _ _ _ _ => (qts_one (tnotinA hr.units (qv 4) (qv 1)))) (fun _ _ _ _ _ => (qv 4))))))))
    (qs_one (qret (qv 1)))))
/-! _law_table -/
def N__law_table : List Str := ["_law_items", "_law_found", "_law_one", "_law_other", "_law_many", "_law_pair"]
theorem sc__law_table : FnScope N__law_table ["_law_items"] (defScope s__law_table) := ⟨rfl, rfl, rfl, by decide +kernel, rfl, by decide +kernel, by decide +kernel⟩
noncomputable def b__law_table_1 : TF := (kSeq (kAsg (eTup (aCons (eCall bMin2A (aCons (eVar 2) (aCons (eVar 3) aNil))) (aCons (eCall bMax2A (aCons (eVar 2) (aCons (eVar 3) aNil))) aNil))) (gN 5))
    (kDPut (eVar 1) (eVar 5) (e2 fAdd (eGet2 (eVar 1) (eVar 5) (eC (.int 0))) (eVar 4))))
noncomputable def t__law_table_2 : TF := (kFor (iSeq (eVar 0)) (gTupF 3 (gConsF (gN 2) (gConsF (gN 3) (gConsF (gN 4) gNilF)))) b__law_table_1 [2, 3, 4, 5])
noncomputable def t__law_table : TF := (kSeq (kAsg eDnewTP (gN 1))
    (kSeq t__law_table_2
    (kRet (eFrz (eVar 1)))))
noncomputable def g__law_table : List D → Mem → Res D := runF 1 5 t__law_table
theorem q__law_table {P : Program} {w : World} {K : PySem.W.Frag} {mg : Str → Option Value} {base : Heap} (T : Tx K mg) : Has P w K mg base 1 "_law_table" ["_law_items"] g__law_table :=
  T.r__law_table.has sc__law_table rfl fun f cdv A outer s H E hr => (qs_cons (qset (i := 1) sc__law_table.nd rfl qdnewTP)
    (qs_cons (qfor (vs := [2, 3, 4, 5]) passesQ rfl (qi_list (qv 0)) (qg_tup rfl (qgs_cons (qg_name (i := 2) sc__law_table.nd rfl) (qgs_cons (qg_name (i := 3) sc__law_table.nd rfl) (qgs_cons (qg_name (i := 4) sc__law_table.nd rfl) qgs_nil)))) (qs_cons (qset (i := 5) sc__law_table.nd rfl (qtup (qa_cons (qmin2A rfl (by rfl) T.b_min (qa_cons (qv 2) (qa_cons (qv 3) qa_nil))) (qa_cons (qmax2A rfl (by rfl) T.b_max (qa_cons (qv 2) (qa_cons (qv 3) qa_nil))) qa_nil))))
    (qs_one (qdput (un1 hr.units) (qv 1) (qv 5) (qadd (qget2 (un1 hr.units) (qv 1) (qv 5) qint) (qv 4))))))
    (qs_one (qret (qfrz (qv 1))))))
/-! Purses.__len__ -/
def N_Purses___len__ : List Str := ["self"]
theorem sc_Purses___len__ : FnScope N_Purses___len__ ["self"] (defScope s_Purses___len__) := ⟨rfl, rfl, rfl, by decide +kernel, rfl, by decide +kernel, by decide +kernel⟩
noncomputable def t_Purses___len__ : TF := (kRet (eCall bLenA (aCons (eFld "Purses" "table" (eVar 0)) aNil)))
noncomputable def g_Purses___len__ : List D → Mem → Res D := runF 1 0 t_Purses___len__
theorem q_Purses___len__ {P : Program} {w : World} {K : PySem.W.Frag} {mg : Str → Option Value} {base : Heap} (T : Tx K mg) : HasM P w K mg base 1 "Purses" "__len__" ["self"] g_Purses___len__ :=
  T.r_Purses___len__.has sc_Purses___len__ rfl fun f cdv A outer s H E hr => (qs_one (qret (qlenA (by rfl) T.b_len (qa_cons (qfld T.m_Purses T.k_Purses T.n_Purses_table (qv 0)) qa_nil))))
/-! Lot.__len__ -/
def N_Lot___len__ : List Str := ["self"]
theorem sc_Lot___len__ : FnScope N_Lot___len__ ["self"] (defScope s_Lot___len__) := ⟨rfl, rfl, rfl, by decide +kernel, rfl, by decide +kernel, by decide +kernel⟩
noncomputable def t_Lot___len__ : TF := (kRet (eCall bLenT (aCons (eFld "Lot" "table" (eVar 0)) aNil)))
noncomputable def g_Lot___len__ : List D → Mem → Res D := runF 1 0 t_Lot___len__
theorem q_Lot___len__ {P : Program} {w : World} {K : PySem.W.Frag} {mg : Str → Option Value} {base : Heap} (T : Tx K mg) : HasM P w K mg base 1 "Lot" "__len__" ["self"] g_Lot___len__ :=
  T.r_Lot___len__.has sc_Lot___len__ rfl fun f cdv A outer s H E hr => (qs_one (qret (qlenT (by rfl) T.b_len (qa_cons (qfld T.m_Lot T.k_Lot T.n_Lot_table (qv 0)) qa_nil))))
/-! _law_two -/
def N__law_two : List Str := ["_law_hand_here", "_law_names_here", "_law_one", "_law_rest", "_law_name"]
theorem sc__law_two : FnScope N__law_two ["_law_hand_here", "_law_names_here"] (defScope s__law_two) := ⟨rfl, rfl, rfl, by decide +kernel, rfl, by decide +kernel, by decide +kernel⟩
noncomputable def e__law_two_1 : EF := (eLc (iSeq (eVar 1)) (gN 4) (bV (e2 fNe (eVar 4) (eVar 2))) (eVar 4) [4])
noncomputable def t__law_two : TF := (kSeq (kAsg (e2 fIxA (eVar 1) (eCall g__law_draw (aCons (eVar 0) (aCons (eCall bLenA (aCons (eVar 1) aNil)) aNil)))) (gN 2))
    (kSeq (kAsg e__law_two_1 (gN 3))
    (kRet (eTup (aCons (eVar 2) (aCons (e2 fIxA (eVar 3) (eCall g__law_draw (aCons (eVar 0) (aCons (eCall bLenA (aCons (eVar 3) aNil)) aNil)))) aNil))))))
noncomputable def g__law_two : List D → Mem → Res D := runF 2 3 t__law_two
theorem q__law_two {P : Program} {w : World} {K : PySem.W.Frag} {mg : Str → Option Value} {base : Heap} (T : Tx K mg) : Has P w K mg base 4 "_law_two" ["_law_hand_here", "_law_names_here"] g__law_two :=
  T.r__law_two.has sc__law_two rfl fun f cdv A outer s H E hr => (qs_cons (qset (i := 2) sc__law_two.nd rfl (qixA hr.units (qv 1) (qcall (q__law_draw T) (hr.mono (by decide)) takesQ (by rfl) (qa_cons (qv 0) (qa_cons (qlenA (by rfl) T.b_len (qa_cons (qv 1) qa_nil)) qa_nil)))))
    (qs_cons (qsetLc (i := 3) (own := [("_law_name", 4)]) (.inl rfl) rfl sc__law_two.nd rfl rfl (by rfl) (qi_list (qv 1)) (blkOk_by (own := [("_law_name", 4)]) (N := N__law_two) (sc := defScope s__law_two) (by decide +kernel)) (fun _ _ _ _ _ => (qv_name (i := 4) sc__law_two.nd rfl (by decide))) (fun _ _ _ _ _ => (qts_one (tNe hr.units (qv 4) (qv 2)))) (fun _ _ _ _ _ => (qv 4)))
    (qs_one (qret (qtup (qa_cons (qv 2) (qa_cons (qixA hr.units (qv 3) (qcall (q__law_draw T) (hr.mono (by decide)) takesQ (by rfl) (qa_cons (qv 0) (qa_cons (qlenA (by rfl) T.b_len (qa_cons (qv 3) qa_nil)) qa_nil)))) qa_nil)))))))
/-! is_name -/
def N_is_name : List Str := ["thing", "letter"]
theorem sc_is_name : FnScope N_is_name ["thing"] (defScope s_is_name) := ⟨rfl, rfl, rfl, by decide +kernel, rfl, by decide +kernel, by decide +kernel⟩
noncomputable def t_is_name_1 : TF := (kIf (bOr (bNot (bV (eIsT "str" (eVar 0)))) (bNot (bV (e3 fLe fLe (eC (.int 1)) (eCall bLenA (aCons (eVar 0) aNil)) (eC (.int 8))))))
    (kRet (eC (.bl false)))
    kNil)
noncomputable def e_is_name_2 : EF := (eLc (iStrF (eVar 0)) (gN 1) bYes (e2 fInA (eVar 1) (eC (.str "abcdefghijklmnopqrstuvwxyz"))) [1])
noncomputable def t_is_name : TF := (kSeq t_is_name_1
    (kRet (eCall bAll (aCons e_is_name_2 aNil))))
noncomputable def g_is_name : List D → Mem → Res D := runF 1 1 t_is_name
theorem q_is_name {P : Program} {w : World} {K : PySem.W.Frag} {mg : Str → Option Value} {base : Heap} (T : Tx K mg) : Has P w K mg base 1 "is_name" ["thing"] g_is_name :=
  T.r_is_name.has sc_is_name rfl fun f cdv A outer s H E hr => (qs_cons (qif (qt_w (qw_or (qt_not (qt_val (qisT (by decide) (by rfl) T.b_isinstance (qv 0) (by rfl) T.b_str (by decide +kernel)))) (qw_or1 (qt_not (tchain op_le op_le r2_cmp r2_cmp qint (qlenA (by rfl) T.b_len (qa_cons (qv 0) qa_nil)) (qgI (i := 8) (by rfl) T.c_LONGEST_NAME)))))) (qs_one (qret qbl)) qs_nil)
    (qs_one (qret (qall rfl (by rfl) T.b_all (qa_cons (qlc (own := [("letter", 1)]) rfl sc_is_name.nd (qi_str (qv 0)) (blkOk_by (own := [("letter", 1)]) (N := N_is_name) (sc := defScope s_is_name) (by decide +kernel)) (fun _ _ _ _ _ => (qv_name (i := 1) sc_is_name.nd rfl (by decide))) (fun _ _ _ _ _ => qts_nil) (fun _ _ _ _ _ => (qinA hr.units (qv 1) (qgS (by rfl) T.c_LETTERS)))) qa_nil)))))
/-! is_integer -/
def N_is_integer : List Str := ["thing"]
theorem sc_is_integer : FnScope N_is_integer ["thing"] (defScope s_is_integer) := ⟨rfl, rfl, rfl, by decide +kernel, rfl, by decide +kernel, by decide +kernel⟩
noncomputable def t_is_integer : TF := (kRet (eAnd (eIsT "int" (eVar 0)) (eNot (eIsT "bool" (eVar 0)))))
noncomputable def g_is_integer : List D → Mem → Res D := runF 1 0 t_is_integer
theorem q_is_integer {P : Program} {w : World} {K : PySem.W.Frag} {mg : Str → Option Value} {base : Heap} (T : Tx K mg) : Has P w K mg base 1 "is_integer" ["thing"] g_is_integer :=
  T.r_is_integer.has sc_is_integer rfl fun f cdv A outer s H E hr => (qs_one (qret (q_and (qisT (by decide) (by rfl) T.b_isinstance (qv 0) (by rfl) T.b_int (by decide +kernel)) (q_one (q_not (qisT (by decide) (by rfl) T.b_isinstance (qv 0) (by rfl) T.b_bool (by decide +kernel)))))))
/-! is_amount -/
def N_is_amount : List Str := ["thing"]
theorem sc_is_amount : FnScope N_is_amount ["thing"] (defScope s_is_amount) := ⟨rfl, rfl, rfl, by decide +kernel, rfl, by decide +kernel, by decide +kernel⟩
noncomputable def t_is_amount : TF := (kRet (eAnd (eCall g_is_integer (aCons (eVar 0) aNil)) (e3 fLe fLe (eC (.int 0)) (eVar 0) (eC (.int 1000000000000000000000000000000)))))
noncomputable def g_is_amount : List D → Mem → Res D := runF 1 0 t_is_amount
theorem q_is_amount {P : Program} {w : World} {K : PySem.W.Frag} {mg : Str → Option Value} {base : Heap} (T : Tx K mg) : Has P w K mg base 2 "is_amount" ["thing"] g_is_amount :=
  T.r_is_amount.has sc_is_amount rfl fun f cdv A outer s H E hr => (qs_one (qret (q_and (qcall (q_is_integer T) (hr.mono (by decide)) takesQ (by rfl) (qa_cons (qv 0) qa_nil)) (q_one (qchain op_le op_le r2_cmp r2_cmp qint (qv 0) (qgI (i := 1000000000000000000000000000000) (by rfl) T.c_MOST_TICKETS))))))
/-! Purses.__init__ -/
def N_Purses___init__ : List Str := ["self", "items", "table", "at", "item"]
theorem sc_Purses___init__ : FnScope N_Purses___init__ ["self", "items"] (defScope s_Purses___init__) := ⟨rfl, rfl, rfl, by decide +kernel, rfl, by decide +kernel, by decide +kernel⟩
noncomputable def t_Purses___init___1 : TF := (kIf (bOr (bNot (bV (eIsT "list" (eVar 1)))) (bV (e2 fGt (eCall bLenA (aCons (eVar 1) aNil)) (eC (.int 24)))))
    kNever
    kNil)
noncomputable def t_Purses___init___2 : TF := (kIf (bOr (bNot (bV (eIsT "tuple" (eVar 4)))) (bOr (bV (e2 fNe (eCall bLenA (aCons (eVar 4) aNil)) (eC (.int 2)))) (bOr (bNot (bV (eCall g_is_name (aCons (e2 fIxA (eVar 4) (eC (.int 0))) aNil)))) (bNot (bV (eCall g_is_amount (aCons (e2 fIxA (eVar 4) (eC (.int 1))) aNil)))))))
    kNever
    kNil)
noncomputable def t_Purses___init___3 : TF := (kIf (bV (e2 fInA (e2 fIxA (eVar 4) (eC (.int 0))) (eVar 2)))
    kNever
    kNil)
noncomputable def b_Purses___init___4 : TF := (kSeq t_Purses___init___2
    (kSeq t_Purses___init___3
    (kDPut (eVar 2) (e2 fIxA (eVar 4) (eC (.int 0))) (e2 fIxA (eVar 4) (eC (.int 1))))))
noncomputable def t_Purses___init___5 : TF := (kFor (iEnumF (aCons (eVar 1) aNil)) (gTupF 2 (gConsF (gN 3) (gConsF (gN 4) gNilF))) b_Purses___init___4 [3, 4])
noncomputable def t_Purses___init__ : TF := (kSeq t_Purses___init___1
    (kSeq (kAsg eDnewKP (gN 2))
    (kSeq t_Purses___init___5
    (kFld "Purses" "table" (eVar 0) (eFrz (eVar 2))))))
noncomputable def g_Purses___init__ : List D → Mem → Res D := runF 2 3 t_Purses___init__
theorem q_Purses___init__ {P : Program} {w : World} {K : PySem.W.Frag} {mg : Str → Option Value} {base : Heap} (T : Tx K mg) : HasC P w K mg base 3 "Purses" ["self", "items"] g_Purses___init__ :=
  T.r_Purses___init__.has sc_Purses___init__ rfl fun f cdv A outer s H E hr => (qs_cons (qif (qt_w (qw_or (qt_not (qt_val (qisT (by decide) (by rfl) T.b_isinstance (qv 1) (by rfl) T.b_list (by decide +kernel)))) (qw_or1 (tGt' (qlenA (by rfl) T.b_len (qa_cons (qv 1) qa_nil)) (qgI (i := 24) (by rfl) T.c_MOST_PLAYERS))))) (qs_one qnever) qs_nil)
    (qs_cons (qset (i := 2) sc_Purses___init__.nd rfl qdnewKP)
    (qs_cons (qfor (vs := [3, 4]) passesQ rfl (qi_enum (by rfl) T.b_enumerate (qa_cons (qv 1) qa_nil)) (qg_tup rfl (qgs_cons (qg_name (i := 3) sc_Purses___init__.nd rfl) (qgs_cons (qg_name (i := 4) sc_Purses___init__.nd rfl) qgs_nil))) (qs_cons (qif (qt_w (qw_or (qt_not (qt_val (qisT (by decide) (by rfl) T.b_isinstance (qv 4) (by rfl) T.b_tuple (by decide +kernel)))) (qw_or (tNe hr.units (qlenA (by rfl) T.b_len (qa_cons (qv 4) qa_nil)) qint) (qw_or (qt_not (qt_val (qcall (q_is_name T) (hr.mono (by decide)) takesQ (by rfl) (qa_cons (qixA hr.units (qv 4) qint) qa_nil)))) (qw_or1 (qt_not (qt_val (qcall (q_is_amount T) (hr.mono (by decide)) takesQ (by rfl) (qa_cons (qixA hr.units (qv 4) qint) qa_nil))))))))) (qs_one qnever) qs_nil)
    (qs_cons (qif (tinA hr.units (qixA hr.units (qv 4) qint) (qv 2)) (qs_one qnever) qs_nil)
    (qs_one (qdput (un1 hr.units) (qv 2) (qixA hr.units (qv 4) qint) (qixA hr.units (qv 4) qint))))))
    (qs_one (qsfld T.m_Purses T.k_Purses T.n_Purses_table (qv 0) (qfrz (qv 2)))))))
/-! _law_shuffled -/
def N__law_shuffled : List Str := ["_law_hand_here", "_law_some", "_law_left", "_law_found"]
theorem sc__law_shuffled : FnScope N__law_shuffled ["_law_hand_here", "_law_some"] (defScope s__law_shuffled) := ⟨rfl, rfl, rfl, by decide +kernel, rfl, by decide +kernel, by decide +kernel⟩
noncomputable def b__law_shuffled_1 : TF := (kDrop (eApp (eVar 3) (ePopI (eVar 2) (eCall g__law_draw (aCons (eVar 0) (aCons (eCall bLenA (aCons (eVar 2) aNil)) aNil))))))
noncomputable def t__law_shuffled_2 : TF := (kWhile (bV (e2 fNeA (eVar 2) (eLst aNil))) b__law_shuffled_1 [])
noncomputable def t__law_shuffled : TF := (kSeq (kAsg (eCall bListP (aCons (eVar 1) aNil)) (gN 2))
    (kSeq (kAsg (eLstP aNil) (gN 3))
    (kSeq t__law_shuffled_2
    (kRet (eVar 3)))))
noncomputable def g__law_shuffled : List D → Mem → Res D := runF 2 2 t__law_shuffled
theorem q__law_shuffled {P : Program} {w : World} {K : PySem.W.Frag} {mg : Str → Option Value} {base : Heap} (T : Tx K mg) : Has P w K mg base 4 "_law_shuffled" ["_law_hand_here", "_law_some"] g__law_shuffled :=
  T.r__law_shuffled.has sc__law_shuffled rfl fun f cdv A outer s H E hr => (qs_cons (qset (i := 2) sc__law_shuffled.nd rfl (qlistP (by rfl) T.b_list (qa_cons (qv 1) qa_nil)))
    (qs_cons (qset (i := 3) sc__law_shuffled.nd rfl (qlstP qa_nil))
    (qs_cons (qwhile (vs := []) passesQ (tNeA hr.units (qv 2) (qlst qa_nil)) (qs_one (qexpr (qapp (qv 3) (qpopI (qv 2) (qcall (q__law_draw T) (hr.mono (by decide)) takesQ (by rfl) (qa_cons (qv 0) (qa_cons (qlenA (by rfl) T.b_len (qa_cons (qv 2) qa_nil)) qa_nil))))))))
    (qs_one (qret (qv 3))))))
/-! _law_purses -/
def N__law_purses : List Str := ["_law_hand_here", "_law_tickets", "_law_name", "_law_many"]
theorem sc__law_purses : FnScope N__law_purses ["_law_hand_here", "_law_tickets"] (defScope s__law_purses) := ⟨rfl, rfl, rfl, by decide +kernel, rfl, by decide +kernel, by decide +kernel⟩
noncomputable def e__law_purses_1 : EF := (eLc (iItemsF (eVar 1)) (gTupF 2 (gConsF (gN 2) (gConsF (gN 3) gNilF))) bYes (eTup (aCons (eVar 2) (aCons (eVar 3) aNil))) [2, 3])
noncomputable def t__law_purses : TF := (kRet (eFrz (eMake "Purses" g_Purses___init__ (aCons (eFrz (eCall g__law_shuffled (aCons (eVar 0) (aCons e__law_purses_1 aNil)))) aNil))))
noncomputable def g__law_purses : List D → Mem → Res D := runF 2 2 t__law_purses
theorem q__law_purses {P : Program} {w : World} {K : PySem.W.Frag} {mg : Str → Option Value} {base : Heap} (T : Tx K mg) : Has P w K mg base 5 "_law_purses" ["_law_hand_here", "_law_tickets"] g__law_purses :=
  T.r__law_purses.has sc__law_purses rfl fun f cdv A outer s H E hr => (qs_one (qret (qfrz (qmake (q_Purses___init__ T) (hr.mono (by decide)) takesQ (by rfl) (qa_cons (qfrz (qcall (q__law_shuffled T) (hr.mono (by decide)) takesQ (by rfl) (qa_cons (qv 0) (qa_cons (qlc (own := [("_law_name", 2), ("_law_many", 3)]) rfl sc__law_purses.nd (qi_items (qv 1)) (blkOk_by (own := [("_law_name", 2), ("_law_many", 3)]) (N := N__law_purses) (sc := defScope s__law_purses) (by decide +kernel)) (fun _ _ _ _ _ => (qv_tup rfl (qvs_cons (qv_name (i := 2) sc__law_purses.nd rfl (by decide)) (qvs_cons (qv_name (i := 3) sc__law_purses.nd rfl (by decide)) qvs_nil)))) (fun _ _ _ _ _ => qts_nil) (fun _ _ _ _ _ => (qtup (qa_cons (qv 2) (qa_cons (qv 3) qa_nil))))) qa_nil)))) qa_nil)))))
/-! pair_of -/
def N_pair_of : List Str := ["one", "other"]
theorem sc_pair_of : FnScope N_pair_of ["one", "other"] (defScope s_pair_of) := ⟨rfl, rfl, rfl, by decide +kernel, rfl, by decide +kernel, by decide +kernel⟩
noncomputable def t_pair_of : TF := (kRet (eTup (aCons (eCall bMin2A (aCons (eVar 0) (aCons (eVar 1) aNil))) (aCons (eCall bMax2A (aCons (eVar 0) (aCons (eVar 1) aNil))) aNil))))
noncomputable def g_pair_of : List D → Mem → Res D := runF 2 0 t_pair_of
theorem q_pair_of {P : Program} {w : World} {K : PySem.W.Frag} {mg : Str → Option Value} {base : Heap} (T : Tx K mg) : Has P w K mg base 1 "pair_of" ["one", "other"] g_pair_of :=
  T.r_pair_of.has sc_pair_of rfl fun f cdv A outer s H E hr => (qs_one (qret (qtup (qa_cons (qmin2A rfl (by rfl) T.b_min (qa_cons (qv 0) (qa_cons (qv 1) qa_nil))) (qa_cons (qmax2A rfl (by rfl) T.b_max (qa_cons (qv 0) (qa_cons (qv 1) qa_nil))) qa_nil)))))
/-! is_count -/
def N_is_count : List Str := ["thing"]
theorem sc_is_count : FnScope N_is_count ["thing"] (defScope s_is_count) := ⟨rfl, rfl, rfl, by decide +kernel, rfl, by decide +kernel, by decide +kernel⟩
noncomputable def t_is_count : TF := (kRet (eAnd (eCall g_is_integer (aCons (eVar 0) aNil)) (e3 fLe fLe (eC (.int 1)) (eVar 0) (eC (.int 1000000000000000000000000)))))
noncomputable def g_is_count : List D → Mem → Res D := runF 1 0 t_is_count
theorem q_is_count {P : Program} {w : World} {K : PySem.W.Frag} {mg : Str → Option Value} {base : Heap} (T : Tx K mg) : Has P w K mg base 2 "is_count" ["thing"] g_is_count :=
  T.r_is_count.has sc_is_count rfl fun f cdv A outer s H E hr => (qs_one (qret (q_and (qcall (q_is_integer T) (hr.mono (by decide)) takesQ (by rfl) (qa_cons (qv 0) qa_nil)) (q_one (qchain op_le op_le r2_cmp r2_cmp qint (qv 0) (qgI (i := 1000000000000000000000000) (by rfl) T.c_MOST_TIMES))))))
/-! is_run -/
def N_is_run : List Str := ["thing"]
theorem sc_is_run : FnScope N_is_run ["thing"] (defScope s_is_run) := ⟨rfl, rfl, rfl, by decide +kernel, rfl, by decide +kernel, by decide +kernel⟩
noncomputable def t_is_run_1 : TF := (kIf (bOr (bNot (bV (eIsT "tuple" (eVar 0)))) (bOr (bV (e2 fNe (eCall bLenA (aCons (eVar 0) aNil)) (eC (.int 3)))) (bOr (bNot (bV (eCall g_is_name (aCons (e2 fIxA (eVar 0) (eC (.int 0))) aNil)))) (bNot (bV (eCall g_is_name (aCons (e2 fIxA (eVar 0) (eC (.int 1))) aNil)))))))
    (kRet (eC (.bl false)))
    kNil)
noncomputable def t_is_run : TF := (kSeq t_is_run_1
    (kRet (eAnd (e2 fNe (e2 fIxA (eVar 0) (eC (.int 0))) (e2 fIxA (eVar 0) (eC (.int 1)))) (eCall g_is_count (aCons (e2 fIxA (eVar 0) (eC (.int 2))) aNil)))))
noncomputable def g_is_run : List D → Mem → Res D := runF 1 0 t_is_run
theorem q_is_run {P : Program} {w : World} {K : PySem.W.Frag} {mg : Str → Option Value} {base : Heap} (T : Tx K mg) : Has P w K mg base 3 "is_run" ["thing"] g_is_run :=
  T.r_is_run.has sc_is_run rfl fun f cdv A outer s H E hr => (qs_cons (qif (qt_w (qw_or (qt_not (qt_val (qisT (by decide) (by rfl) T.b_isinstance (qv 0) (by rfl) T.b_tuple (by decide +kernel)))) (qw_or (tNe hr.units (qlenA (by rfl) T.b_len (qa_cons (qv 0) qa_nil)) qint) (qw_or (qt_not (qt_val (qcall (q_is_name T) (hr.mono (by decide)) takesQ (by rfl) (qa_cons (qixA hr.units (qv 0) qint) qa_nil)))) (qw_or1 (qt_not (qt_val (qcall (q_is_name T) (hr.mono (by decide)) takesQ (by rfl) (qa_cons (qixA hr.units (qv 0) qint) qa_nil))))))))) (qs_one (qret qbl)) qs_nil)
    (qs_one (qret (q_and (qne hr.units (qixA hr.units (qv 0) qint) (qixA hr.units (qv 0) qint)) (q_one (qcall (q_is_count T) (hr.mono (by decide)) takesQ (by rfl) (qa_cons (qixA hr.units (qv 0) qint) qa_nil)))))))
/-! Lot.__init__ -/
def N_Lot___init__ : List Str := ["self", "items", "table", "at", "item", "pair"]
theorem sc_Lot___init__ : FnScope N_Lot___init__ ["self", "items"] (defScope s_Lot___init__) := ⟨rfl, rfl, rfl, by decide +kernel, rfl, by decide +kernel, by decide +kernel⟩
noncomputable def t_Lot___init___1 : TF := (kIf (bOr (bNot (bV (eIsT "list" (eVar 1)))) (bV (e2 fGt (eCall bLenA (aCons (eVar 1) aNil)) (eC (.int 500)))))
    kNever
    kNil)
noncomputable def t_Lot___init___2 : TF := (kIf (bNot (bV (eCall g_is_run (aCons (eVar 4) aNil))))
    kNever
    kNil)
noncomputable def t_Lot___init___3 : TF := (kIf (bV (e2 fGt (e2 fIxA (eVar 2) (eVar 5)) (eC (.int 1000000000000000000000000))))
    kNever
    kNil)
noncomputable def b_Lot___init___4 : TF := (kSeq t_Lot___init___2
    (kSeq (kAsg (eCall g_pair_of (aCons (e2 fIxA (eVar 4) (eC (.int 0))) (aCons (e2 fIxA (eVar 4) (eC (.int 1))) aNil))) (gN 5))
    (kSeq (kDPut (eVar 2) (eVar 5) (e2 fAdd (eGet2 (eVar 2) (eVar 5) (eC (.int 0))) (e2 fIxA (eVar 4) (eC (.int 2)))))
    t_Lot___init___3)))
noncomputable def t_Lot___init___5 : TF := (kFor (iEnumF (aCons (eVar 1) aNil)) (gTupF 2 (gConsF (gN 3) (gConsF (gN 4) gNilF))) b_Lot___init___4 [3, 4, 5])
noncomputable def t_Lot___init__ : TF := (kSeq t_Lot___init___1
    (kSeq (kAsg eDnewTP (gN 2))
    (kSeq t_Lot___init___5
    (kFld "Lot" "table" (eVar 0) (eFrz (eVar 2))))))
noncomputable def g_Lot___init__ : List D → Mem → Res D := runF 2 4 t_Lot___init__
theorem q_Lot___init__ {P : Program} {w : World} {K : PySem.W.Frag} {mg : Str → Option Value} {base : Heap} (T : Tx K mg) : HasC P w K mg base 4 "Lot" ["self", "items"] g_Lot___init__ :=
  T.r_Lot___init__.has sc_Lot___init__ rfl fun f cdv A outer s H E hr => (qs_cons (qif (qt_w (qw_or (qt_not (qt_val (qisT (by decide) (by rfl) T.b_isinstance (qv 1) (by rfl) T.b_list (by decide +kernel)))) (qw_or1 (tGt' (qlenA (by rfl) T.b_len (qa_cons (qv 1) qa_nil)) (qgI (i := 500) (by rfl) T.c_MOST_ITEMS))))) (qs_one qnever) qs_nil)
    (qs_cons (qset (i := 2) sc_Lot___init__.nd rfl qdnewTP)
    (qs_cons (qfor (vs := [3, 4, 5]) passesQ rfl (qi_enum (by rfl) T.b_enumerate (qa_cons (qv 1) qa_nil)) (qg_tup rfl (qgs_cons (qg_name (i := 3) sc_Lot___init__.nd rfl) (qgs_cons (qg_name (i := 4) sc_Lot___init__.nd rfl) qgs_nil))) (qs_cons (qif (qt_not (qt_val (qcall (q_is_run T) (hr.mono (by decide)) takesQ (by rfl) (qa_cons (qv 4) qa_nil)))) (qs_one qnever) qs_nil)
    (qs_cons (qset (i := 5) sc_Lot___init__.nd rfl (qcall (q_pair_of T) (hr.mono (by decide)) takesQ (by rfl) (qa_cons (qixA hr.units (qv 4) qint) (qa_cons (qixA hr.units (qv 4) qint) qa_nil))))
    (qs_cons (qdput (un1 hr.units) (qv 2) (qv 5) (qadd (qget2 (un1 hr.units) (qv 2) (qv 5) qint) (qixA hr.units (qv 4) qint)))
    (qs_one (qif (tGt' (qixA hr.units (qv 2) (qv 5)) (qgI (i := 1000000000000000000000000) (by rfl) T.c_MOST_TIMES)) (qs_one qnever) qs_nil))))))
    (qs_one (qsfld T.m_Lot T.k_Lot T.n_Lot_table (qv 0) (qfrz (qv 2)))))))
/-! _law_lot -/
def N__law_lot : List Str := ["_law_hand_here", "_law_items", "_law_turned", "_law_one", "_law_other", "_law_many"]
theorem sc__law_lot : FnScope N__law_lot ["_law_hand_here", "_law_items"] (defScope s__law_lot) := ⟨rfl, rfl, rfl, by decide +kernel, rfl, by decide +kernel, by decide +kernel⟩
noncomputable def e__law_lot_1 : EF := (eLc (iSeq (eVar 1)) (gTupF 3 (gConsF (gN 3) (gConsF (gN 4) (gConsF (gN 5) gNilF)))) bYes (e2 fIxA (eLst (aCons (eTup (aCons (eVar 3) (aCons (eVar 4) (aCons (eVar 5) aNil)))) (aCons (eTup (aCons (eVar 4) (aCons (eVar 3) (aCons (eVar 5) aNil)))) aNil))) (eCall g__law_draw (aCons (eVar 0) (aCons (eC (.int 2)) aNil)))) [3, 4, 5])
noncomputable def t__law_lot : TF := (kSeq (kAsg e__law_lot_1 (gN 2))
    (kRet (eFrz (eMake "Lot" g_Lot___init__ (aCons (eFrz (eCall g__law_shuffled (aCons (eVar 0) (aCons (eVar 2) aNil)))) aNil)))))
noncomputable def g__law_lot : List D → Mem → Res D := runF 2 4 t__law_lot
theorem q__law_lot {P : Program} {w : World} {K : PySem.W.Frag} {mg : Str → Option Value} {base : Heap} (T : Tx K mg) : Has P w K mg base 6 "_law_lot" ["_law_hand_here", "_law_items"] g__law_lot :=
  T.r__law_lot.has sc__law_lot rfl fun f cdv A outer s H E hr => (qs_cons (qsetLc (i := 2) (own := [("_law_one", 3), ("_law_other", 4), ("_law_many", 5)]) (.inl rfl) rfl sc__law_lot.nd rfl rfl (by rfl) (qi_list (qv 1)) (blkOk_by (own := [("_law_one", 3), ("_law_other", 4), ("_law_many", 5)]) (N := N__law_lot) (sc := defScope s__law_lot) (by decide +kernel)) (fun _ _ _ _ _ => (qv_tup rfl (qvs_cons (qv_name (i := 3) sc__law_lot.nd rfl (by decide)) (qvs_cons (qv_name (i := 4) sc__law_lot.nd rfl (by decide)) (qvs_cons (qv_name (i := 5) sc__law_lot.nd rfl (by decide)) qvs_nil))))) (fun _ _ _ _ _ => qts_nil) (fun _ _ _ _ _ => (qixA hr.units (qlst (qa_cons (qtup (qa_cons (qv 3) (qa_cons (qv 4) (qa_cons (qv 5) qa_nil)))) (qa_cons (qtup (qa_cons (qv 4) (qa_cons (qv 3) (qa_cons (qv 5) qa_nil)))) qa_nil))) (qcall (q__law_draw T) (hr.mono (by decide)) takesB (by rfl) (qa_cons (qv 0) (qa_cons qint qa_nil))))))
    (qs_one (qret (qfrz (qmake (q_Lot___init__ T) (hr.mono (by decide)) takesQ (by rfl) (qa_cons (qfrz (qcall (q__law_shuffled T) (hr.mono (by decide)) takesQ (by rfl) (qa_cons (qv 0) (qa_cons (qv 2) qa_nil)))) qa_nil))))))
/-! _law_lines -/
def N__law_lines : List Str := ["_law_rows", "_law_row", "_law_part"]
theorem sc__law_lines : FnScope N__law_lines ["_law_rows"] (defScope s__law_lines) := ⟨rfl, rfl, rfl, by decide +kernel, rfl, by decide +kernel, by decide +kernel⟩
noncomputable def e__law_lines_1 : EF := (eLc (iTupF (eVar 1)) (gN 2) bYes (eCall bStrX (aCons (eVar 2) aNil)) [2])
noncomputable def e__law_lines_2 : EF := (eLc (iSeq (eVar 0)) (gN 1) bYes (eJoin (eC (.str " ")) e__law_lines_1) [1])
noncomputable def t__law_lines : TF := (kRet (eJoin (eC (.str "\n")) e__law_lines_2))
noncomputable def g__law_lines : List D → Mem → Res D := runF 1 2 t__law_lines
theorem q__law_lines {P : Program} {w : World} {K : PySem.W.Frag} {mg : Str → Option Value} {base : Heap} (T : Tx K mg) : Has P w K mg base 1 "_law_lines" ["_law_rows"] g__law_lines :=
  T.r__law_lines.has sc__law_lines rfl fun f cdv A outer s H E hr => (qs_one (qret (qjoin qstr (qlc (own := [("_law_row", 1)]) rfl sc__law_lines.nd (qi_list (qv 0)) (blkOk_by (own := [("_law_row", 1)]) (N := N__law_lines) (sc := defScope s__law_lines) (by decide +kernel)) (fun _ _ _ _ _ => (qv_name (i := 1) sc__law_lines.nd rfl (by decide))) (fun _ _ _ _ _ => qts_nil) (fun _ _ _ _ _ => (qjoin qstr (qlc (own := [("_law_part", 2)]) rfl sc__law_lines.nd (qi_tup (qv 1)) (relabOk (blkOk_by (own := [("_law_part", 2)]) (N := N__law_lines) (sc := ({ kind := .function, names := [(".0", .local), ("_law_row", .local)], isGenerator := false, isCoroutine := false, more := [] } : Scope)) (by decide +kernel))) (fun _ _ _ _ _ => (qv_name (i := 2) sc__law_lines.nd rfl (by decide))) (fun _ _ _ _ _ => qts_nil) (fun _ _ _ _ _ => (qstrX (by rfl) T.b_str (qa_cons (qv 2) qa_nil))))))))))
/-! show_rows -/
def N_show_rows : List Str := ["rows", "row", "part"]
theorem sc_show_rows : FnScope N_show_rows ["rows"] (defScope s_show_rows) := ⟨rfl, rfl, rfl, by decide +kernel, rfl, by decide +kernel, by decide +kernel⟩
noncomputable def e_show_rows_1 : EF := (eLc (iTupF (eVar 1)) (gN 2) bYes (eCall bStrX (aCons (eVar 2) aNil)) [2])
noncomputable def e_show_rows_2 : EF := (eLc (iSeq (eVar 0)) (gN 1) bYes (eJoin (eC (.str " ")) e_show_rows_1) [1])
noncomputable def t_show_rows : TF := (kRet (eJoin (eC (.str "\n")) e_show_rows_2))
noncomputable def g_show_rows : List D → Mem → Res D := runF 1 2 t_show_rows
theorem q_show_rows {P : Program} {w : World} {K : PySem.W.Frag} {mg : Str → Option Value} {base : Heap} (T : Tx K mg) : Has P w K mg base 1 "show_rows" ["rows"] g_show_rows :=
  T.r_show_rows.has sc_show_rows rfl fun f cdv A outer s H E hr => (qs_one (qret (qjoin qstr (qlc (own := [("row", 1)]) rfl sc_show_rows.nd (qi_list (qv 0)) (blkOk_by (own := [("row", 1)]) (N := N_show_rows) (sc := defScope s_show_rows) (by decide +kernel)) (fun _ _ _ _ _ => (qv_name (i := 1) sc_show_rows.nd rfl (by decide))) (fun _ _ _ _ _ => qts_nil) (fun _ _ _ _ _ => (qjoin qstr (qlc (own := [("part", 2)]) rfl sc_show_rows.nd (qi_tup (qv 1)) (relabOk (blkOk_by (own := [("part", 2)]) (N := N_show_rows) (sc := ({ kind := .function, names := [(".0", .local), ("row", .local)], isGenerator := false, isCoroutine := false, more := [] } : Scope)) (by decide +kernel))) (fun _ _ _ _ _ => (qv_name (i := 2) sc_show_rows.nd rfl (by decide))) (fun _ _ _ _ _ => qts_nil) (fun _ _ _ _ _ => (qstrX (by rfl) T.b_str (qa_cons (qv 2) qa_nil))))))))))
/-! Purses.entries -/
def N_Purses_entries : List Str := ["self", "player"]
theorem sc_Purses_entries : FnScope N_Purses_entries ["self"] (defScope s_Purses_entries) := ⟨rfl, rfl, rfl, by decide +kernel, rfl, by decide +kernel, by decide +kernel⟩
noncomputable def e_Purses_entries_1 : EF := (eLc (iSeq (eCall bSortB (aCons (eFld "Purses" "table" (eVar 0)) aNil))) (gN 1) bYes (eTup (aCons (eVar 1) (aCons (e2 fIxA (eFld "Purses" "table" (eVar 0)) (eVar 1)) aNil))) [1])
noncomputable def t_Purses_entries : TF := (kRet e_Purses_entries_1)
noncomputable def g_Purses_entries : List D → Mem → Res D := runF 1 1 t_Purses_entries
theorem q_Purses_entries {P : Program} {w : World} {K : PySem.W.Frag} {mg : Str → Option Value} {base : Heap} (T : Tx K mg) : HasM P w K mg base 1 "Purses" "entries" ["self"] g_Purses_entries :=
  T.r_Purses_entries.has sc_Purses_entries rfl fun f cdv A outer s H E hr => (qs_one (qret (qlc (own := [("player", 1)]) rfl sc_Purses_entries.nd (qi_list (qsortB rfl (by rfl) T.b_sorted (qa_cons (qfld T.m_Purses T.k_Purses T.n_Purses_table (qv 0)) qa_nil))) (blkOk_by (own := [("player", 1)]) (N := N_Purses_entries) (sc := defScope s_Purses_entries) (by decide +kernel)) (fun _ _ _ _ _ => (qv_name (i := 1) sc_Purses_entries.nd rfl (by decide))) (fun _ _ _ _ _ => qts_nil) (fun _ _ _ _ _ => (qtup (qa_cons (qv 1) (qa_cons (qixA hr.units (qfld T.m_Purses T.k_Purses T.n_Purses_table (qv 0)) (qv 1)) qa_nil)))))))
/-! show_purses -/
def N_show_purses : List Str := ["purses"]
theorem sc_show_purses : FnScope N_show_purses ["purses"] (defScope s_show_purses) := ⟨rfl, rfl, rfl, by decide +kernel, rfl, by decide +kernel, by decide +kernel⟩
noncomputable def t_show_purses : TF := (kRet (eCall g_show_rows (aCons (eMeth "Purses" "entries" g_Purses_entries (eVar 0) aNil) aNil)))
noncomputable def g_show_purses : List D → Mem → Res D := runF 1 0 t_show_purses
theorem q_show_purses {P : Program} {w : World} {K : PySem.W.Frag} {mg : Str → Option Value} {base : Heap} (T : Tx K mg) : Has P w K mg base 2 "show_purses" ["purses"] g_show_purses :=
  T.r_show_purses.has sc_show_purses rfl fun f cdv A outer s H E hr => (qs_one (qret (qcall (q_show_rows T) (hr.mono (by decide)) takesQ (by rfl) (qa_cons (qmeth0 (q_Purses_entries T) T.m_Purses T.k_Purses (hr.mono (by decide)) takesQ (qv 0)) qa_nil))))
/-! Lot.entries -/
def N_Lot_entries : List Str := ["self", "pair"]
theorem sc_Lot_entries : FnScope N_Lot_entries ["self"] (defScope s_Lot_entries) := ⟨rfl, rfl, rfl, by decide +kernel, rfl, by decide +kernel, by decide +kernel⟩
noncomputable def e_Lot_entries_1 : EF := (eLc (iSeq (eCall bSortB (aCons (eFld "Lot" "table" (eVar 0)) aNil))) (gN 1) bYes (eTup (aCons (e2 fIxA (eVar 1) (eC (.int 0))) (aCons (e2 fIxA (eVar 1) (eC (.int 1))) (aCons (e2 fIxA (eFld "Lot" "table" (eVar 0)) (eVar 1)) aNil)))) [1])
noncomputable def t_Lot_entries : TF := (kRet e_Lot_entries_1)
noncomputable def g_Lot_entries : List D → Mem → Res D := runF 1 1 t_Lot_entries
theorem q_Lot_entries {P : Program} {w : World} {K : PySem.W.Frag} {mg : Str → Option Value} {base : Heap} (T : Tx K mg) : HasM P w K mg base 1 "Lot" "entries" ["self"] g_Lot_entries :=
  T.r_Lot_entries.has sc_Lot_entries rfl fun f cdv A outer s H E hr => (qs_one (qret (qlc (own := [("pair", 1)]) rfl sc_Lot_entries.nd (qi_list (qsortB rfl (by rfl) T.b_sorted (qa_cons (qfld T.m_Lot T.k_Lot T.n_Lot_table (qv 0)) qa_nil))) (blkOk_by (own := [("pair", 1)]) (N := N_Lot_entries) (sc := defScope s_Lot_entries) (by decide +kernel)) (fun _ _ _ _ _ => (qv_name (i := 1) sc_Lot_entries.nd rfl (by decide))) (fun _ _ _ _ _ => qts_nil) (fun _ _ _ _ _ => (qtup (qa_cons (qixA hr.units (qv 1) qint) (qa_cons (qixA hr.units (qv 1) qint) (qa_cons (qixA hr.units (qfld T.m_Lot T.k_Lot T.n_Lot_table (qv 0)) (qv 1)) qa_nil))))))))
/-! show_lot -/
def N_show_lot : List Str := ["lot"]
theorem sc_show_lot : FnScope N_show_lot ["lot"] (defScope s_show_lot) := ⟨rfl, rfl, rfl, by decide +kernel, rfl, by decide +kernel, by decide +kernel⟩
noncomputable def t_show_lot : TF := (kRet (eCall g_show_rows (aCons (eMeth "Lot" "entries" g_Lot_entries (eVar 0) aNil) aNil)))
noncomputable def g_show_lot : List D → Mem → Res D := runF 1 0 t_show_lot
theorem q_show_lot {P : Program} {w : World} {K : PySem.W.Frag} {mg : Str → Option Value} {base : Heap} (T : Tx K mg) : Has P w K mg base 2 "show_lot" ["lot"] g_show_lot :=
  T.r_show_lot.has sc_show_lot rfl fun f cdv A outer s H E hr => (qs_one (qret (qcall (q_show_rows T) (hr.mono (by decide)) takesQ (by rfl) (qa_cons (qmeth0 (q_Lot_entries T) T.m_Lot T.k_Lot (hr.mono (by decide)) takesQ (qv 0)) qa_nil))))
/-! show_timetable -/
def N_show_timetable : List Str := ["timetable"]
theorem sc_show_timetable : FnScope N_show_timetable ["timetable"] (defScope s_show_timetable) := ⟨rfl, rfl, rfl, by decide +kernel, rfl, by decide +kernel, by decide +kernel⟩
noncomputable def t_show_timetable : TF := (kRet (eCall g_show_rows (aCons (eVar 0) aNil)))
noncomputable def g_show_timetable : List D → Mem → Res D := runF 1 0 t_show_timetable
theorem q_show_timetable {P : Program} {w : World} {K : PySem.W.Frag} {mg : Str → Option Value} {base : Heap} (T : Tx K mg) : Has P w K mg base 2 "show_timetable" ["timetable"] g_show_timetable :=
  T.r_show_timetable.has sc_show_timetable rfl fun f cdv A outer s H E hr => (qs_one (qret (qcall (q_show_rows T) (hr.mono (by decide)) takesQ (by rfl) (qa_cons (qv 0) qa_nil))))
/-! _law_alike -/
def N__law_alike : List Str := ["_law_found", "_law_due"]
theorem sc__law_alike : FnScope N__law_alike ["_law_found", "_law_due"] (defScope s__law_alike) := ⟨rfl, rfl, rfl, by decide +kernel, rfl, by decide +kernel, by decide +kernel⟩
noncomputable def t__law_alike : TF := (kRet (eAnd (e2 fEqZ (eVar 0) (eVar 1)) (e2 fEqZ (eCall bReprZ (aCons (eVar 0) aNil)) (eCall bReprZ (aCons (eVar 1) aNil)))))
noncomputable def g__law_alike : List D → Mem → Res D := runF 2 0 t__law_alike
theorem q__law_alike {P : Program} {w : World} {K : PySem.W.Frag} {mg : Str → Option Value} {base : Heap} (T : Tx K mg) : Has P w K mg base 1 "_law_alike" ["_law_found", "_law_due"] g__law_alike :=
  T.r__law_alike.has sc__law_alike rfl fun f cdv A outer s H E hr => (qs_one (qret (q_and (qeqZ hr.units (qv 0) (qv 1)) (q_one (qeqZ hr.units (qreprZ hr.gd hr.units (by rfl) T.b_repr (qa_cons (qv 0) qa_nil)) (qreprZ hr.gd hr.units (by rfl) T.b_repr (qa_cons (qv 1) qa_nil)))))))
/-! read_number -/
def N_read_number : List Str := ["word", "sign"]
theorem sc_read_number : FnScope N_read_number ["word"] (defScope s_read_number) := ⟨rfl, rfl, rfl, by decide +kernel, rfl, by decide +kernel, by decide +kernel⟩
noncomputable def e_read_number_1 : EF := (eLc (iStrF (eVar 0)) (gN 1) bYes (e2 fInA (eVar 1) (eC (.str "0123456789"))) [1])
noncomputable def t_read_number_2 : TF := (kIf (bOr (bV (e2 fEqA (eVar 0) (eC (.str "")))) (bOr (bV (e2 fGt (eCall bLenA (aCons (eVar 0) aNil)) (eC (.int 40)))) (bNot (bV (eCall bAll (aCons e_read_number_1 aNil))))))
    (kRet (eC .non))
    kNil)
noncomputable def t_read_number : TF := (kSeq t_read_number_2
    (kRet (eIf (bOr (bV (e2 fEqA (eVar 0) (eC (.str "0")))) (bV (e2 fNe (e2 fIxA (eVar 0) (eC (.int 0))) (eC (.str "0"))))) (eCall bIntX (aCons (eVar 0) aNil)) (eC .non))))
noncomputable def g_read_number : List D → Mem → Res D := runF 1 1 t_read_number
theorem q_read_number {P : Program} {w : World} {K : PySem.W.Frag} {mg : Str → Option Value} {base : Heap} (T : Tx K mg) : Has P w K mg base 1 "read_number" ["word"] g_read_number :=
  T.r_read_number.has sc_read_number rfl fun f cdv A outer s H E hr => (qs_cons (qif (qt_w (qw_or (tEqA hr.units (qv 0) qstr) (qw_or (tGt' (qlenA (by rfl) T.b_len (qa_cons (qv 0) qa_nil)) (qgI (i := 40) (by rfl) T.c_MOST_DIGITS)) (qw_or1 (qt_not (qt_val (qall rfl (by rfl) T.b_all (qa_cons (qlc (own := [("sign", 1)]) rfl sc_read_number.nd (qi_str (qv 0)) (blkOk_by (own := [("sign", 1)]) (N := N_read_number) (sc := defScope s_read_number) (by decide +kernel)) (fun _ _ _ _ _ => (qv_name (i := 1) sc_read_number.nd rfl (by decide))) (fun _ _ _ _ _ => qts_nil) (fun _ _ _ _ _ => (qinA hr.units (qv 1) (qgS (by rfl) T.c_DIGITS)))) qa_nil)))))))) (qs_one (qret qnon)) qs_nil)
    (qs_one (qret (q_if (qt_w (qw_or (tEqA hr.units (qv 0) qstr) (qw_or1 (tNe hr.units (qixA hr.units (qv 0) qint) qstr)))) (qintX (by rfl) T.b_int (qa_cons (qv 0) qa_nil)) qnon))))
/-! read_rows -/
def N_read_rows : List Str := ["text", "width", "rows", "found", "row"]
theorem sc_read_rows : FnScope N_read_rows ["text", "width"] (defScope s_read_rows) := ⟨rfl, rfl, rfl, by decide +kernel, rfl, by decide +kernel, by decide +kernel⟩
noncomputable def t_read_rows_1 : TF := (kIf (bNot (bV (eIsT "str" (eVar 0))))
    kNever
    kNil)
noncomputable def t_read_rows_2 : TF := (kIf (bV (e2 fEqA (eVar 0) (eC (.str ""))))
    (kRet (eLstP aNil))
    kNil)
noncomputable def e_read_rows_3 : EF := (eLc (iSeq (eSplit (eVar 0) (eC (.str "\n")))) (gN 4) bYes (eSplit (eVar 4) (eC (.str " "))) [4])
noncomputable def e_read_rows_4 : EF := (eLcP (iSeq (eVar 2)) (gN 4) bYes (eCall bTuple (aCons (e2 fAdd (eSl (eVar 4) oNone (oSome (eNeg (eC (.int 1))))) (eLst (aCons (eCall g_read_number (aCons (e2 fIxA (eVar 4) (eNeg (eC (.int 1)))) aNil)) aNil))) aNil)) [4])
noncomputable def e_read_rows_5 : EF := (eLc (iSeq (eVar 3)) (gN 4) bYes (eAnd (e2 fEqA (eCall bLenA (aCons (eVar 4) aNil)) (eVar 1)) (e2 fNot0 (e2 fIxA (eVar 4) (eNeg (eC (.int 1)))) (eC .non))) [4])
noncomputable def t_read_rows_6 : TF := (kIf (bNot (bV (eCall bAll (aCons e_read_rows_5 aNil))))
    kNever
    kNil)
noncomputable def t_read_rows : TF := (kSeq t_read_rows_1
    (kSeq t_read_rows_2
    (kSeq (kAsg e_read_rows_3 (gN 2))
    (kSeq (kAsg e_read_rows_4 (gN 3))
    (kSeq t_read_rows_6
    (kRet (eVar 3)))))))
noncomputable def g_read_rows : List D → Mem → Res D := runF 2 3 t_read_rows
theorem q_read_rows {P : Program} {w : World} {K : PySem.W.Frag} {mg : Str → Option Value} {base : Heap} (T : Tx K mg) : Has P w K mg base 2 "read_rows" ["text", "width"] g_read_rows :=
  T.r_read_rows.has sc_read_rows rfl fun f cdv A outer s H E hr => (qs_cons (qif (qt_not (qt_val (qisT (by decide) (by rfl) T.b_isinstance (qv 0) (by rfl) T.b_str (by decide +kernel)))) (qs_one qnever) qs_nil)
    (qs_cons (qif (tEqA hr.units (qv 0) qstr) (qs_one (qret (qlstP qa_nil))) qs_nil)
    (qs_cons (qsetLc (i := 2) (own := [("row", 4)]) (.inl rfl) rfl sc_read_rows.nd rfl rfl (by rfl) (qi_list (qsplit (qv 0) qstr)) (blkOk_by (own := [("row", 4)]) (N := N_read_rows) (sc := defScope s_read_rows) (by decide +kernel)) (fun _ _ _ _ _ => (qv_name (i := 4) sc_read_rows.nd rfl (by decide))) (fun _ _ _ _ _ => qts_nil) (fun _ _ _ _ _ => (qsplit (qv 4) qstr)))
    (qs_cons (qsetLc (i := 3) (own := [("row", 4)]) (.inr rfl) rfl sc_read_rows.nd rfl rfl (by rfl) (qi_list (qv 2)) (blkOk_by (own := [("row", 4)]) (N := N_read_rows) (sc := defScope s_read_rows) (by decide +kernel)) (fun _ _ _ _ _ => (qv_name (i := 4) sc_read_rows.nd rfl (by decide))) (fun _ _ _ _ _ => qts_nil) (fun _ _ _ _ _ => (qtuple (by rfl) T.b_tuple (qa_cons (qadd (qsl (qv 4) qo_none (qo_some (qneg qint))) (qlst (qa_cons (qcall (q_read_number T) (hr.mono (by decide)) takesB (by rfl) (qa_cons (qixA hr.units (qv 4) (qneg qint)) qa_nil)) qa_nil))) qa_nil))))
    (qs_cons (qif (qt_not (qt_val (qall rfl (by rfl) T.b_all (qa_cons (qlc (own := [("row", 4)]) rfl sc_read_rows.nd (qi_list (qv 3)) (blkOk_by (own := [("row", 4)]) (N := N_read_rows) (sc := defScope s_read_rows) (by decide +kernel)) (fun _ _ _ _ _ => (qv_name (i := 4) sc_read_rows.nd rfl (by decide))) (fun _ _ _ _ _ => qts_nil) (fun _ _ _ _ _ => (q_and (qeqA hr.units (qlenA (by rfl) T.b_len (qa_cons (qv 4) qa_nil)) (qv 1)) (q_one (qisnot (qixA hr.units (qv 4) (qneg qint)) qnon))))) qa_nil)))) (qs_one qnever) qs_nil)
    (qs_one (qret (qv 3))))))))
/-! read_timetable -/
def N_read_timetable : List Str := ["text", "rows", "row"]
theorem sc_read_timetable : FnScope N_read_timetable ["text"] (defScope s_read_timetable) := ⟨rfl, rfl, rfl, by decide +kernel, rfl, by decide +kernel, by decide +kernel⟩
noncomputable def e_read_timetable_1 : EF := (eLc (iSeq (eVar 1)) (gN 2) bYes (eCall g_is_run (aCons (eVar 2) aNil)) [2])
noncomputable def t_read_timetable_2 : TF := (kIf (bOr (bV (e2 fGt (eCall bLenA (aCons (eVar 1) aNil)) (eC (.int 1000)))) (bNot (bV (eCall bAll (aCons e_read_timetable_1 aNil)))))
    kNever
    kNil)
noncomputable def t_read_timetable : TF := (kSeq (kAsg (eCall g_read_rows (aCons (eVar 0) (aCons (eC (.int 3)) aNil))) (gN 1))
    (kSeq t_read_timetable_2
    (kRet (eVar 1))))
noncomputable def g_read_timetable : List D → Mem → Res D := runF 1 2 t_read_timetable
theorem q_read_timetable {P : Program} {w : World} {K : PySem.W.Frag} {mg : Str → Option Value} {base : Heap} (T : Tx K mg) : Has P w K mg base 4 "read_timetable" ["text"] g_read_timetable :=
  T.r_read_timetable.has sc_read_timetable rfl fun f cdv A outer s H E hr => (qs_cons (qset (i := 1) sc_read_timetable.nd rfl (qcall (q_read_rows T) (hr.mono (by decide)) takesQ (by rfl) (qa_cons (qv 0) (qa_cons qint qa_nil))))
    (qs_cons (qif (qt_w (qw_or (tGt' (qlenA (by rfl) T.b_len (qa_cons (qv 1) qa_nil)) (qgI (i := 1000) (by rfl) T.c_MOST_RUNS)) (qw_or1 (qt_not (qt_val (qall rfl (by rfl) T.b_all (qa_cons (qlc (own := [("row", 2)]) rfl sc_read_timetable.nd (qi_list (qv 1)) (blkOk_by (own := [("row", 2)]) (N := N_read_timetable) (sc := defScope s_read_timetable) (by decide +kernel)) (fun _ _ _ _ _ => (qv_name (i := 2) sc_read_timetable.nd rfl (by decide))) (fun _ _ _ _ _ => qts_nil) (fun _ _ _ _ _ => (qcall (q_is_run T) (hr.mono (by decide)) takesB (by rfl) (qa_cons (qv 2) qa_nil)))) qa_nil))))))) (qs_one qnever) qs_nil)
    (qs_one (qret (qv 1)))))
/-! read_purses -/
def N_read_purses : List Str := ["text", "found"]
theorem sc_read_purses : FnScope N_read_purses ["text"] (defScope s_read_purses) := ⟨rfl, rfl, rfl, by decide +kernel, rfl, by decide +kernel, by decide +kernel⟩
noncomputable def t_read_purses_1 : TF := (kAsg (eFrz (eMake "Purses" g_Purses___init__ (aCons (eFrz (eCall g_read_rows (aCons (eVar 0) (aCons (eC (.int 2)) aNil)))) aNil))) (gN 1))
noncomputable def t_read_purses_2 : TF := (kIf (bV (e2 fNe (eCall g_show_purses (aCons (eVar 1) aNil)) (eVar 0)))
    kNever
    kNil)
noncomputable def t_read_purses : TF := (kSeq (kTryN t_read_purses_1)
    (kSeq t_read_purses_2
    (kRet (eVar 1))))
noncomputable def g_read_purses : List D → Mem → Res D := runF 1 1 t_read_purses
theorem q_read_purses {P : Program} {w : World} {K : PySem.W.Frag} {mg : Str → Option Value} {base : Heap} (T : Tx K mg) : Has P w K mg base 5 "read_purses" ["text"] g_read_purses :=
  T.r_read_purses.has sc_read_purses rfl fun f cdv A outer s H E hr => (qs_cons (qtryN fun W' pn xe tk ps => (qs_one (qset (i := 1) sc_read_purses.nd rfl (qfrz (qmake (q_Purses___init__ T) (hr.mono (by decide)) tk (by rfl) (qa_cons (qfrz (qcall (q_read_rows T) (hr.mono (by decide)) tk (by rfl) (qa_cons (qv 0) (qa_cons qint qa_nil)))) qa_nil))))))
    (qs_cons (qif (tNe hr.units (qcall (q_show_purses T) (hr.mono (by decide)) takesQ (by rfl) (qa_cons (qv 1) qa_nil)) (qv 0)) (qs_one qnever) qs_nil)
    (qs_one (qret (qv 1)))))
/-! with_table -/
def N_with_table : List Str := ["table", "lot"]
theorem sc_with_table : FnScope N_with_table ["table"] (defScope s_with_table) := ⟨rfl, rfl, rfl, by decide +kernel, rfl, by decide +kernel, by decide +kernel⟩
noncomputable def t_with_table : TF := (kSeq (kAsg (eMake "Lot" g_Lot___init__ (aCons (eLst aNil) aNil)) (gN 1))
    (kSeq (kFld "Lot" "table" (eVar 1) (eVar 0))
    (kRet (eFrz (eVar 1)))))
noncomputable def g_with_table : List D → Mem → Res D := runF 1 1 t_with_table
theorem q_with_table {P : Program} {w : World} {K : PySem.W.Frag} {mg : Str → Option Value} {base : Heap} (T : Tx K mg) : Has P w K mg base 6 "with_table" ["table"] g_with_table :=
  T.r_with_table.has sc_with_table rfl fun f cdv A outer s H E hr => (qs_cons (qset (i := 1) sc_with_table.nd rfl (qmake (q_Lot___init__ T) (hr.mono (by decide)) takesQ (by rfl) (qa_cons (qlst qa_nil) qa_nil)))
    (qs_cons (qsfld T.m_Lot T.k_Lot T.n_Lot_table (qv 1) (qv 0))
    (qs_one (qret (qfrz (qv 1))))))
/-! read_lot -/
def N_read_lot : List Str := ["text", "rows", "one", "other", "times", "row", "at"]
theorem sc_read_lot : FnScope N_read_lot ["text"] (defScope s_read_lot) := ⟨rfl, rfl, rfl, by decide +kernel, rfl, by decide +kernel, by decide +kernel⟩
noncomputable def e_read_lot_1 : EF := (eLc (iSeq (eVar 1)) (gN 5) bYes (eAnd (eCall g_is_run (aCons (eVar 5) aNil)) (e2 fLtA (e2 fIxA (eVar 5) (eC (.int 0))) (e2 fIxA (eVar 5) (eC (.int 1))))) [5])
noncomputable def t_read_lot_2 : TF := (kIf (bNot (bV (eCall bAll (aCons e_read_lot_1 aNil))))
    kNever
    kNil)
noncomputable def e_read_lot_3 : EF := (eLc (iRange1 (aCons (e2 fSub (eCall bLenA (aCons (eVar 1) aNil)) (eC (.int 1))) aNil)) (gN 6) bYes (e2 fLtP (eSl (e2 fIxA (eVar 1) (eVar 6)) oNone (oSome (eC (.int 2)))) (eSl (e2 fIxA (eVar 1) (e2 fAdd (eVar 6) (eC (.int 1)))) oNone (oSome (eC (.int 2))))) [6])
noncomputable def t_read_lot_4 : TF := (kIf (bNot (bV (eCall bAll (aCons e_read_lot_3 aNil))))
    kNever
    kNil)
noncomputable def e_read_lot_5 : EF := (eDcT (iSeq (eVar 1)) (gTupF 3 (gConsF (gN 2) (gConsF (gN 3) (gConsF (gN 4) gNilF)))) (eTup (aCons (eVar 2) (aCons (eVar 3) aNil))) (eVar 4) [2, 3, 4])
noncomputable def t_read_lot : TF := (kSeq (kAsg (eFrz (eCall g_read_rows (aCons (eVar 0) (aCons (eC (.int 3)) aNil)))) (gN 1))
    (kSeq t_read_lot_2
    (kSeq t_read_lot_4
    (kRet (eCall g_with_table (aCons (eFrz e_read_lot_5) aNil))))))
noncomputable def g_read_lot : List D → Mem → Res D := runF 1 6 t_read_lot
theorem q_read_lot {P : Program} {w : World} {K : PySem.W.Frag} {mg : Str → Option Value} {base : Heap} (T : Tx K mg) : Has P w K mg base 7 "read_lot" ["text"] g_read_lot :=
  T.r_read_lot.has sc_read_lot rfl fun f cdv A outer s H E hr => (qs_cons (qset (i := 1) sc_read_lot.nd rfl (qfrz (qcall (q_read_rows T) (hr.mono (by decide)) takesQ (by rfl) (qa_cons (qv 0) (qa_cons qint qa_nil)))))
    (qs_cons (qif (qt_not (qt_val (qall rfl (by rfl) T.b_all (qa_cons (qlc (own := [("row", 5)]) rfl sc_read_lot.nd (qi_list (qv 1)) (blkOk_by (own := [("row", 5)]) (N := N_read_lot) (sc := defScope s_read_lot) (by decide +kernel)) (fun _ _ _ _ _ => (qv_name (i := 5) sc_read_lot.nd rfl (by decide))) (fun _ _ _ _ _ => qts_nil) (fun _ _ _ _ _ => (q_and (qcall (q_is_run T) (hr.mono (by decide)) takesB (by rfl) (qa_cons (qv 5) qa_nil)) (q_one (qltA (qixA hr.units (qv 5) qint) (qixA hr.units (qv 5) qint)))))) qa_nil)))) (qs_one qnever) qs_nil)
    (qs_cons (qif (qt_not (qt_val (qall rfl (by rfl) T.b_all (qa_cons (qlc (own := [("at", 6)]) rfl sc_read_lot.nd (qi_range1 (by rfl) T.b_range (qa_cons (qsub (qlenA (by rfl) T.b_len (qa_cons (qv 1) qa_nil)) qint) qa_nil)) (blkOk_by (own := [("at", 6)]) (N := N_read_lot) (sc := defScope s_read_lot) (by decide +kernel)) (fun _ _ _ _ _ => (qv_name (i := 6) sc_read_lot.nd rfl (by decide))) (fun _ _ _ _ _ => qts_nil) (fun _ _ _ _ _ => (qltP hr.units (qsl (qixA hr.units (qv 1) (qv 6)) qo_none (qo_some qint)) (qsl (qixA hr.units (qv 1) (qadd (qv 6) qint)) qo_none (qo_some qint))))) qa_nil)))) (qs_one qnever) qs_nil)
    (qs_one (qret (qcall (q_with_table T) (hr.mono (by decide)) takesQ (by rfl) (qa_cons (qfrz (qdcT (un1 hr.units) (own := [("one", 2), ("other", 3), ("times", 4)]) rfl sc_read_lot.nd (qi_list (qv 1)) (blkOk_by (own := [("one", 2), ("other", 3), ("times", 4)]) (N := N_read_lot) (sc := defScope s_read_lot) (by decide +kernel)) (fun _ _ _ _ _ => (qv_tup rfl (qvs_cons (qv_name (i := 2) sc_read_lot.nd rfl (by decide)) (qvs_cons (qv_name (i := 3) sc_read_lot.nd rfl (by decide)) (qvs_cons (qv_name (i := 4) sc_read_lot.nd rfl (by decide)) qvs_nil))))) (fun _ _ _ _ _ => (qtup (qa_cons (qv 2) (qa_cons (qv 3) qa_nil)))) (fun _ _ _ _ _ => (qv 4)))) qa_nil)))))))
/-! _law_count -/
def N__law_count : List Str := ["_law_hand_here", "_law_way"]
theorem sc__law_count : FnScope N__law_count ["_law_hand_here"] (defScope s__law_count) := ⟨rfl, rfl, rfl, by decide +kernel, rfl, by decide +kernel, by decide +kernel⟩
noncomputable def t__law_count_1 : TF := (kIf (bV (e2 fLt (eVar 1) (eC (.int 4))))
    (kRet (e2 fAdd (eC (.int 1)) (eCall g__law_draw (aCons (eVar 0) (aCons (e2 fIxA (eLst (aCons (eC (.int 1)) (aCons (eC (.int 1)) (aCons (eC (.int 3)) (aCons (eC (.int 3)) aNil))))) (eVar 1)) aNil)))))
    kNil)
noncomputable def t__law_count_2 : TF := (kIf (bV (e2 fEqA (eVar 1) (eC (.int 4))))
    (kRet (e2 fAdd (eC (.int 1)) (eCall g__law_draw (aCons (eVar 0) (aCons (eC (.int 60)) aNil)))))
    kNil)
noncomputable def t__law_count : TF := (kSeq (kAsg (eCall g__law_draw (aCons (eVar 0) (aCons (eC (.int 6)) aNil))) (gN 1))
    (kSeq t__law_count_1
    (kSeq t__law_count_2
    (kRet (e2 fIxA (eLst (aCons (e2 fPow (eC (.int 10)) (eC (.int 21))) (aCons (e2 fAdd (eC (.int 1)) (eCall g__law_draw (aCons (eVar 0) (aCons (e2 fPow (eC (.int 10)) (eC (.int 21))) aNil)))) aNil))) (eCall g__law_draw (aCons (eVar 0) (aCons (eC (.int 2)) aNil))))))))
noncomputable def g__law_count : List D → Mem → Res D := runF 1 1 t__law_count
theorem q__law_count {P : Program} {w : World} {K : PySem.W.Frag} {mg : Str → Option Value} {base : Heap} (T : Tx K mg) : Has P w K mg base 4 "_law_count" ["_law_hand_here"] g__law_count :=
  T.r__law_count.has sc__law_count rfl fun f cdv A outer s H E hr => (qs_cons (qset (i := 1) sc__law_count.nd rfl (qcall (q__law_draw T) (hr.mono (by decide)) takesQ (by rfl) (qa_cons (qv 0) (qa_cons qint qa_nil))))
    (qs_cons (qif (tLt' (qv 1) qint) (qs_one (qret (qadd qint (qcall (q__law_draw T) (hr.mono (by decide)) takesQ (by rfl) (qa_cons (qv 0) (qa_cons (qixA hr.units (qlst (qa_cons qint (qa_cons qint (qa_cons qint (qa_cons qint qa_nil))))) (qv 1)) qa_nil)))))) qs_nil)
    (qs_cons (qif (tEqA hr.units (qv 1) qint) (qs_one (qret (qadd qint (qcall (q__law_draw T) (hr.mono (by decide)) takesQ (by rfl) (qa_cons (qv 0) (qa_cons qint qa_nil)))))) qs_nil)
    (qs_one (qret (qixA hr.units (qlst (qa_cons (qpow qint qint) (qa_cons (qadd qint (qcall (q__law_draw T) (hr.mono (by decide)) takesQ (by rfl) (qa_cons (qv 0) (qa_cons (qpow qint qint) qa_nil)))) qa_nil))) (qcall (q__law_draw T) (hr.mono (by decide)) takesQ (by rfl) (qa_cons (qv 0) (qa_cons qint qa_nil)))))))))
/-! Purses.__eq__ -/
def N_Purses___eq__ : List Str := ["self", "other"]
theorem sc_Purses___eq__ : FnScope N_Purses___eq__ ["self", "other"] (defScope s_Purses___eq__) := ⟨rfl, rfl, rfl, by decide +kernel, rfl, by decide +kernel, by decide +kernel⟩
noncomputable def t_Purses___eq__ : TF := (kRet (eAnd (eIsC "Purses" (eVar 1)) (e2 fEqDK (eFld "Purses" "table" (eVar 0)) (eFld "Purses" "table" (eVar 1)))))
noncomputable def g_Purses___eq__ : List D → Mem → Res D := runF 2 0 t_Purses___eq__
theorem q_Purses___eq__ {P : Program} {w : World} {K : PySem.W.Frag} {mg : Str → Option Value} {base : Heap} (T : Tx K mg) : HasM P w K mg base 1 "Purses" "__eq__" ["self", "other"] g_Purses___eq__ :=
  T.r_Purses___eq__.has sc_Purses___eq__ rfl fun f cdv A outer s H E hr => (qs_one (qret (q_and (qisC T.m_Purses T.o_Purses (by rfl) (by rfl) T.b_isinstance (qv 1)) (q_one (qeqDK hr.units (qfld T.m_Purses T.k_Purses T.n_Purses_table (qv 0)) (qfld T.m_Purses T.k_Purses T.n_Purses_table (qv 1)))))))
/-! Lot.__eq__ -/
def N_Lot___eq__ : List Str := ["self", "other"]
theorem sc_Lot___eq__ : FnScope N_Lot___eq__ ["self", "other"] (defScope s_Lot___eq__) := ⟨rfl, rfl, rfl, by decide +kernel, rfl, by decide +kernel, by decide +kernel⟩
noncomputable def t_Lot___eq__ : TF := (kRet (eAnd (eIsC "Lot" (eVar 1)) (e2 fEqDT (eFld "Lot" "table" (eVar 0)) (eFld "Lot" "table" (eVar 1)))))
noncomputable def g_Lot___eq__ : List D → Mem → Res D := runF 2 0 t_Lot___eq__
theorem q_Lot___eq__ {P : Program} {w : World} {K : PySem.W.Frag} {mg : Str → Option Value} {base : Heap} (T : Tx K mg) : HasM P w K mg base 1 "Lot" "__eq__" ["self", "other"] g_Lot___eq__ :=
  T.r_Lot___eq__.has sc_Lot___eq__ rfl fun f cdv A outer s H E hr => (qs_one (qret (q_and (qisC T.m_Lot T.o_Lot (by rfl) (by rfl) T.b_isinstance (qv 1)) (q_one (qeqDT hr.units (qfld T.m_Lot T.k_Lot T.n_Lot_table (qv 0)) (qfld T.m_Lot T.k_Lot T.n_Lot_table (qv 1)))))))
/-! law -/
def N_law : List Str := ["_law_script", "_law_hand_here", "_law_turn", "_law_names_here", "_law_table_here", "_law_name", "_law_far", "_law_runs", "_law_k", "_law_one", "_law_other", "_law_meetings", "_law_found", "_law_lot_here", "_law_texts", "_law_told", "_law_again", "_law_back", "_law_a", "_law_b"]
theorem sc_law : FnScope N_law ["_law_script"] (defScope s_law) := ⟨rfl, rfl, rfl, by decide +kernel, rfl, by decide +kernel, by decide +kernel⟩
noncomputable def b_law_1 : TF := (kSeq (kAsg (e2 fIxA (eLst (aCons (eC (.int 10)) (aCons (e2 fPow (eC (.int 10)) (eC (.int 6))) (aCons (e2 fPow (eC (.int 10)) (eC (.int 15))) (aCons (e2 fPow (eC (.int 10)) (eC (.int 25))) (aCons (e2 fPow (eC (.int 10)) (eC (.int 30))) aNil)))))) (eCall g__law_draw (aCons (eVar 1) (aCons (eC (.int 5)) aNil)))) (gN 6))
    (kDPut (eVar 4) (eVar 5) (e2 fIxA (eLst (aCons (eC (.int 0)) (aCons (eC (.int 1)) (aCons (eCall g__law_draw (aCons (eVar 1) (aCons (eVar 6) aNil))) (aCons (eVar 6) aNil))))) (eCall g__law_draw (aCons (eVar 1) (aCons (eC (.int 4)) aNil))))))
noncomputable def t_law_2 : TF := (kFor (iSeq (eSl (eVar 3) oNone (oSome (eCall g__law_draw (aCons (eVar 1) (aCons (e2 fAdd (eCall bLenA (aCons (eVar 3) aNil)) (eC (.int 1))) aNil)))))) (gN 5) b_law_1 [6])
noncomputable def b_law_3 : TF := (kSeq (kAsg (eCall g__law_two (aCons (eVar 1) (aCons (eVar 3) aNil))) (gTupF 2 (gConsF (gN 9) (gConsF (gN 10) gNilF))))
    (kDrop (eApp (eVar 7) (eTup (aCons (eVar 9) (aCons (eVar 10) (aCons (e2 fIxA (eLst (aCons (eC (.int 1)) (aCons (eCall g__law_count (aCons (eVar 1) aNil)) (aCons (e2 fPow (eC (.int 10)) (eC (.int 22))) aNil)))) (eCall g__law_draw (aCons (eVar 1) (aCons (eC (.int 3)) aNil)))) aNil)))))))
noncomputable def t_law_4 : TF := (kFor (iRange1 (aCons (e2 fMul (eCall g__law_draw (aCons (eVar 1) (aCons (eC (.int 41)) aNil))) (eCall bInt (aCons (e2 fGt (eCall bLenA (aCons (eVar 3) aNil)) (eC (.int 1))) aNil))) aNil)) (gN 8) b_law_3 [8, 9, 10])
noncomputable def e_law_5 : EF := (eLc (iSeq (eCall bSortB (aCons (eVar 4) aNil))) (gN 5) bYes (eTup (aCons (eVar 5) (aCons (e2 fIxA (eVar 4) (eVar 5)) aNil))) [5])
noncomputable def e_law_6 : EF := (eLc (iSeq (eCall bSortB (aCons (eVar 11) aNil))) (gTupF 2 (gConsF (gN 18) (gConsF (gN 19) gNilF))) bYes (eTup (aCons (eVar 18) (aCons (eVar 19) (aCons (e2 fIxA (eVar 11) (eTup (aCons (eVar 18) (aCons (eVar 19) aNil)))) aNil)))) [18, 19])
noncomputable def t_law_7 : TF := (kIf (bNot (bV (eCall g__law_alike (aCons (eVar 15) (aCons (eVar 14) aNil)))))
    (kRet (eC (.bl false)))
    kNil)
noncomputable def t_law_8 : TF := (kIf (bOr (bNot (bV (eEqO "Purses" g_Purses___eq__ (eCall g_read_purses (aCons (e2 fIxA (eVar 14) (eC (.int 0))) aNil)) (eVar 12)))) (bNot (bV (eEqO "Lot" g_Lot___eq__ (eCall g_read_lot (aCons (e2 fIxA (eVar 14) (eC (.int 1))) aNil)) (eVar 13)))))
    (kRet (eC (.bl false)))
    kNil)
noncomputable def t_law_9 : TF := (kIf (bOr (bNot (bV (eCall g__law_alike (aCons (eVar 17) (aCons (eVar 7) aNil))))) (bV (e2 fNe (eCall g_show_timetable (aCons (eVar 17) aNil)) (e2 fIxA (eVar 14) (eC (.int 2))))))
    (kRet (eC (.bl false)))
    kNil)
noncomputable def b_law_10 : TF := (kSeq t_law_8
    (kSeq (kAsg (eCall g_read_timetable (aCons (e2 fIxA (eVar 14) (eC (.int 2))) aNil)) (gN 17))
    (kSeq t_law_9
    (kDrop (eApp (eVar 17) (eC .non))))))
noncomputable def t_law_11 : TF := (kFor (iRange1 (aCons (eC (.int 2)) aNil)) (gN 16) b_law_10 [16, 17])
noncomputable def b_law_12 : TF := (kSeq (kAsg (eCall g__law_mixed_names (aCons (eVar 1) aNil)) (gN 3))
    (kSeq (kAsg eDnewKP (gN 4))
    (kSeq t_law_2
    (kSeq (kAsg (eLstP aNil) (gN 7))
    (kSeq t_law_4
    (kSeq (kAsg (eCall g__law_table (aCons (eVar 7) aNil)) (gN 11))
    (kSeq (kPar 12 13 (aCons (eCall g__law_purses (aCons (eVar 1) (aCons (eFrzK (eVar 4)) aNil))) (aCons (eCall g__law_lot (aCons (eVar 1) (aCons (eVar 7) aNil))) aNil)))
    (kSeq (kAsg (eLstP (aCons (eCall g__law_lines (aCons e_law_5 aNil)) aNil)) (gN 14))
    (kSeq (kDrop (eApp (eVar 14) (eCall g__law_lines (aCons e_law_6 aNil))))
    (kSeq (kDrop (eApp (eVar 14) (eCall g__law_lines (aCons (eVar 7) aNil))))
    (kSeq (kAsg (eLst (aCons (eCall g_show_purses (aCons (eVar 12) aNil)) (aCons (eCall g_show_lot (aCons (eVar 13) aNil)) (aCons (eCall g_show_timetable (aCons (eVar 7) aNil)) aNil)))) (gN 15))
    (kSeq t_law_7
    t_law_11))))))))))))
noncomputable def t_law_13 : TF := (kFor (iRange1 (aCons (eC (.int 3)) aNil)) (gN 2) b_law_12 [2, 3, 4, 5, 6, 7, 8, 9, 10, 11, 12, 13, 14, 15, 16, 17])
noncomputable def t_law : TF := (kSeq (kAsg (eCall g__law_hand (aCons (eVar 0) aNil)) (gN 1))
    (kSeq t_law_13
    (kRet (eAnd (e2 fEqA (eLenO "Purses" g_Purses___len__ (eCall g_read_purses (aCons (eC (.str "")) aNil))) (eC (.int 0))) (eAnd (e2 fEqA (eLenO "Lot" g_Lot___len__ (eCall g_read_lot (aCons (eC (.str "")) aNil))) (eC (.int 0))) (e2 fEqA (eCall g_read_timetable (aCons (eC (.str "")) aNil)) (eLst aNil)))))))
noncomputable def g_law : List D → Mem → Res D := runF 1 19 t_law
theorem q_law {P : Program} {w : World} {K : PySem.W.Frag} {mg : Str → Option Value} {base : Heap} (T : Tx K mg) : Has P w K mg base 8 "law" ["_law_script"] g_law :=
  T.r_law.has sc_law rfl fun f cdv A outer s H E hr => (qs_cons (qset (i := 1) sc_law.nd rfl (qcall (q__law_hand T) (hr.mono (by decide)) takesQ (by rfl) (qa_cons (qv 0) qa_nil)))
    (qs_cons (qfor (vs := [2, 3, 4, 5, 6, 7, 8, 9, 10, 11, 12, 13, 14, 15, 16, 17]) passesQ rfl (qi_range1 (by rfl) T.b_range (qa_cons qint qa_nil)) (qg_name (i := 2) sc_law.nd rfl) (qs_cons (qset (i := 3) sc_law.nd rfl (qcall (q__law_mixed_names T) (hr.mono (by decide)) takesQ (by rfl) (qa_cons (qv 1) qa_nil)))
    (qs_cons (qset (i := 4) sc_law.nd rfl qdnewKP)
    (qs_cons (qfor (vs := [6]) passesQ rfl (qi_list (qsl (qv 3) qo_none (qo_some (qcall (q__law_draw T) (hr.mono (by decide)) takesQ (by rfl) (qa_cons (qv 1) (qa_cons (qadd (qlenA (by rfl) T.b_len (qa_cons (qv 3) qa_nil)) qint) qa_nil)))))) (qg_name (i := 5) sc_law.nd rfl) (qs_cons (qset (i := 6) sc_law.nd rfl (qixA hr.units (qlst (qa_cons qint (qa_cons (qpow qint qint) (qa_cons (qpow qint qint) (qa_cons (qpow qint qint) (qa_cons (qpow qint qint) qa_nil)))))) (qcall (q__law_draw T) (hr.mono (by decide)) takesQ (by rfl) (qa_cons (qv 1) (qa_cons qint qa_nil)))))
    (qs_one (qdput (un1 hr.units) (qv 4) (qv 5) (qixA hr.units (qlst (qa_cons qint (qa_cons qint (qa_cons (qcall (q__law_draw T) (hr.mono (by decide)) takesQ (by rfl) (qa_cons (qv 1) (qa_cons (qv 6) qa_nil))) (qa_cons (qv 6) qa_nil))))) (qcall (q__law_draw T) (hr.mono (by decide)) takesQ (by rfl) (qa_cons (qv 1) (qa_cons qint qa_nil))))))))
    (qs_cons (qset (i := 7) sc_law.nd rfl (qlstP qa_nil))
    (qs_cons (qfor (vs := [8, 9, 10]) passesQ rfl (qi_range1 (by rfl) T.b_range (qa_cons (qmul (qcall (q__law_draw T) (hr.mono (by decide)) takesQ (by rfl) (qa_cons (qv 1) (qa_cons qint qa_nil))) (qint1 (by rfl) T.b_int (qa_cons (qgt (qlenA (by rfl) T.b_len (qa_cons (qv 3) qa_nil)) qint) qa_nil))) qa_nil)) (qg_name (i := 8) sc_law.nd rfl) (qs_cons (qasg (qcall (q__law_two T) (hr.mono (by decide)) takesQ (by rfl) (qa_cons (qv 1) (qa_cons (qv 3) qa_nil))) (qg_tup rfl (qgs_cons (qg_name (i := 9) sc_law.nd rfl) (qgs_cons (qg_name (i := 10) sc_law.nd rfl) qgs_nil))))
    (qs_one (qexpr (qapp (qv 7) (qtup (qa_cons (qv 9) (qa_cons (qv 10) (qa_cons (qixA hr.units (qlst (qa_cons qint (qa_cons (qcall (q__law_count T) (hr.mono (by decide)) takesQ (by rfl) (qa_cons (qv 1) qa_nil)) (qa_cons (qpow qint qint) qa_nil)))) (qcall (q__law_draw T) (hr.mono (by decide)) takesQ (by rfl) (qa_cons (qv 1) (qa_cons qint qa_nil)))) qa_nil)))))))))
    (qs_cons (qset (i := 11) sc_law.nd rfl (qcall (q__law_table T) (hr.mono (by decide)) takesQ (by rfl) (qa_cons (qv 7) qa_nil)))
    (qs_cons (qpar (i := 12) (j := 13) rfl sc_law.nd rfl rfl (by decide) (qa_cons (qcall (q__law_purses T) (hr.mono (by decide)) takesQ (by rfl) (qa_cons (qv 1) (qa_cons (qfrzK (qv 4)) qa_nil))) (qa_cons (qcall (q__law_lot T) (hr.mono (by decide)) takesQ (by rfl) (qa_cons (qv 1) (qa_cons (qv 7) qa_nil))) qa_nil)))
    (qs_cons (qset (i := 14) sc_law.nd rfl (qlstP (qa_cons (qcall (q__law_lines T) (hr.mono (by decide)) takesQ (by rfl) (qa_cons (qlc (own := [("_law_name", 5)]) rfl sc_law.nd (qi_list (qsortB rfl (by rfl) T.b_sorted (qa_cons (qv 4) qa_nil))) (blkOk_by (own := [("_law_name", 5)]) (N := N_law) (sc := defScope s_law) (by decide +kernel)) (fun _ _ _ _ _ => (qv_name (i := 5) sc_law.nd rfl (by decide))) (fun _ _ _ _ _ => qts_nil) (fun _ _ _ _ _ => (qtup (qa_cons (qv 5) (qa_cons (qixA hr.units (qv 4) (qv 5)) qa_nil))))) qa_nil)) qa_nil)))
    (qs_cons (qexpr (qapp (qv 14) (qcall (q__law_lines T) (hr.mono (by decide)) takesQ (by rfl) (qa_cons (qlc (own := [("_law_a", 18), ("_law_b", 19)]) rfl sc_law.nd (qi_list (qsortB rfl (by rfl) T.b_sorted (qa_cons (qv 11) qa_nil))) (blkOk_by (own := [("_law_a", 18), ("_law_b", 19)]) (N := N_law) (sc := defScope s_law) (by decide +kernel)) (fun _ _ _ _ _ => (qv_tup rfl (qvs_cons (qv_name (i := 18) sc_law.nd rfl (by decide)) (qvs_cons (qv_name (i := 19) sc_law.nd rfl (by decide)) qvs_nil)))) (fun _ _ _ _ _ => qts_nil) (fun _ _ _ _ _ => (qtup (qa_cons (qv 18) (qa_cons (qv 19) (qa_cons (qixA hr.units (qv 11) (qtup (qa_cons (qv 18) (qa_cons (qv 19) qa_nil)))) qa_nil)))))) qa_nil))))
    (qs_cons (qexpr (qapp (qv 14) (qcall (q__law_lines T) (hr.mono (by decide)) takesQ (by rfl) (qa_cons (qv 7) qa_nil))))
    (qs_cons (qset (i := 15) sc_law.nd rfl (qlst (qa_cons (qcall (q_show_purses T) (hr.mono (by decide)) takesQ (by rfl) (qa_cons (qv 12) qa_nil)) (qa_cons (qcall (q_show_lot T) (hr.mono (by decide)) takesQ (by rfl) (qa_cons (qv 13) qa_nil)) (qa_cons (qcall (q_show_timetable T) (hr.mono (by decide)) takesQ (by rfl) (qa_cons (qv 7) qa_nil)) qa_nil)))))
    (qs_cons (qif (qt_not (qt_val (qcall (q__law_alike T) (hr.mono (by decide)) takesQ (by rfl) (qa_cons (qv 15) (qa_cons (qv 14) qa_nil))))) (qs_one (qret qbl)) qs_nil)
    (qs_one (qfor (vs := [16, 17]) passesQ rfl (qi_range1 (by rfl) T.b_range (qa_cons qint qa_nil)) (qg_name (i := 16) sc_law.nd rfl) (qs_cons (qif (qt_w (qw_or (qt_not (teqO (q_Purses___eq__ T) T.m_Purses T.o_Purses (hr.mono (by decide)) (qcall (q_read_purses T) (hr.mono (by decide)) takesQ (by rfl) (qa_cons (qixA hr.units (qv 14) qint) qa_nil)) (qv 12))) (qw_or1 (qt_not (teqO (q_Lot___eq__ T) T.m_Lot T.o_Lot (hr.mono (by decide)) (qcall (q_read_lot T) (hr.mono (by decide)) takesQ (by rfl) (qa_cons (qixA hr.units (qv 14) qint) qa_nil)) (qv 13)))))) (qs_one (qret qbl)) qs_nil)
    (qs_cons (qset (i := 17) sc_law.nd rfl (qcall (q_read_timetable T) (hr.mono (by decide)) takesQ (by rfl) (qa_cons (qixA hr.units (qv 14) qint) qa_nil)))
    (qs_cons (qif (qt_w (qw_or (qt_not (qt_val (qcall (q__law_alike T) (hr.mono (by decide)) takesQ (by rfl) (qa_cons (qv 17) (qa_cons (qv 7) qa_nil))))) (qw_or1 (tNe hr.units (qcall (q_show_timetable T) (hr.mono (by decide)) takesQ (by rfl) (qa_cons (qv 17) qa_nil)) (qixA hr.units (qv 14) qint))))) (qs_one (qret qbl)) qs_nil)
    (qs_one (qexpr (qapp (qv 17) qnon)))))))))))))))))))))
    (qs_one (qret (q_and (qeqA hr.units (qlenO (q_Purses___len__ T) T.m_Purses (hr.mono (by decide)) (by rfl) T.b_len (qcall (q_read_purses T) (hr.mono (by decide)) takesQ (by rfl) (qa_cons qstr qa_nil))) qint) (q_and (qeqA hr.units (qlenO (q_Lot___len__ T) T.m_Lot (hr.mono (by decide)) (by rfl) T.b_len (qcall (q_read_lot T) (hr.mono (by decide)) takesQ (by rfl) (qa_cons qstr qa_nil))) qint) (q_one (qeqA hr.units (qcall (q_read_timetable T) (hr.mono (by decide)) takesQ (by rfl) (qa_cons qstr qa_nil)) (qlst qa_nil)))))))))
end QL
end
section
set_option Elab.async false
set_option linter.all false
set_option maxRecDepth 100000
set_option maxHeartbeats 4000000
set_option autoImplicit false
/-! HHand: what the law's hand of numbers does. -/
namespace QL
open PySem PySem.Spec L2
open Classical
/-- the hand: its cells, five numbers -/
def HD (c : List Int) (a1 a2 a3 a4 a5 : Int) : MO := .lst [.lst (c.map D.int), .int a1, .int a2, .int a3, .int a4, .int a5]
section
variable {M : Mem} {h : Nat} {c : List Int} {a1 a2 a3 a4 a5 x : Int}
theorem set_self {X : MO} (hM : M[h]? = some X) : M.set h X = M := by
  apply List.ext_getElem?
  intro i
  rw [List.getElem?_set]
  split
  · rename_i e
    subst e
    rw [if_pos (List.getElem?_eq_some_iff.mp hM).1, hM]
  · rfl
theorem getset {X : MO} (hh : h < M.length) : (M.set h X)[h]? = some X := List.getElem?_set_self hh
theorem ixh {i : Int} {d : D} (hh : h < M.length) (hd : L2.atI [.lst (c.map D.int), .int a1, .int a2, .int a3, .int a4, .int a5] i = some d) : fIxA (.ptr h) (.int i) (M.set h (HD c a1 a2 a3 a4 a5)) = .ok d (M.set h (HD c a1 a2 a3 a4 a5)) := by
  have hM := getset (X := HD c a1 a2 a3 a4 a5) hh
  unfold HD at hM ⊢
  simp [fIxA, or2, orR, fDIx, look, asK, asTt, fIx, asL, hM, hd]
theorem ixh0 (hh : h < M.length) : fIxA (.ptr h) (.int 0) (M.set h (HD c a1 a2 a3 a4 a5)) = .ok (.lst (c.map D.int)) (M.set h (HD c a1 a2 a3 a4 a5)) := ixh hh rfl
theorem ixh1 (hh : h < M.length) : fIxA (.ptr h) (.int 1) (M.set h (HD c a1 a2 a3 a4 a5)) = .ok (.int a1) (M.set h (HD c a1 a2 a3 a4 a5)) := ixh hh rfl
theorem ixh2 (hh : h < M.length) : fIxA (.ptr h) (.int 2) (M.set h (HD c a1 a2 a3 a4 a5)) = .ok (.int a2) (M.set h (HD c a1 a2 a3 a4 a5)) := ixh hh rfl
theorem ixh3 (hh : h < M.length) : fIxA (.ptr h) (.int 3) (M.set h (HD c a1 a2 a3 a4 a5)) = .ok (.int a3) (M.set h (HD c a1 a2 a3 a4 a5)) := ixh hh rfl
theorem ixh4 (hh : h < M.length) : fIxA (.ptr h) (.int 4) (M.set h (HD c a1 a2 a3 a4 a5)) = .ok (.int a4) (M.set h (HD c a1 a2 a3 a4 a5)) := ixh hh rfl
theorem ixh5 (hh : h < M.length) : fIxA (.ptr h) (.int 5) (M.set h (HD c a1 a2 a3 a4 a5)) = .ok (.int a5) (M.set h (HD c a1 a2 a3 a4 a5)) := ixh hh rfl
theorem seth {i : Int} {n : Nat} {d : D} {ds : List D} (hh : h < M.length) (hn : ixN ds.length i = some n) : lset (.ptr h) (.int i) d (M.set h (.lst ds)) = some (M.set h (.lst (ds.set n d))) := by
  simp [lset, getset hh, hn]
theorem seth1 (hh : h < M.length) : lset (.ptr h) (.int 1) (.int x) (M.set h (HD c a1 a2 a3 a4 a5)) = some (M.set h (HD c x a2 a3 a4 a5)) := by unfold HD; exact seth (n := 1) hh rfl
theorem seth2 (hh : h < M.length) : lset (.ptr h) (.int 2) (.int x) (M.set h (HD c a1 a2 a3 a4 a5)) = some (M.set h (HD c a1 x a3 a4 a5)) := by unfold HD; exact seth (n := 2) hh rfl
theorem seth3 (hh : h < M.length) : lset (.ptr h) (.int 3) (.int x) (M.set h (HD c a1 a2 a3 a4 a5)) = some (M.set h (HD c a1 a2 x a4 a5)) := by unfold HD; exact seth (n := 3) hh rfl
theorem seth4 (hh : h < M.length) : lset (.ptr h) (.int 4) (.int x) (M.set h (HD c a1 a2 a3 a4 a5)) = some (M.set h (HD c a1 a2 a3 x a5)) := by unfold HD; exact seth (n := 4) hh rfl
theorem seth5 (hh : h < M.length) : lset (.ptr h) (.int 5) (.int x) (M.set h (HD c a1 a2 a3 a4 a5)) = some (M.set h (HD c a1 a2 a3 a4 x)) := by unfold HD; exact seth (n := 5) hh rfl
theorem asLh (hh : h < M.length) : asL (M.set h (HD c a1 a2 a3 a4 a5)) (.ptr h) = some [.lst (c.map D.int), .int a1, .int a2, .int a3, .int a4, .int a5] := by
  simp [asL, getset hh, HD]
theorem log_le {z : Int} {k : Nat} (h0 : 0 ≤ z) (h1 : z < 2 ^ k) (hk : 0 < k) : z.natAbs.log2 < k := by
  by_cases z0 : z.natAbs = 0
  · rw [z0]; simpa using hk
  · refine (Nat.log2_lt z0).mpr ?_
    have e : ((z.natAbs : Nat) : Int) = z := Int.natAbs_of_nonneg h0
    have : ((z.natAbs : Nat) : Int) < ((2 ^ k : Nat) : Int) := by rw [e]; push_cast; exact h1
    exact Int.ofNat_lt.mp this
theorem mulW {u v : Int} {k l : Nat} (hu : 0 ≤ u ∧ u < 2 ^ k) (hv : 0 ≤ v ∧ v < 2 ^ l) (hk : 0 < k) (hl : 0 < l) (hkl : k + l ≤ 1000000) : CMulW u v := by
  have := log_le hu.1 hu.2 hk
  have := log_le hv.1 hv.2 hl
  unfold CMulW
  omega
theorem step_eq (hh : h < M.length) (h4 : 0 ≤ a4 ∧ a4 < 2 ^ 32) (h5 : 0 ≤ a5 ∧ a5 < 2 ^ 32) :
    g__law_step [.ptr h] (M.set h (HD c a1 a2 a3 a4 a5)) = .ok (.int (a4 * 48271 % 2147483647 + a5 * 40692 % 2147483399)) (M.set h (HD c a1 a2 a3 (a4 * 48271 % 2147483647) (a5 * 40692 % 2147483399))) := by
  have m4 : CMulW a4 48271 := mulW (k := 32) (l := 32) h4 (by decide) (by decide) (by decide) (by decide)
  have m5 : CMulW a5 40692 := mulW (k := 32) (l := 32) h5 (by decide) (by decide) (by decide) (by decide)
  simp [g__law_step, runF_ap, t__law_step, ixh4 hh, ixh5 hh, seth4 hh, seth5 hh, fMul_i m4, fMul_i m5, fMod_i, settle_ok]
/-- what holds of the five numbers -/
def Hok (a1 a2 a3 a4 a5 : Int) : Prop := 0 ≤ a1 ∧ 0 ≤ a2 ∧ 0 ≤ a3 ∧ (0 ≤ a4 ∧ a4 < 2 ^ 32) ∧ (0 ≤ a5 ∧ a5 < 2 ^ 32)
theorem take1 (hh : h < M.length) (h1 : 0 ≤ a1) : ∃ cell : Int, 0 ≤ cell ∧ t__law_take_1 [some (.ptr h), some (.int 0)] (M.set h (HD c a1 a2 a3 a4 a5)) = .nx [some (.ptr h), some (.int cell)] (M.set h (HD c a1 a2 a3 a4 a5)) := by
  unfold t__law_take_1
  by_cases hl : a1 < c.length
  · obtain ⟨n, rfl⟩ := Int.eq_ofNat_of_zero_le h1
    have hn : n < c.length := by exact_mod_cast hl
    have e : (c.map D.int)[n]? = some (.int c[n]) := by simp [hn]
    refine ⟨if c[n] < 0 then -c[n] else c[n], by split <;> omega, ?_⟩
    simp [ixh0 hh, ixh1 hh, hn, fIxA_l e, bAbs]
  · refine ⟨0, by omega, ?_⟩
    simp [ixh0 hh, ixh1 hh, hl]
theorem take2 (hh : h < M.length) {cell : Int} (h2 : 0 ≤ a2) (h3 : 0 ≤ a3) : ∃ b2 b3 : Int, 0 ≤ b2 ∧ 0 ≤ b3 ∧ (0 < b2 ∨ 0 < b3) ∧ t__law_take_2 [some (.ptr h), some (.int cell)] (M.set h (HD c a1 a2 a3 a4 a5)) = .nx [some (.ptr h), some (.int cell)] (M.set h (HD c a1 b2 b3 a4 a5)) := by
  unfold t__law_take_2
  by_cases hl : (10 : Int) ^ 18 ≤ cell
  · refine ⟨cell, a3, by omega, h3, .inl (by omega), ?_⟩
    have hl' : (1000000000000000000 : Int) ≤ cell := by omega
    simp [fPow, hl', seth2 hh]
  · refine ⟨a2, 7, h2, by omega, .inr (by omega), ?_⟩
    have hl' : ¬ (1000000000000000000 : Int) ≤ cell := by omega
    simp [fPow, hl', seth3 hh]
theorem atI1 {d : D} : L2.atI [d, .int a1, .int a2, .int a3, .int a4, .int a5] 1 = some (.int a1) := rfl
theorem atI3 {d : D} : L2.atI [d, .int a1, .int a2, .int a3, .int a4, .int a5] 3 = some (.int a3) := rfl
theorem aug1 {S : Sl} (hh : h < M.length) (hS : S[0]? = some (some (.ptr h))) : kLAug (eVar 0) (eC (.int 1)) (eC (.int x)) (fun i j => i + j) S (M.set h (HD c a1 a2 a3 a4 a5)) = .nx S (M.set h (HD c (a1 + x) a2 a3 a4 a5)) := by
  rw [kLAug_at (d := .ptr h) (j := 1) (by simp [hS]) rfl (asLh hh) atI1]
  simp [seth1 hh]
theorem aug3 {S : Sl} (hh : h < M.length) (hS : S[0]? = some (some (.ptr h))) : kLAug (eVar 0) (eC (.int 3)) (eC (.int x)) (fun i j => i - j) S (M.set h (HD c a1 a2 a3 a4 a5)) = .nx S (M.set h (HD c a1 a2 (a3 - x) a4 a5)) := by
  rw [kLAug_at (d := .ptr h) (j := 3) (by simp [hS]) rfl (asLh hh) atI3]
  simp [seth3 hh]
theorem take_eq (hh : h < M.length) (ok : Hok a1 a2 a3 a4 a5) :
    ∃ b1 b2 b3 b4 b5, g__law_take [.ptr h] (M.set h (HD c a1 a2 a3 a4 a5)) = .ok .non (M.set h (HD c b1 b2 b3 b4 b5)) ∧ Hok b1 b2 b3 b4 b5 ∧ (0 < b2 ∨ 0 < b3) := by
  obtain ⟨h1, h2, h3, h4, h5⟩ := ok
  obtain ⟨cell, hc0, e1⟩ := take1 (a2 := a2) (a3 := a3) (a4 := a4) (a5 := a5) (c := c) hh h1
  obtain ⟨b2, b3, k2, k3, k23, e2'⟩ := take2 (a1 := a1 + 1) (a4 := a4) (a5 := a5) (c := c) (cell := cell) hh h2 h3
  have u4 : 0 ≤ (a4 + cell % 2147483587) % 2147483646 + 1 ∧ (a4 + cell % 2147483587) % 2147483646 + 1 < 2 ^ 32 := by omega
  have u5 : 0 ≤ (a5 * 3 + cell % 1000003) % 2147483398 + 1 ∧ (a5 * 3 + cell % 1000003) % 2147483398 + 1 < 2 ^ 32 := by omega
  have m5 : CMulW a5 3 := mulW (k := 32) (l := 32) h5 (by decide) (by decide) (by decide) (by decide)
  have s1 := step_eq (a1 := a1 + 1) (a2 := b2) (a3 := b3) (c := c) hh u4 u5
  have v4 : 0 ≤ ((a4 + cell % 2147483587) % 2147483646 + 1) * 48271 % 2147483647 ∧ ((a4 + cell % 2147483587) % 2147483646 + 1) * 48271 % 2147483647 < 2 ^ 32 := by omega
  have v5 : 0 ≤ ((a5 * 3 + cell % 1000003) % 2147483398 + 1) * 40692 % 2147483399 ∧ ((a5 * 3 + cell % 1000003) % 2147483398 + 1) * 40692 % 2147483399 < 2 ^ 32 := by omega
  have s2 := step_eq (a1 := a1 + 1) (a2 := b2) (a3 := b3) (c := c) hh v4 v5
  refine ⟨a1 + 1, b2, b3, ((a4 + cell % 2147483587) % 2147483646 + 1) * 48271 % 2147483647 * 48271 % 2147483647, ((a5 * 3 + cell % 1000003) % 2147483398 + 1) * 40692 % 2147483399 * 40692 % 2147483399, ?_, ⟨by omega, k2, k3, by omega, by omega⟩, k23⟩
  simp [g__law_take, runF_ap, t__law_take, e1, aug1 hh, e2', ixh4 hh, ixh5 hh, seth4 hh, seth5 hh, fMul_i m5, fMod_i, s1, s2, settle_ok]
theorem draw4 {n0 : Nat} {t v z : Int} {d : Option D} {N : Mem} (h : t ≤ z) : t__law_draw_4 [some (.ptr n0), some (.int t), d, some (.int v), some (.int z)] N = .nx [some (.ptr n0), some (.int t), d, some (.int v), some (.int z)] N := by
  unfold t__law_draw_4
  rw [kWhile_eq]
  have e : decide (z < t) = false := decide_eq_false (by omega)
  simp [e, Res.thn]
theorem draw1 (hh : h < M.length) (ok : Hok a1 a2 a3 a4 a5) {S : Sl} (hS : S[0]? = some (some (.ptr h))) :
    ∃ b1 b2 b3 b4 b5, t__law_draw_1 S (M.set h (HD c a1 a2 a3 a4 a5)) = .nx S (M.set h (HD c b1 b2 b3 b4 b5)) ∧ Hok b1 b2 b3 b4 b5 ∧ (0 < b2 ∨ 0 < b3) := by
  unfold t__law_draw_1
  by_cases e2' : a2 = 0
  · by_cases e3 : a3 = 0
    · subst e2'
      subst e3
      obtain ⟨b1, b2, b3, b4, b5, q, ok', k⟩ := take_eq (c := c) hh ok
      exact ⟨b1, b2, b3, b4, b5, by simp [hS, ixh2 hh, ixh3 hh, q], ok', k⟩
    · exact ⟨a1, a2, a3, a4, a5, by simp [hS, ixh2 hh, ixh3 hh, e2', e3], ok, .inr (by have := ok.2.2.1; omega)⟩
  · exact ⟨a1, a2, a3, a4, a5, by simp [hS, ixh2 hh, ixh3 hh, e2'], ok, .inl (by have := ok.2.1; omega)⟩
/-- a draw of one of t, t at most 2 ** 32 -/
theorem draw_HD (hh : h < M.length) (ok : Hok a1 a2 a3 a4 a5) {t : Int} (t0 : 0 < t) (t1 : t ≤ 4294967296) :
    ∃ r b1 b2 b3 b4 b5, g__law_draw [.ptr h, .int t] (M.set h (HD c a1 a2 a3 a4 a5)) = .ok (.int r) (M.set h (HD c b1 b2 b3 b4 b5)) ∧ Hok b1 b2 b3 b4 b5 ∧ 0 ≤ r ∧ r < t := by
  obtain ⟨b1, b2, b3, b4, b5, e1, ⟨k1, k2, k3, k4, k5⟩, k⟩ := draw1 (c := c) hh ok (S := [some (.ptr h), some (.int t), none, none, none]) rfl
  have dv : CDivW b2 t := ⟨t0, by have := log_le (z := t) (k := 64) (by omega) (by omega) (by decide); omega⟩
  by_cases p2 : 0 < b2
  · refine ⟨b2 % t, b1, b2 / t, b3, b4, b5, ?_, ⟨k1, Int.ediv_nonneg k2 (by omega), k3, k4, k5⟩, Int.emod_nonneg _ (by omega), Int.emod_lt_of_pos _ t0⟩
    simp [g__law_draw, runF_ap, t__law_draw, e1, t__law_draw_2, ixh2 hh, p2, fMod_i t0, fDiv_i dv, seth2 hh, settle_ok]
  · have z2 : b2 = 0 := by omega
    have s1 := step_eq (a1 := b1) (a2 := 0) (a3 := b3 - 1) (c := c) hh k4 k5
    refine ⟨(b4 * 48271 % 2147483647 + b5 * 40692 % 2147483399) % t, b1, 0, b3 - 1, b4 * 48271 % 2147483647, b5 * 40692 % 2147483399, ?_, ⟨k1, Int.le_refl _, by omega, by omega, by omega⟩, Int.emod_nonneg _ (by omega), Int.emod_lt_of_pos _ t0⟩
    subst z2
    simp [g__law_draw, runF_ap, t__law_draw, e1, t__law_draw_2, ixh2 hh, aug3 hh, s1, draw4 t1, fMod_i t0, settle_ok]
/-- a hand that stands well -/
def Hand (mo : MO) : Prop := ∃ c a1 a2 a3 a4 a5, mo = HD c a1 a2 a3 a4 a5 ∧ Hok a1 a2 a3 a4 a5
theorem draw_eq {mo : MO} (hh : h < M.length) (hm : Hand mo) {t : Int} (t0 : 0 < t) (t1 : t ≤ 4294967296) :
    ∃ r mo', Hand mo' ∧ 0 ≤ r ∧ r < t ∧ g__law_draw [.ptr h, .int t] (M.set h mo) = .ok (.int r) (M.set h mo') := by
  obtain ⟨c, a1, a2, a3, a4, a5, rfl, ok⟩ := hm
  obtain ⟨r, b1, b2, b3, b4, b5, e, ok', r0, r1⟩ := draw_HD (c := c) hh ok t0 t1
  exact ⟨r, _, ⟨c, b1, b2, b3, b4, b5, rfl, ok'⟩, r0, r1, e⟩
end
end QL
end
section
set_option Elab.async false
set_option linter.all false
set_option maxRecDepth 100000
set_option maxHeartbeats 4000000
set_option autoImplicit false
/-! HNames: the law's names. -/
namespace QL
open PySem PySem.Spec L2
open Classical
def ltr (n : Nat) : Str := ⟨#[97 + n]⟩
theorem ltrs_eq : ("abcdefghijklmnopqrstuvwxyz" : Str).cps.toList = (List.range 26).map (97 + ·) := by decide +kernel
theorem ix_ltr {M : Mem} {n : Nat} (h : n < 26) : fIxA (.str "abcdefghijklmnopqrstuvwxyz") (.int (n : Nat)) M = .ok (.str (ltr n)) M := by
  have e : L2.atI ("abcdefghijklmnopqrstuvwxyz" : Str).cps.toList ((n : Nat) : Int) = some (97 + n) := by
    rw [ltrs_eq]
    unfold L2.atI ixN
    rw [if_pos (Int.natCast_nonneg n), if_pos (by simp; omega)]
    simp [h]
  have z : ("abcdefghijklmnopqrstuvwxyz" : Str).length ≤ sizeLine := small (by decide)
  simp [fIxA, or2, orR, fDIx, look, asK, asTt, fIx, z, e, ltr]
def WORDS : List Str := ["join", "give", "wish", "withdraw", "meet", "undo", "redo", "purses", "lot", "choices", "plan", "room", "left", "could", "yes", "no", "ok", "a", "b", "ab", "ba", "aa", "z", "zz"]
theorem words_eq : Txt.split (("join give wish withdraw meet undo redo purses lot choices plan room left could yes no ok" : Str) ++ (" a b ab ba aa z zz" : Str)) " " = WORDS := by decide +kernel
/-- a name: one to eight small letters -/
def NmOk (x : Str) : Prop := 1 ≤ x.length ∧ x.length ≤ 8 ∧ ∀ c ∈ x.cps.toList, 97 ≤ c ∧ c < 123
theorem words_ok : ∀ x ∈ WORDS, NmOk x := by
  have h : ∀ x ∈ WORDS, (1 ≤ x.length ∧ x.length ≤ 8) ∧ (x.cps.toList.all fun c => decide (97 ≤ c) && decide (c < 123)) = true := by decide +kernel
  intro x hx
  obtain ⟨⟨h1, h2⟩, h3⟩ := h x hx
  refine ⟨h1, h2, fun c hc => ?_⟩
  have := List.all_eq_true.mp h3 c hc
  simpa using this
theorem words_nd : WORDS.Nodup := by decide +kernel
theorem cps_app (a b : Str) : (a ++ b).cps.toList = a.cps.toList ++ b.cps.toList := by
  show (a.cps ++ b.cps).toList = _
  rw [Array.toList_append]
theorem len_cps (a : Str) : a.length = a.cps.toList.length := by simp [Str.length]
theorem join_len {bs : List Str} (h : ∀ b ∈ bs, b.length = 1) : (Txt.join "" bs).length = bs.length := by
  have e : (bs.map (·.length)).sum = bs.length := by
    induction bs with
    | nil => rfl
    | cons b r ih =>
      rw [List.map_cons, List.sum_cons, h b List.mem_cons_self, ih fun x hx => h x (List.mem_cons_of_mem _ hx), List.length_cons]
      omega
  show (Builtin.Str.glued "" bs).length = _
  rw [size_glued, e]
  show bs.length + (bs.length - 1) * 0 = bs.length
  omega
theorem join_mem {c : Nat} : ∀ {bs : List Str}, c ∈ (Txt.join "" bs).cps.toList → ∃ b ∈ bs, c ∈ b.cps.toList := by
  intro bs
  rw [show Txt.join "" bs = Str.join "" bs from StrLaws.glued_eq_join "" bs]
  induction bs with
  | nil => intro h; exact absurd h (by simp [Str.join, Str.empty])
  | cons x r ih =>
    intro h
    cases r with
    | nil => exact ⟨x, List.mem_cons_self, h⟩
    | cons y r =>
      have h' : c ∈ (x ++ "" ++ Str.join "" (y :: r)).cps.toList := h
      rw [cps_app, cps_app, List.mem_append, List.mem_append] at h'
      rcases h' with (h' | h') | h'
      · exact ⟨x, List.mem_cons_self, h'⟩
      · exact absurd h' (by simp [show ("" : Str).cps.toList = [] from rfl])
      · obtain ⟨b, hb, hc⟩ := ih h'
        exact ⟨b, List.mem_cons_of_mem _ hb, hc⟩
section
variable {M : Mem} {h : Nat}
/-- the first comprehension: one to seven letters -/
theorem base_eq {mo : MO} (hh : h < M.length) (hm : Hand mo) {many way turn : D} {ws : D} : ∃ (bs : List Str) (mo' : MO), Hand mo' ∧ 1 ≤ bs.length ∧ bs.length ≤ 7 ∧ (∀ b ∈ bs, ∃ n, n < 26 ∧ b = ltr n) ∧
    e__law_names_1 [some (.ptr h), some many, some (.str "abcdefghijklmnopqrstuvwxyz"), some ws, some way, some turn, none, none, none] (M.set h mo) = .ok (.lst (bs.map D.str)) (M.set h mo') := by
  obtain ⟨r, mo1, hm1, r0, r1, e1⟩ := draw_eq hh hm (t := 7) (by decide) (by decide)
  obtain ⟨n, rfl⟩ := Int.eq_ofNat_of_zero_le r0
  have n7 : n < 7 := by exact_mod_cast r1
  obtain ⟨ys, mo2, hm2, l2, y2, e2⟩ := lcL_at (gd := fun _ => True) (fun _ => trivial) (g := gN 8) (b := bYes) (e := e2 fIxA (eVar 2) (eCall g__law_draw (aCons (eVar 0) (aCons (eC (.int 26)) aNil))))
    (S0 := [some (.ptr h), some many, some (.str "abcdefghijklmnopqrstuvwxyz"), some ws, some way, some turn, none, none, none]) (P := Hand) (Y := fun d => ∃ n, n < 26 ∧ d = .str (ltr n)) (M := M) (h := h)
    (rangeD 0 (1 + n)) [] mo1 (by rw [rangeD_len]; exact small (by simp; omega)) hm1 (fun d _ mo hm => by
      obtain ⟨r, mo', hm', r0, r1, e⟩ := draw_eq hh hm (t := 26) (by decide) (by decide)
      obtain ⟨k, rfl⟩ := Int.eq_ofNat_of_zero_le r0
      have k26 : k < 26 := by exact_mod_cast r1
      exact ⟨_, .str (ltr k), mo', hm', ⟨k, k26, rfl⟩, rfl, rfl, by simp [e, ix_ltr k26]⟩)
  have fs : ∀ ys : List D, (∀ y ∈ ys, ∃ n, n < 26 ∧ y = D.str (ltr n)) → ∃ bs : List Str, ys = bs.map D.str ∧ ∀ b ∈ bs, ∃ n, n < 26 ∧ b = ltr n := by
    intro ys
    induction ys with
    | nil => exact fun _ => ⟨[], rfl, by simp⟩
    | cons y r ih =>
      intro hy
      obtain ⟨n, hn, e⟩ := hy y List.mem_cons_self
      obtain ⟨bs, e', hb⟩ := ih fun z hz => hy z (List.mem_cons_of_mem _ hz)
      refine ⟨ltr n :: bs, by rw [e, e']; rfl, fun b hb' => ?_⟩
      rcases List.mem_cons.mp hb' with q | q
      · exact ⟨n, hn, q⟩
      · exact hb b q
  obtain ⟨bs, rfl, hb⟩ := fs ys y2
  rw [List.length_map, rangeD_len] at l2
  refine ⟨bs, mo2, hm2, by omega, by omega, hb, ?_⟩
  unfold e__law_names_1
  have tn : ((1 : Int) + (n : Int)).toNat = 1 + n := by omega
  rw [eLc_ap]
  simp only [iRange1_ap, aCons_ap, e2_ap, eC_ap, s2_ok, eCall_ap, eVar_ap, List.getElem?_cons_zero, vR_some, c1_ok, c2_ok, aNil_ap, cR_ok, e1, s3_ok, fAdd_i]
  rw [i1R_ok (by omega) (by omega), lcR_ok, tn]
  have e2' := e2
  simp only [List.nil_append] at e2'
  show lcE (lcL (fun _ => True) (gN 8) bYes _ (kl [8] _) _ [] _) = _
  simp only [kl_cons, kl_nil, List.set_cons_succ, List.set_cons_zero]
  rw [e2']
  rfl
def jnR (v : EF) (S : Sl) (r : Res D) : Res D := r.bind fun d M1 => match d with
  | .str x => (v S M1).bind fun y M2 => match seqOf M2 y with
    | some ds => match strsOf ds with
      | some ys => if (ys.map (·.length)).sum + ys.length * x.length ≤ 16777216 then .ok (.str (Txt.join x ys)) M2 else .bad
      | none => .bad
    | none => .bad
  | _ => .bad
theorem eJoin_ap {o v : EF} {S : Sl} {M : Mem} : eJoin o v S M = jnR v S (o S M) := rfl
theorem eJoin_at {o v : EF} {S : Sl} {M M1 M2 : Mem} {x : Str} {ys : List Str} (h1 : o S M = .ok (.str x) M1) (h2 : v S M1 = .ok (.lst (ys.map D.str)) M2) (h3 : (ys.map (·.length)).sum + ys.length * x.length ≤ 16777216) : eJoin o v S M = .ok (.str (Txt.join x ys)) M2 := by
  rw [eJoin_ap, h1]
  show (v S M1).bind _ = _
  rw [h2]
  simp [Res.bind, seqOf, asL, strsOf_map, h3]
theorem eSplit_at {o v : EF} {S : Sl} {M M1 M2 : Mem} {x b : Str} (h1 : o S M = .ok (.str x) M1) (h2 : v S M1 = .ok (.str b) M2) (h3 : (b.length == 0) = false) (h4 : x.length + 2 ≤ sizeLine) : eSplit o v S M = .ok (.lst ((Txt.split x b).map D.str)) M2 := by
  unfold eSplit
  rw [h1]
  show (v S M1).bind _ = _
  rw [h2]
  show (if (b.length == 0) = false ∧ x.length + 2 ≤ sizeLine then _ else _) = _
  rw [if_pos ⟨h3, h4⟩]
theorem words_at {S : Sl} {M : Mem} (hS : S[3]? = some (some (.str "join give wish withdraw meet undo redo purses lot choices plan room left could yes no ok"))) :
    eSplit (e2 fAdd (eVar 3) (eC (.str " a b ab ba aa z zz"))) (eC (.str " ")) S M = .ok (.lst (WORDS.map D.str)) M := by
  have z : ("join give wish withdraw meet undo redo purses lot choices plan room left could yes no ok" : Str).length + (" a b ab ba aa z zz" : Str).length ≤ sizeLine := by rw [sizeLine_eq]; decide +kernel
  rw [eSplit_at (x := ("join give wish withdraw meet undo redo purses lot choices plan room left could yes no ok" : Str) ++ (" a b ab ba aa z zz" : Str)) (b := " ") (M1 := M) (M2 := M) (by simp [hS, z]) rfl (by decide +kernel) (by rw [sizeLine_eq]; decide +kernel), words_eq]
theorem map_ranges {m : Nat} (F : Nat → Str) : (rangeD 0 m).filterMap (fun d => match d with | .int i => some (D.str (F i.toNat)) | _ => none) = ((List.range m).map F).map D.str := by
  unfold rangeD
  rw [List.filterMap_map, List.map_map, ← List.filterMap_eq_map]
  congr 1
  funext x
  simp
theorem nodup_map {m : Nat} {F : Nat → Str} (h : ∀ i j, i < m → j < m → F i = F j → i = j) : ((List.range m).map F).Nodup := by
  refine List.pairwise_map.mpr ((List.nodup_range (n := m)).imp_of_mem fun {a b} ha hb ne e => ne (h a b (List.mem_range.mp ha) (List.mem_range.mp hb) e))
theorem mem_rangeD {m : Nat} {d : D} (h : d ∈ rangeD 0 m) : ∃ k, k < m ∧ d = .int (k : Nat) := by
  unfold rangeD at h
  obtain ⟨k, hk, e⟩ := List.mem_map.mp h
  exact ⟨k, List.mem_range.mp hk, by rw [← e]; simp⟩
section
variable {M : Mem} {S : Sl}
/-- way 1: single letters -/
theorem way1_eq {m tn : Nat} (hm : m ≤ 26) (ht : tn < 24) (h1 : S[1]? = some (some (.int (m : Nat)))) (h2 : S[2]? = some (some (.str "abcdefghijklmnopqrstuvwxyz"))) (h5 : S[5]? = some (some (.int (tn : Nat)))) (h8 : S.length = 9) :
    e__law_names_3 S M = .ok (.lst (((List.range m).map fun k => ltr ((tn + 3 * k) % 26)).map D.str)) M := by
  unfold e__law_names_3
  rw [eLc_ap]
  simp only [iRange1_ap, aCons_ap, eVar_ap, h1, vR_some, c1_ok, c2_ok, aNil_ap]
  rw [i1R_ok (by omega) (by omega), lcR_ok, Int.toNat_natCast]
  have g1 : ∀ (o : Option D) (i : Nat), i ≠ 8 → (S.set 8 o)[i]? = S[i]? := fun o i hi => by rw [List.getElem?_set_ne (Ne.symm hi)]
  rw [lcL_map (gd := Its.gd ⟨rangeD 0 m, none⟩) trivial (fun d => match d with | .int i => some (D.str (ltr ((tn + 3 * i.toNat) % 26))) | _ => none) (rangeD 0 m) [] (by rw [rangeD_len]; exact small (by simp; omega)) fun d hd => by
    obtain ⟨k, hk, rfl⟩ := mem_rangeD hd
    refine ⟨(kl [8] S).set 8 (some (.int (k : Nat))), rfl, rfl, ?_⟩
    have mm : CMulW 3 (k : Int) := mulW (k := 8) (l := 8) (by decide) (by constructor <;> omega) (by decide) (by decide) (by decide)
    have e8 : ((kl [8] S).set 8 (some (D.int (k : Nat))))[8]? = some (some (D.int (k : Nat))) := List.getElem?_set_self (by simp [h8])
    have e2 : ((kl [8] S).set 8 (some (D.int (k : Nat))))[2]? = some (some (.str "abcdefghijklmnopqrstuvwxyz")) := by simp [h2]
    have e5 : ((kl [8] S).set 8 (some (D.int (k : Nat))))[5]? = some (some (.int (tn : Nat))) := by simp [h5]
    have en : ((tn : Int) + 3 * (k : Int)) % 26 = (((tn + 3 * k) % 26 : Nat) : Int) := by omega
    have lt : (tn + 3 * k) % 26 < 26 := by omega
    simp only [e2_ap, eVar_ap, e2, e5, e8, vR_some, s2_ok, s3_ok, eC_ap, fMul_i mm, fAdd_i, fMod_i (show (0 : Int) < 26 by decide), en, ix_ltr lt]
    simp]
  rw [List.nil_append, map_ranges fun k => ltr ((tn + 3 * k) % 26)]
  rfl
theorem ltr_inj {a b : Nat} (h : ltr a = ltr b) : a = b := by
  unfold ltr at h
  injection h with h
  have := congrArg Array.toList h
  simp at this
  omega
theorem way1_nd {m tn : Nat} (hm : m ≤ 26) : ((List.range m).map fun k => ltr ((tn + 3 * k) % 26)).Nodup := nodup_map fun i j hi hj e => by
  have := ltr_inj e
  omega
def nm (b : Str) (at_ n : Nat) : Str := cutS b none (some (at_ : Int)) ++ ltr n ++ cutS b (some (at_ : Int)) none
theorem nm_cps (b : Str) (a n : Nat) : (nm b a n).cps.toList = b.cps.toList.take a ++ [97 + n] ++ b.cps.toList.drop a := by
  unfold nm
  rw [cps_app, cps_app, cutS_take (Int.natCast_nonneg a), cutS_drop (Int.natCast_nonneg a), Int.toNat_natCast]
  rfl
theorem nm_inj {b : Str} {a n k : Nat} (h : nm b a n = nm b a k) : n = k := by
  have e := congrArg (fun z => z.cps.toList) h
  simp only [nm_cps, List.append_assoc] at e
  have e2 := List.append_cancel_left e
  simp at e2
  exact e2
theorem nm_len (b : Str) (a n : Nat) : (nm b a n).length = b.length + 1 := by
  rw [len_cps, nm_cps, len_cps b]
  simp only [List.length_append, List.length_take, List.length_drop, List.length_singleton]
  omega
/-- way 2, 3: a letter within the base -/
theorem way2_eq {m tn a : Nat} {b : Str} (hm : m ≤ 26) (ht : tn < 24) (hb : b.length ≤ 7) (h1 : S[1]? = some (some (.int (m : Nat)))) (h2 : S[2]? = some (some (.str "abcdefghijklmnopqrstuvwxyz"))) (h5 : S[5]? = some (some (.int (tn : Nat)))) (h6 : S[6]? = some (some (.str b))) (h7 : S[7]? = some (some (.int (a : Nat)))) (h8 : S.length = 9) :
    e__law_names_5 S M = .ok (.lst (((List.range m).map fun k => nm b a ((tn + 3 * k) % 26)).map D.str)) M := by
  unfold e__law_names_5
  rw [eLc_ap]
  simp only [iRange1_ap, aCons_ap, eVar_ap, h1, vR_some, c1_ok, c2_ok, aNil_ap]
  rw [i1R_ok (by omega) (by omega), lcR_ok, Int.toNat_natCast]
  have zb : b.length ≤ sizeLine := small (by omega)
  rw [lcL_map (gd := Its.gd ⟨rangeD 0 m, none⟩) trivial (fun d => match d with | .int i => some (D.str (nm b a ((tn + 3 * i.toNat) % 26))) | _ => none) (rangeD 0 m) [] (by rw [rangeD_len]; exact small (by simp; omega)) fun d hd => by
    obtain ⟨k, hk, rfl⟩ := mem_rangeD hd
    refine ⟨(kl [8] S).set 8 (some (.int (k : Nat))), rfl, rfl, ?_⟩
    have mm : CMulW 3 (k : Int) := mulW (k := 8) (l := 8) (by decide) (by constructor <;> omega) (by decide) (by decide) (by decide)
    have e8 : ((kl [8] S).set 8 (some (D.int (k : Nat))))[8]? = some (some (D.int (k : Nat))) := List.getElem?_set_self (by simp [h8])
    have e2 : ((kl [8] S).set 8 (some (D.int (k : Nat))))[2]? = some (some (.str "abcdefghijklmnopqrstuvwxyz")) := by simp [h2]
    have e5 : ((kl [8] S).set 8 (some (D.int (k : Nat))))[5]? = some (some (.int (tn : Nat))) := by simp [h5]
    have e6 : ((kl [8] S).set 8 (some (D.int (k : Nat))))[6]? = some (some (.str b)) := by simp [h6]
    have e7 : ((kl [8] S).set 8 (some (D.int (k : Nat))))[7]? = some (some (.int (a : Nat))) := by simp [h7]
    have en : ((tn : Int) + 3 * (k : Int)) % 26 = (((tn + 3 * k) % 26 : Nat) : Int) := by omega
    have lt : (tn + 3 * k) % 26 < 26 := by omega
    have l1 : (cutS b none (some (a : Int))).length ≤ 7 := by
      rw [len_cps, cutS_take (Int.natCast_nonneg a), List.length_take, ← len_cps]
      omega
    have l2 : (cutS b (some (a : Int)) none).length ≤ 7 := by
      rw [len_cps, cutS_drop (Int.natCast_nonneg a), List.length_drop, ← len_cps]
      omega
    have l3 : (cutS b none (some (a : Int)) ++ ltr ((tn + 3 * k) % 26)).length ≤ 8 := by
      rw [len_cps, cps_app, List.length_append, ← len_cps, ← len_cps]
      have : (ltr ((tn + 3 * k) % 26)).length = 1 := rfl
      omega
    have z1 : (cutS b none (some (a : Int))).length + (ltr ((tn + 3 * k) % 26)).length ≤ sizeLine := small (by have : (ltr ((tn + 3 * k) % 26)).length = 1 := rfl; omega)
    have z2 : (cutS b none (some (a : Int)) ++ ltr ((tn + 3 * k) % 26)).length + (cutS b (some (a : Int)) none).length ≤ sizeLine := small (by omega)
    have f1 : ∀ lo hi, fSl (.str b) lo hi M = .ok (.str (cutS b lo hi)) M := fun lo hi => if_pos zb
    simp only [e2_ap, eVar_ap, e2, e5, e6, e7, e8, vR_some, s2_ok, s3_ok, eC_ap, fMul_i mm, fAdd_i, fMod_i (show (0 : Int) < 26 by decide), en, ix_ltr lt, eSl_ap, sl1_ok, sl2_ok, sl3_ok, oNone_ap, oSome_ap, soR_ok, f1, fAdd_s, if_pos z1, if_pos z2]
    simp [nm]]
  rw [List.nil_append, map_ranges fun k => nm b a ((tn + 3 * k) % 26)]
  rfl
theorem way2_nd {m tn a : Nat} {b : Str} (hm : m ≤ 26) : ((List.range m).map fun k => nm b a ((tn + 3 * k) % 26)).Nodup := nodup_map fun i j hi hj e => by
  have := nm_inj e
  omega
end
section
variable {M : Mem} {h : Nat}
/-- the slots behind the draws -/
def nS (h m : Nat) (way : Int) (tn : Nat) (b : Str) (an : Nat) : Sl := [some (.ptr h), some (.int (m : Nat)), some (.str "abcdefghijklmnopqrstuvwxyz"), some (.lst (WORDS.map D.str)), some (.int way), some (.int (tn : Nat)), some (.str b), some (.int (an : Nat)), none]
theorem names_pre {mo : MO} (hh : h < M.length) (hm : Hand mo) {m : Nat} : ∃ (way : Int) (tn an : Nat) (b : Str) (mo' : MO), Hand mo' ∧ tn < 24 ∧ 1 ≤ b.length ∧ b.length ≤ 7 ∧ (∀ c ∈ b.cps.toList, 97 ≤ c ∧ c < 123) ∧
    g__law_names [.ptr h, .int (m : Nat)] (M.set h mo) = fnR (M.set h mo).length ((kSeq t__law_names_2 (kSeq t__law_names_4 (kRet e__law_names_5))) (nS h m way tn b an) (M.set h mo')) := by
  obtain ⟨way, mo1, hm1, w0, w1, e1⟩ := draw_eq hh hm (t := 4) (by decide) (by decide)
  obtain ⟨turn, mo2, hm2, t0, t1, e2'⟩ := draw_eq hh hm1 (t := 24) (by decide) (by decide)
  obtain ⟨bs, mo3, hm3, b1, b7, hb, e3⟩ := base_eq hh hm2 (many := .int (m : Nat)) (way := .int way) (turn := .int turn) (ws := .lst (WORDS.map D.str))
  have one : ∀ b ∈ bs, b.length = 1 := fun b hb' => by obtain ⟨n, _, e⟩ := hb b hb'; rw [e]; rfl
  have jl := join_len one
  obtain ⟨at_, mo4, hm4, a0, a1, e4⟩ := draw_eq hh hm3 (t := ((Txt.join "" bs).length : Int) + 1) (by omega) (by rw [jl]; omega)
  obtain ⟨tn, rfl⟩ := Int.eq_ofNat_of_zero_le t0
  obtain ⟨an, rfl⟩ := Int.eq_ofNat_of_zero_le a0
  have tn24 : tn < 24 := by exact_mod_cast t1
  have sums : (bs.map (·.length)).sum = bs.length := by
    have := size_glued "" bs
    have e : (Builtin.Str.glued "" bs).length = bs.length := jl
    rw [e] at this
    have z : (bs.length - 1) * ("" : Str).length = 0 := by show (bs.length - 1) * 0 = 0; omega
    omega
  have ej := eJoin_at (o := eC (.str "")) (v := e__law_names_1) (x := "") (ys := bs) (M := M.set h mo2) (M1 := M.set h mo2) rfl e3 (by rw [sums]; show bs.length + bs.length * 0 ≤ 16777216; omega)
  have zb : (Txt.join "" bs).length ≤ sizeLine := small (by omega)
  have el : ∀ N : Mem, bLenA [.str (Txt.join "" bs)] N = .ok (.int ((Txt.join "" bs).length : Nat)) N := fun N => by
    show orR (if (Txt.join "" bs).length ≤ sizeLine then _ else _) _ = _
    rw [if_pos zb]
    rfl
  have ew := words_at (M := M.set h mo) (S := [some (.ptr h), some (.int (m : Nat)), some (.str "abcdefghijklmnopqrstuvwxyz"), some (.str "join give wish withdraw meet undo redo purses lot choices plan room left could yes no ok"), none, none, none, none, none]) rfl
  have bc : ∀ c ∈ (Txt.join "" bs).cps.toList, 97 ≤ c ∧ c < 123 := fun c hc => by
    obtain ⟨b, hb', hc'⟩ := join_mem hc
    obtain ⟨n, hn, e⟩ := hb b hb'
    rw [e] at hc'
    have hc2 : c ∈ [97 + n] := hc'
    have := List.mem_singleton.mp hc2
    omega
  refine ⟨way, tn, an, Txt.join "" bs, mo4, hm4, tn24, by omega, by omega, bc, ?_⟩
  unfold g__law_names
  rw [runF_ap (show [D.ptr h, D.int (m : Nat)].length = 2 from rfl)]
  congr 1
  unfold t__law_names nS
  simp only [kSeq_ap, kAsg_ap, eC_ap, asR_ok, gN_ap, stR_ok, thn_nx, List.map_cons, List.map_nil, List.replicate, List.cons_append, List.nil_append, List.set_cons_succ, List.set_cons_zero, ew]
  simp only [kSeq_ap, kAsg_ap, eTup_ap, aCons_ap, eCall_ap, eVar_ap, List.getElem?_cons_zero, vR_some, c1_ok, eC_ap, c2_ok, aNil_ap, cR_ok, e1, e2', tpR_2, asR_ok, gTupF_2, gConsF_ap, gN_ap, gcR_ok, gNilF_ap, stR_ok, thn_nx, List.set_cons_succ, List.set_cons_zero, ej, List.getElem?_cons_succ, el, e2_ap, s2_ok, s3_ok, fAdd_i, e4]
theorem names_w0 {m tn an : Nat} {b : Str} {N : Mem} (ht : tn < 24) : (kSeq t__law_names_2 (kSeq t__law_names_4 (kRet e__law_names_5))) (nS h m 0 tn b an) N = .rt (.lst (((WORDS.drop tn ++ WORDS.take tn).take m).map D.str)) N := by
  have zz : WORDS.length - tn + min tn WORDS.length ≤ sizeLine := small (by
    have : WORDS.length = 24 := rfl
    omega)
  unfold t__law_names_2 nS
  simp [cutD_take, cutD_drop, zz]
theorem names_w1 {m tn an : Nat} {b : Str} {N : Mem} (hm : m ≤ 24) (ht : tn < 24) : (kSeq t__law_names_2 (kSeq t__law_names_4 (kRet e__law_names_5))) (nS h m 1 tn b an) N = .rt (.lst (((List.range m).map fun k => ltr ((tn + 3 * k) % 26)).map D.str)) N := by
  have q := way1_eq (M := N) (S := nS h m 1 tn b an) (m := m) (tn := tn) (by omega) ht rfl rfl rfl rfl
  generalize e__law_names_5 = e5
  unfold t__law_names_2 t__law_names_4
  unfold nS at q ⊢
  simp only [kSeq_ap, kIf_ap, bV_ap, e2_ap, eVar_ap, List.getElem?_cons_succ, List.getElem?_cons_zero, vR_some, s2_ok, eC_ap, s3_ok, fEqA_i, show decide ((1 : Int) = 0) = false from rfl, decide_true, bR_ok, ifR_f, kNil_ap, thn_nx, ifR_t, kRet_ap, q, rtR_ok, thn_rt]
theorem names_w2 {m tn an : Nat} {b : Str} {N : Mem} {way : Int} (hm : m ≤ 24) (ht : tn < 24) (hb : b.length ≤ 7) (w0 : way ≠ 0) (w1 : way ≠ 1) : (kSeq t__law_names_2 (kSeq t__law_names_4 (kRet e__law_names_5))) (nS h m way tn b an) N = .rt (.lst (((List.range m).map fun k => nm b an ((tn + 3 * k) % 26)).map D.str)) N := by
  have q := way2_eq (M := N) (S := nS h m way tn b an) (m := m) (tn := tn) (a := an) (b := b) (by omega) ht hb rfl rfl rfl rfl rfl rfl
  unfold t__law_names_2 t__law_names_4
  unfold nS at q ⊢
  simp only [kSeq_ap, kIf_ap, bV_ap, e2_ap, eVar_ap, List.getElem?_cons_succ, List.getElem?_cons_zero, vR_some, s2_ok, eC_ap, s3_ok, fEqA_i, decide_eq_false w0, decide_eq_false w1, bR_ok, ifR_f, kNil_ap, thn_nx, kRet_ap, q, rtR_ok]
/-- THE NAMES: m different ones -/
theorem names_eqS {mo : MO} (hh : h < M.length) (hm : Hand mo) {m : Nat} (m24 : m ≤ 24) : ∃ (ns : List Str) (mo' : MO), Hand mo' ∧ ns.length = m ∧ ns.Nodup ∧ (∀ x ∈ ns, NmOk x) ∧ ((∀ x ∈ ns, x ∈ WORDS) ∨ ∃ L, ∀ x ∈ ns, x.length = L) ∧
    g__law_names [.ptr h, .int (m : Nat)] (M.set h mo) = .ok (.lst (ns.map D.str)) (M.set h mo') := by
  obtain ⟨way, tn, an, b, mo', hm', ht, b1, b7, bc, e⟩ := names_pre (m := m) hh hm
  have fin : ∀ d : D, fnR (M.set h mo).length (.rt d (M.set h mo')) = .ok d (M.set h mo') := fun d => by
    rw [fnR_rt]
    exact settle_ok (by rw [List.length_set, List.length_set]; exact Nat.le_refl _)
  by_cases w : way = 0
  · refine ⟨((WORDS.drop tn ++ WORDS.take tn).take m), mo', hm', ?_, ?_, ?_, .inl ?_, ?_⟩
    · simp only [List.length_take, List.length_append, List.length_drop]
      have : WORDS.length = 24 := rfl
      omega
    · have p : (WORDS.drop tn ++ WORDS.take tn).Perm WORDS := List.perm_append_comm.trans (by rw [List.take_append_drop])
      exact (p.nodup_iff.mpr words_nd).sublist (List.take_sublist _ _)
    · intro x hx
      have := List.mem_of_mem_take hx
      rcases List.mem_append.mp this with q | q
      · exact words_ok x (List.mem_of_mem_drop q)
      · exact words_ok x (List.mem_of_mem_take q)
    · intro x hx
      have := List.mem_of_mem_take hx
      rcases List.mem_append.mp this with q | q
      · exact List.mem_of_mem_drop q
      · exact List.mem_of_mem_take q
    · rw [e, w, names_w0 ht]
      exact fin _
  · by_cases w2 : way = 1
    · refine ⟨(List.range m).map fun k => ltr ((tn + 3 * k) % 26), mo', hm', by simp, way1_nd (by omega), fun x hx => ?_, .inr ⟨1, fun x hx => ?_⟩, ?_⟩
      · obtain ⟨k, _, rfl⟩ := List.mem_map.mp hx
        refine ⟨Nat.le_refl 1, by show 1 ≤ 8; omega, fun c hc => ?_⟩
        have hc2 : c ∈ [97 + (tn + 3 * k) % 26] := hc
        have := List.mem_singleton.mp hc2
        omega
      · obtain ⟨k, _, rfl⟩ := List.mem_map.mp hx
        rfl
      · rw [e, w2, names_w1 m24 ht]
        exact fin _
    · refine ⟨(List.range m).map fun k => nm b an ((tn + 3 * k) % 26), mo', hm', by simp, way2_nd (by omega), fun x hx => ?_, .inr ⟨b.length + 1, fun x hx => ?_⟩, ?_⟩
      · obtain ⟨k, _, rfl⟩ := List.mem_map.mp hx
        refine ⟨by rw [nm_len]; omega, by rw [nm_len]; omega, fun c hc => ?_⟩
        rw [nm_cps] at hc
        rcases List.mem_append.mp hc with q | q
        · rcases List.mem_append.mp q with q | q
          · exact bc c (List.mem_of_mem_take q)
          · have := List.mem_singleton.mp q
            omega
        · exact bc c (List.mem_of_mem_drop q)
      · obtain ⟨k, _, rfl⟩ := List.mem_map.mp hx
        exact nm_len _ _ _
      · rw [e, names_w2 m24 ht b7 w w2]
        exact fin _
theorem names_eq {mo : MO} (hh : h < M.length) (hm : Hand mo) {m : Nat} (m24 : m ≤ 24) : ∃ (ns : List Str) (mo' : MO), Hand mo' ∧ ns.length = m ∧ ns.Nodup ∧ (∀ x ∈ ns, NmOk x) ∧
    g__law_names [.ptr h, .int (m : Nat)] (M.set h mo) = .ok (.lst (ns.map D.str)) (M.set h mo') := by
  obtain ⟨ns, mo', a, b, c, d, _, e⟩ := names_eqS hh hm m24
  exact ⟨ns, mo', a, b, c, d, e⟩
end
end
end QL
end
section
set_option Elab.async false
set_option linter.all false
set_option maxRecDepth 100000
set_option maxHeartbeats 4000000
set_option autoImplicit false
/-! KLib2: what all these laws' proofs lean on. -/
namespace QL
open PySem PySem.Spec L2
open Classical
theorem ixs {ns : List Str} {M : Mem} {n : Nat} (hn : n < ns.length) : fIxA (.lst (ns.map D.str)) (.int (n : Nat)) M = .ok (.str ns[n]) M := fIxA_l (by simp [hn])
/-- no place of the store is named -/
def NoP (M : Mem) : Prop := ∀ n, lowM n M = true
theorem settle_cut {n : Nat} {d : D} {M : Mem} (h : n < M.length) (h1 : lowD n d = true) (h2 : lowM n (M.take n) = true) : settle n (.ok d M) = .ok d (M.take n) := by
  have h3 : ¬ M.length ≤ n := by omega
  simp [settle, h1, h2, h3]
theorem NoP.set {M : Mem} {h : Nat} {mo : MO} (hM : NoP M) (hm : ∀ n, lowO n mo = true) : NoP (M.set h mo) := fun n => by
  unfold lowM
  rw [List.all_eq_true]
  intro x hx
  rcases List.mem_or_eq_of_mem_set hx with q | q
  · exact List.all_eq_true.mp (hM n) x q
  · rw [q]; exact hm n
theorem lowDs_map {α : Type} {n : Nat} {f : α → D} (h : ∀ x, lowD n (f x) = true) : ∀ l : List α, lowDs n (l.map f) = true
  | [] => rfl
  | x :: r => by
    show (lowD n (f x) && lowDs n (r.map f)) = true
    rw [h x, lowDs_map h r]
    rfl
theorem Hand.low {mo : MO} (hm : Hand mo) (n : Nat) : lowO n mo = true := by
  obtain ⟨c, a1, a2, a3, a4, a5, rfl, _⟩ := hm
  show (lowDs n (c.map D.int) && lowDs n [.int a1, .int a2, .int a3, .int a4, .int a5]) = true
  rw [lowDs_map (fun _ => rfl)]
  rfl
section
variable {M : Mem} {h : Nat}
end
abbrev Fn := Str → Int
noncomputable def fu (f : Fn) (a : Str) (v : Int) : Fn := fun x => if x = a then v else f x
theorem fu_same {f : Fn} {a : Str} {v : Int} : fu f a v a = v := if_pos rfl
theorem fu_ne {f : Fn} {a x : Str} {v : Int} (h : x ≠ a) : fu f a v x = f x := if_neg h
/-- a dict with the keys ks -/
def TE (ks : List Str) (v : Str → D) : List (Key × D) := ks.map fun x => (Sum.inr x, v x)
theorem te_len (ks : List Str) (v : Str → D) : (TE ks v).length = ks.length := List.length_map _
theorem te_cong {ks : List Str} {v w : Str → D} (h : ∀ x ∈ ks, v x = w x) : TE ks v = TE ks w := List.map_congr_left fun x hx => by rw [h x hx]
theorem te_val {v : Str → D} {x : Str} : ∀ {ks : List Str}, x ∈ ks → valD (TE ks v) (.inr x) = some (v x)
  | y :: r, h => by
    by_cases e : y = x
    · subst e
      simp [valD, TE, List.find?_cons]
    · rcases List.mem_cons.mp h with q | q
      · exact absurd q.symm e
      · have ih := te_val (v := v) q
        unfold valD TE at ih ⊢
        rw [List.map_cons, List.find?_cons]
        simp only [Sum.inr.injEq, e, decide_false]
        exact ih
theorem te_any {v : Str → D} {x : Str} {ks : List Str} : ((TE ks v).any fun kv => decide (kv.1 = (Sum.inr x : Key))) = decide (x ∈ ks) := by
  induction ks with
  | nil => simp [TE]
  | cons y r ih =>
    have ih' : (r.map fun x => ((Sum.inr x : Key), v x)).any (fun kv => decide (kv.1 = (Sum.inr x : Key))) = decide (x ∈ r) := ih
    unfold TE
    rw [List.map_cons, List.any_cons, ih']
    by_cases e : y = x
    · simp [e]
    · have e' : ¬ x = y := fun z => e z.symm
      simp [e, e']
theorem te_new {v : Str → D} {x : Str} {d : D} {ks : List Str} (h : x ∉ ks) : putKD (TE ks v) (.inr x) d = TE (ks ++ [x]) (fun y => if y = x then d else v y) := by
  unfold putKD
  rw [te_any, decide_eq_false h, if_neg Bool.false_ne_true]
  unfold TE
  rw [List.map_append]
  have : (ks.map fun y => ((Sum.inr y : Key), v y)) = ks.map fun y => ((Sum.inr y : Key), if y = x then d else v y) := List.map_congr_left fun y hy => by
    have : y ≠ x := fun e => h (e ▸ hy)
    simp [this]
  rw [this]
  simp
/-! ### places of the store -/
section
variable {M : Mem} {x y z : MO} {l : Mem}
theorem g0 : (M ++ x :: l)[M.length]? = some x := by simp
theorem s0 : (M ++ x :: l).set M.length y = M ++ y :: l := by simp
theorem g1 : (M ++ x :: y :: l)[M.length + 1]? = some y := by
  rw [List.getElem?_append_right (by omega)]
  simp
theorem s1 : (M ++ x :: y :: l).set (M.length + 1) z = M ++ x :: z :: l := by
  rw [List.set_append_right _ _ (by omega)]
  simp
end
section
variable {N N1 N2 N3 : Mem} {k : Nat} {ks : List Str} {v : Str → D} {x : Str} {d : D} {S : Sl} {o i e : EF} {kvs : List (Key × D)}
theorem look_at' (h : N[k]? = some (.dK kvs)) : look N (.ptr k) (.str x) = some (valD kvs (.inr x)) := by
  simp [look, asK, h, keyOf]
theorem dput_at' (h : N[k]? = some (.dK kvs)) (hl : kvs.length < sizeLine) : dput k (.str x) d N = some (N.set k (.dK (putKD kvs (.inr x) d))) := by
  simp [dput, h, keyOf, hl]
theorem kDPut_at (h1 : e S N = .ok d N1) (h2 : o S N1 = .ok (.ptr k) N2) (h3 : i S N2 = .ok (.str x) N3) (h4 : N3[k]? = some (.dK kvs)) (hl : kvs.length < sizeLine) : kDPut o i e S N = .nx S (N3.set k (.dK (putKD kvs (.inr x) d))) := by
  unfold kDPut
  rw [h1]
  show (o S N1).thn S _ = _
  rw [h2]
  show (i S N2).thn S _ = _
  rw [h3]
  show (match dput k (.str x) d N3 with | some M4 => SR.nx S M4 | none => SR.bad) = _
  rw [dput_at' h4 hl]
theorem eFrz_k (h1 : e S N = .ok (.ptr k) N1) (h2 : N1[k]? = some (.dK kvs)) : eFrz e S N = .ok (.dK kvs) (N1.set k .gone) := by
  have e1 : frz (.ptr k) N1 = some (.dK kvs, N1.set k .gone) := by simp [frz, h2]
  unfold eFrz
  rw [h1]
  show (match frz (.ptr k) N1 with | some (d', M2) => _ | none => _) = _
  rw [e1]
end
/-- a dict of ints -/
def TI (ks : List Str) (f : Fn) : List (Key × D) := TE ks fun x => .int (f x)
theorem ti_new {ks : List Str} {f : Fn} {x : Str} {v : Int} (h : x ∉ ks) : putKD (TI ks f) (.inr x) (.int v) = TI (ks ++ [x]) (fu f x v) := by
  unfold TI
  rw [te_new h]
  exact te_cong fun y _ => by unfold fu; split <;> rfl
theorem ti_cong {ks : List Str} {f g : Fn} (h : ∀ x ∈ ks, f x = g x) : TI ks f = TI ks g := te_cong fun x hx => by rw [h x hx]
theorem lowK_ti {n : Nat} : ∀ {ks : List Str} {f : Fn}, lowK n (TI ks f) = true
  | [], _ => rfl
  | x :: r, f => by
    show (true && lowK n (TI r f)) = true
    rw [lowK_ti]
    rfl
theorem set_fail {d : D} {M : Mem} {l : Mem} (hM : NoP M) (h1 : lowD M.length d = true) (hl : l ≠ []) : settle M.length (.ok d (M ++ l)) = .ok d M := by
  have : 0 < l.length := List.length_pos_iff.mpr hl
  rw [settle_cut (by rw [List.length_append]; omega) h1 (by rw [List.take_left]; exact hM _), List.take_left]
theorem NoP.app {a b : Mem} (h1 : NoP a) (h2 : NoP b) : NoP (a ++ b) := fun n => by
  have e1 := h1 n
  have e2 := h2 n
  unfold lowM at e1 e2 ⊢
  rw [List.all_append, e1, e2]
  rfl
theorem NoP.gone : NoP [MO.gone] := fun _ => rfl
theorem NoP.nil : NoP [] := fun _ => rfl
theorem hand_eq (ns : List Int) (h : ns.length ≤ 63) : ∃ mo, Hand mo ∧ g__law_hand [.lst (ns.map D.int)] [] = .ok (.ptr 0) [mo] := by
  refine ⟨HD ns 0 0 0 20011 40009, ⟨ns, 0, 0, 0, 20011, 40009, rfl, by decide, by decide, by decide, ⟨by decide, by decide⟩, ⟨by decide, by decide⟩⟩, ?_⟩
  unfold g__law_hand
  rw [runF_ap (show [D.lst (ns.map D.int)].length = 1 from rfl)]
  unfold t__law_hand
  have cut : cutD (ns.map D.int) none (some 63) = ns.map D.int := by
    rw [cutD_take (by decide)]
    exact List.take_of_length_le (by rw [List.length_map]; exact h)
  have bl : bList [.lst (ns.map D.int)] [] = .ok (.lst (ns.map D.int)) [] := rfl
  simp only [List.map_cons, List.map_nil, List.replicate, List.cons_append, List.nil_append, kRet_ap, eLstP_ap, aCons_ap, eCall_ap, eSl_ap, eVar_ap, List.getElem?_cons_succ, List.getElem?_cons_zero, vR_some, sl1_ok, oNone_ap, sl2_ok, oSome_ap, eC_ap, soR_ok, sl3_ok, fSl_l, cut, c1_ok, aNil_ap, c2_ok, cR_ok, bl, lpR_6, rtR_ok, fnR_rt]
  rfl
theorem nop1 {mo : MO} (h : Hand mo) : NoP [mo] := fun n => by
  show (lowO n mo && true) = true
  rw [Hand.low h n]
  rfl

theorem forL_step {gd : Mem → Prop} {g : GF} {t : TF} {vs : List Nat} {d : D} {r : List D} {S S1 : Sl} {M M1 : Mem} (hg : gd M) (e1 : g d S M = .ok S1 M1) : forL gd g t vs (d :: r) S M = match t S1 M1 with
    | .nx S2 M2 => forL gd g t vs r (kl vs S2) M2
    | .ct S2 M2 => forL gd g t vs r (kl vs S2) M2
    | .bk S2 M2 => .nx S2 M2
    | r => r := by
  conv => lhs; unfold forL
  rw [if_pos hg, e1]
  rfl
theorem forL_end {gd : Mem → Prop} {g : GF} {t : TF} {vs : List Nat} {S : Sl} {M : Mem} (hg : gd M) : forL gd g t vs [] S M = .nx S M := by
  unfold forL
  rw [if_pos hg]
/-- a comprehension over things that are written out -/
theorem lcM {α : Type} {gd : Mem → Prop} {g : GF} {b : BF} {e : EF} {S0 : Sl} {M : Mem} (hg : gd M) (enc out : α → D) : ∀ (xs : List α) (acc : List D), acc.length + xs.length ≤ sizeLine →
    (∀ x ∈ xs, ∃ S1, g (enc x) S0 M = .ok S1 M ∧ b S1 M = .ok true M ∧ e S1 M = .ok (out x) M) → lcL gd g b e S0 (xs.map enc) acc M = .ok (acc ++ xs.map out) M
  | [], acc, _, _ => by rw [List.map_nil, List.map_nil, List.append_nil]; unfold lcL; rw [if_pos hg]
  | x :: r, acc, hl, hs => by
    obtain ⟨S1, e1, e2, e3⟩ := hs x List.mem_cons_self
    rw [List.length_cons] at hl
    rw [List.map_cons]
    unfold lcL
    rw [if_pos hg, e1]
    simp only [e2, e3]
    rw [if_pos (by omega), lcM hg enc out r (acc ++ [out x]) (by rw [List.length_append, List.length_singleton]; omega) fun y hy => hs y (List.mem_cons_of_mem _ hy), List.append_assoc]
    rfl
section
variable {S : Sl} {M M1 M2 M3 M4 : Mem} {x y u d : D} {a b c e : EF} {f g : D → D → Mem → Res D}
theorem e3_at (h1 : a S M = .ok x M1) (h2 : b S M1 = .ok y M2) (h3 : f x y M2 = .ok (.bl true) M3) (h4 : c S M3 = .ok u M4) : e3 f g a b c S M = g y u M4 := by
  unfold e3
  rw [h1]
  show (b S M1).bind _ = _
  rw [h2]
  show (f x y M2).bind _ = _
  rw [h3]
  show (c S M3).bind _ = _
  rw [h4]
  rfl
theorem eIsT_at {t n : String} (h : e S M = .ok d M1) (hn : tyName M1 d = some n) : eIsT t e S M = .ok (.bl (isTy n t)) M1 := by
  unfold eIsT
  rw [h]
  show (match tyName M1 d with | some n => Res.ok (D.bl (isTy n t)) M1 | none => .bad) = _
  rw [hn]
end
end QL
end
section
set_option Elab.async false
set_option linter.all false
set_option maxRecDepth 100000
set_option maxHeartbeats 1000000
set_option autoImplicit false
/-! HBig: draws of one of very many. -/
namespace QL
open PySem PySem.Spec L2
open Classical
section
variable {M : Mem} {h : Nat} {c : List Int} {a1 a2 a3 a4 a5 : Int}
theorem draw4b (hh : h < M.length) {t : Int} {d : Option D} : ∀ (n : Nat) (z v a4 a5 : Int), 0 < z → z * 4294967296 ^ n ≤ 2 ^ 160 → t ≤ z * 4294967296 ^ n → 0 ≤ v → v < 2 ^ 33 * z → (0 ≤ a4 ∧ a4 < 2 ^ 32) → (0 ≤ a5 ∧ a5 < 2 ^ 32) →
    ∃ v' z' b4 b5 : Int, 0 ≤ v' ∧ (0 ≤ b4 ∧ b4 < 2 ^ 32) ∧ (0 ≤ b5 ∧ b5 < 2 ^ 32) ∧ t__law_draw_4 [some (.ptr h), some (.int t), d, some (.int v), some (.int z)] (M.set h (HD c a1 a2 a3 a4 a5)) = .nx [some (.ptr h), some (.int t), d, some (.int v'), some (.int z')] (M.set h (HD c a1 a2 a3 b4 b5))
  | n, z, v, a4, a5, z0, zn, tz, v0, vz, h4, h5 => by
    by_cases le : t ≤ z
    · exact ⟨v, z, a4, a5, v0, h4, h5, draw4 le⟩
    · match n with
      | 0 => rw [Int.pow_zero, Int.mul_one] at tz; exact absurd tz le
      | n + 1 =>
        have pz : z * 4294967296 ^ (n + 1) = z * 4294967296 * 4294967296 ^ n := by rw [Int.pow_succ, Int.mul_comm (4294967296 ^ n) 4294967296, Int.mul_assoc]
        rw [pz] at zn tz
        have p1 : (1 : Int) ≤ 4294967296 ^ n := Int.add_one_le_of_lt (Int.pow_pos (by decide))
        have zb : z * 4294967296 ≤ 2 ^ 160 := Int.le_trans (by
          have := Int.mul_le_mul_of_nonneg_left p1 (show 0 ≤ z * 4294967296 by omega)
          rw [Int.mul_one] at this
          exact this) zn
        have vb : v < 2 ^ 200 := by omega
        have m1 : CMulW v 4294967296 := mulW (k := 200) (l := 64) ⟨v0, vb⟩ (by decide) (by decide) (by decide) (by decide)
        have m2 : CMulW z 4294967296 := mulW (k := 200) (l := 64) ⟨by omega, by omega⟩ (by decide) (by decide) (by decide) (by decide)
        have s1 := step_eq (a1 := a1) (a2 := a2) (a3 := a3) (c := c) hh h4 h5
        obtain ⟨v', z', b4, b5, w0, w4, w5, e⟩ := draw4b hh n (z * 4294967296) (v * 4294967296 + (a4 * 48271 % 2147483647 + a5 * 40692 % 2147483399)) (a4 * 48271 % 2147483647) (a5 * 40692 % 2147483399) (by omega) zn tz (by omega) (by omega) (by omega) (by omega)
        refine ⟨v', z', b4, b5, w0, w4, w5, ?_⟩
        unfold t__law_draw_4 at e ⊢
        rw [kWhile_eq]
        have lt : decide (z < t) = true := decide_eq_true (by omega)
        simp only [bV_ap, e2_ap, eVar_ap, List.getElem?_cons_succ, List.getElem?_cons_zero, vR_some, s2_ok, s3_ok, fLt_i, lt, bR_ok]
        show (match b__law_draw_3 [some (.ptr h), some (.int t), d, some (.int v), some (.int z)] (M.set h (HD c a1 a2 a3 a4 a5)) with | .nx S2 M2 => _ | .ct S2 M2 => _ | .bk S2 M2 => _ | r => r) = _
        have b : b__law_draw_3 [some (.ptr h), some (.int t), d, some (.int v), some (.int z)] (M.set h (HD c a1 a2 a3 a4 a5)) = .nx [some (.ptr h), some (.int t), d, some (.int (v * 4294967296 + (a4 * 48271 % 2147483647 + a5 * 40692 % 2147483399))), some (.int (z * 4294967296))] (M.set h (HD c a1 a2 a3 (a4 * 48271 % 2147483647) (a5 * 40692 % 2147483399))) := by
          unfold b__law_draw_3
          simp only [kSeq_ap, kAsg_ap, e2_ap, eVar_ap, List.getElem?_cons_succ, List.getElem?_cons_zero, vR_some, s2_ok, eC_ap, s3_ok, fMul_i m1, eCall_ap, aCons_ap, c1_ok, aNil_ap, c2_ok, cR_ok, s1, fAdd_i, asR_ok, gN_ap, stR_ok, thn_nx, List.set_cons_succ, List.set_cons_zero, fMul_i m2]
        rw [b]
        exact e
theorem draw_HDb (hh : h < M.length) (ok : Hok a1 a2 a3 a4 a5) {t : Int} (t0 : 0 < t) (t1 : t ≤ 2 ^ 160) :
    ∃ r b1 b2 b3 b4 b5, g__law_draw [.ptr h, .int t] (M.set h (HD c a1 a2 a3 a4 a5)) = .ok (.int r) (M.set h (HD c b1 b2 b3 b4 b5)) ∧ Hok b1 b2 b3 b4 b5 ∧ 0 ≤ r ∧ r < t := by
  obtain ⟨b1, b2, b3, b4, b5, e1, ⟨k1, k2, k3, k4, k5⟩, k⟩ := draw1 (c := c) hh ok (S := [some (.ptr h), some (.int t), none, none, none]) rfl
  have dv : CDivW b2 t := ⟨t0, by have := log_le (z := t) (k := 161) (by omega) (by omega) (by decide); omega⟩
  by_cases p2 : 0 < b2
  · refine ⟨b2 % t, b1, b2 / t, b3, b4, b5, ?_, ⟨k1, Int.ediv_nonneg k2 (by omega), k3, k4, k5⟩, Int.emod_nonneg _ (by omega), Int.emod_lt_of_pos _ t0⟩
    simp [g__law_draw, runF_ap, t__law_draw, e1, t__law_draw_2, ixh2 hh, p2, fMod_i t0, fDiv_i dv, seth2 hh, settle_ok]
  · have z2 : b2 = 0 := by omega
    have s1 := step_eq (a1 := b1) (a2 := 0) (a3 := b3 - 1) (c := c) hh k4 k5
    obtain ⟨v', z', c4, c5, w0, w4, w5, e4⟩ := draw4b (a1 := b1) (a2 := 0) (a3 := b3 - 1) (c := c) hh (t := t) (d := none) 4 4294967296 (b4 * 48271 % 2147483647 + b5 * 40692 % 2147483399) (b4 * 48271 % 2147483647) (b5 * 40692 % 2147483399) (by decide) (by decide) (Int.le_trans t1 (by decide)) (by omega) (by omega) (by omega) (by omega)
    refine ⟨v' % t, b1, 0, b3 - 1, c4, c5, ?_, ⟨k1, Int.le_refl _, by omega, by omega, by omega⟩, Int.emod_nonneg _ (by omega), Int.emod_lt_of_pos _ t0⟩
    subst z2
    simp [g__law_draw, runF_ap, t__law_draw, e1, t__law_draw_2, ixh2 hh, aug3 hh, s1, e4, fMod_i t0, settle_ok]
/-- a draw of one of t, t at most 2 ** 160 -/
theorem draw_big {mo : MO} (hh : h < M.length) (hm : Hand mo) {t : Int} (t0 : 0 < t) (t1 : t ≤ 2 ^ 160) :
    ∃ r mo', Hand mo' ∧ 0 ≤ r ∧ r < t ∧ g__law_draw [.ptr h, .int t] (M.set h mo) = .ok (.int r) (M.set h mo') := by
  obtain ⟨c, a1, a2, a3, a4, a5, rfl, ok⟩ := hm
  obtain ⟨r, b1, b2, b3, b4, b5, e, ok', r0, r1⟩ := draw_HDb (c := c) hh ok t0 t1
  exact ⟨r, _, ⟨c, b1, b2, b3, b4, b5, rfl, ok'⟩, r0, r1, e⟩
end
end QL
end
section
set_option Elab.async false
set_option linter.all false
set_option maxRecDepth 100000
set_option maxHeartbeats 4000000
set_option autoImplicit false
namespace QL
open PySem PySem.Spec L2
open Classical
local macro_rules | `(tactic| simp_arith [$as,*]) => `(tactic| simp only [wp_ok, wp_rz, sq_nx, sq_rt, sq_bk, sq_ct, sq_rz, sq_ez, swp_nx, swp_rt, swp_bk, swp_ct, swp_rz, wv_some, w_eVar, w_eC, w_aNil, Kc2_ap, Kc1_ap, w_aCons, Kcl_ap, w_eCall, w_eTup, Ktu_0, Ktu_1, Ktu_2, Ktu_3, Ktu_4, w_eLst, Kls_0, Kls_1, Kls_2, Kls_3, Kls_4, Kls_5, Kls_6, Kls_7, Kls_8, Kls_9, w_eLstP, Klp_0, Klp_1, Klp_2, K2c_ap, K2b_ap, w_e2, K3d_t, K3d_f, K3c_ap, K3b_ap, w_e3, KbV_ap, w_bV, Kno_ap, w_bNot, Kan_t, Kan_f, w_bAnd, Kor_t, Kor_f, w_bOr, w_bYes, Ken_ap, w_eNot, Kea_t, Kea_f, w_eAnd, Keo_t, Keo_f, w_eOr, Kei_t, Kei_f, w_eIf, w_kNil, w_kSeq, w_kRet, w_kRetN, Kdr_ap, w_kDrop, Kif_t, Kif_f, w_kIf, w_kBreak, w_kCont, Kas_ap, w_kAsg, w_gN, w_gNil, Kgc_ap, w_gCons, w_gTup2, w_gTup3, wls_some, Ks2_ap, Ks1_ap, w_gSubL, Kpr_ap, w_kPar, Kau_ap, wau_i, w_kAug, wdp_some, Kd3_ap, Kd2_ap, Kd1_ap, w_kDPut, Kg4_ap, wlk_i, Kg2_ap, Kg1_ap, w_kDAug, w_oNone, Kso_ap, w_oSome, Kl3_ap, Kl2_ap, Kl1_ap, w_eSl, Kfl_1, w_eFld, w_eMeth, Kis_l, w_iSeq, Kit_t, w_iTup, w_iRange1, Ken1_l, w_iEnum, Kfo_ap, w_kFor, turn_nx, turn_ct, turn_rt, turn_bk, turn_rz, turn_ez, Ktn_ap, w_eLc, w_eLcP, Klb_t, Klb_f, Klg_ap, pof_nx, pof_rt, List.getElem?_cons_succ, List.getElem?_cons_zero, List.set_cons_succ, List.set_cons_zero, kl_cons, kl_nil, List.map_cons, List.map_nil, List.replicate_succ, List.replicate_zero, List.cons_append, List.nil_append, Bool.not_true, Bool.not_false, fAdd_i, fSub_i, fLt_i, fLe_i, fGt_i, fGe_i, fEqA_i, fEqA_s, fNe_i, fNe_s, fNe_b, fSl_l, bLenA_l, bMax2_i, bMin2_i, bInt_b, bInt_i, fIs0_n, fNot0_n, fIs0_i, fNot0_i, fNot0_p, $as,*])
/-! KW: the store with the law's hand at its place 0, as a whole. -/
/-- the hand stands well, no thing of the store names a place -/
structure HM (M : Mem) : Prop where
  hd : ∃ mo, M[0]? = some mo ∧ Hand mo
  low : NoP M
/-- only the hand has changed -/
structure Fr (M M' : Mem) : Prop where
  len : M'.length = M.length
  hm : HM M'
  at' : ∀ k, k ≠ 0 → M'[k]? = M[k]?
/-- only the hand has changed, and there is more -/
structure Ext (M M' : Mem) : Prop where
  len : M.length ≤ M'.length
  hm : HM M'
  at' : ∀ k, k ≠ 0 → k < M.length → M'[k]? = M[k]?
section
variable {M M' M1 M2 : Mem} {d : D} {x : MO} {Q : QQ D} {E : XQ} {S : Sl}
theorem Fr.refl (h : HM M) : Fr M M := ⟨rfl, h, fun _ _ => rfl⟩
theorem Fr.trans (a : Fr M M1) (b : Fr M1 M2) : Fr M M2 := ⟨b.len.trans a.len, b.hm, fun k hk => (b.at' k hk).trans (a.at' k hk)⟩
theorem Fr.ext (a : Fr M M1) : Ext M M1 := ⟨Nat.le_of_eq a.len.symm, a.hm, fun k hk _ => a.at' k hk⟩
theorem Ext.refl (h : HM M) : Ext M M := (Fr.refl h).ext
theorem Ext.trans (a : Ext M M1) (b : Ext M1 M2) : Ext M M2 := ⟨Nat.le_trans a.len b.len, b.hm, fun k hk hl => (b.at' k hk (Nat.lt_of_lt_of_le hl a.len)).trans (a.at' k hk hl)⟩
theorem HM.pos (h : HM M) : 0 < M.length := let ⟨_, e, _⟩ := h.hd; (List.getElem?_eq_some_iff.mp e).1
theorem nop_iff : NoP M ↔ ∀ n, ∀ x ∈ M, lowO n x = true := by
  unfold NoP lowM
  simp only [List.all_eq_true]
theorem HM.app (h : HM M) (hx : ∀ n, lowO n x = true) : HM (M ++ [x]) := by
  obtain ⟨mo, e, hm⟩ := h.hd
  refine ⟨⟨mo, ?_, hm⟩, NoP.app h.low fun n => ?_⟩
  · rw [List.getElem?_append_left h.pos]; exact e
  · show (lowO n x && true) = true
    rw [hx]; rfl
theorem Ext.app (h : HM M) (hx : ∀ n, lowO n x = true) : Ext M (M ++ [x]) := ⟨by rw [List.length_append]; omega, h.app hx, fun k _ hl => List.getElem?_append_left hl⟩
theorem HM.set {k : Nat} (h : HM M) (hk : k ≠ 0) (hx : ∀ n, lowO n x = true) : HM (M.set k x) := by
  obtain ⟨mo, e, hm⟩ := h.hd
  exact ⟨⟨mo, by rw [List.getElem?_set_ne hk]; exact e, hm⟩, h.low.set hx⟩
theorem Ext.set {k : Nat} (h : Ext M M1) (h0 : k ≠ 0) (hk : M.length ≤ k) (hx : ∀ n, lowO n x = true) : Ext M (M1.set k x) := by
  have z := h0
  exact ⟨by rw [List.length_set]; exact h.len, h.hm.set z hx, fun j hj hl => by rw [List.getElem?_set_ne (by omega)]; exact h.at' j hj hl⟩
theorem Fr.of_set {mo : MO} (h : HM M) (hm : Hand mo) : Fr M (M.set 0 mo) := by
  refine ⟨List.length_set, ⟨⟨mo, List.getElem?_set_self h.pos, hm⟩, h.low.set (Hand.low hm)⟩, fun k hk => List.getElem?_set_ne (fun z => hk z.symm)⟩
/-- what is known of a def that draws, said of the whole store -/
theorem HM.use (h : HM M) {r : Mem → Res D} {R : D → Prop} (k : ∀ mo, Hand mo → ∃ d mo', Hand mo' ∧ R d ∧ r (M.set 0 mo) = .ok d (M.set 0 mo')) : ∃ d M', Fr M M' ∧ R d ∧ r M = .ok d M' := by
  obtain ⟨mo, e, hm⟩ := h.hd
  obtain ⟨d, mo', hm', hr, e'⟩ := k mo hm
  rw [set_self e] at e'
  exact ⟨d, _, Fr.of_set h hm', hr, e'⟩
theorem draw_wp (h : HM M) {t : Int} (t0 : 0 < t) (t1 : t ≤ 2 ^ 160) (k : ∀ (r : Nat) M', (r : Int) < t → Fr M M' → Q (.int (r : Nat)) M') : wp (g__law_draw [.ptr 0, .int t] M) Q E := by
  obtain ⟨d, M', f, ⟨r, hr, rfl⟩, e⟩ := h.use (r := g__law_draw [.ptr 0, .int t]) (R := fun d => ∃ r : Nat, (r : Int) < t ∧ d = .int (r : Nat)) fun mo hm => by
    obtain ⟨r, mo', hm', r0, r1, e⟩ := draw_big h.pos hm t0 t1
    obtain ⟨n, rfl⟩ := Int.eq_ofNat_of_zero_le r0
    exact ⟨_, mo', hm', ⟨n, r1, rfl⟩, e⟩
  rw [e]
  exact k r M' hr f
theorem names_wp (h : HM M) {m : Nat} (m24 : m ≤ 24) (k : ∀ (ns : List Str) M', ns.length = m → ns.Nodup → (∀ x ∈ ns, NmOk x) → Fr M M' → Q (.lst (ns.map D.str)) M') : wp (g__law_names [.ptr 0, .int (m : Nat)] M) Q E := by
  obtain ⟨d, M', f, ⟨ns, h1, h2, h3, rfl⟩, e⟩ := h.use (r := g__law_names [.ptr 0, .int (m : Nat)]) (R := fun d => ∃ ns : List Str, ns.length = m ∧ ns.Nodup ∧ (∀ x ∈ ns, NmOk x) ∧ d = .lst (ns.map D.str)) fun mo hm => by
    obtain ⟨ns, mo', hm', h1, h2, h3, e⟩ := names_eq h.pos hm m24
    exact ⟨_, mo', hm', ⟨ns, h1, h2, h3, rfl⟩, e⟩
  rw [e]
  exact k ns M' h1 h2 h3 f
/-- what a def made for itself is let go -/
theorem settle_wp (h : HM M) (hx : Ext M M1) (hd : ∀ n, lowD n d = true) (k : ∀ M', Fr M M' → Q d M') : wp (settle M.length (.ok d M1)) Q E := by
  by_cases q : M1.length ≤ M.length
  · rw [settle_ok q]
    exact k M1 ⟨by have := hx.len; omega, hx.hm, fun j hj => by
      by_cases hl : j < M.length
      · exact hx.at' j hj hl
      · rw [List.getElem?_eq_none (by omega), List.getElem?_eq_none (by omega)]⟩
  · rw [settle_cut (by omega) (hd _) (by
      unfold lowM
      rw [List.all_eq_true]
      intro y hy
      exact nop_iff.mp hx.hm.low _ y (List.mem_of_mem_take hy))]
    refine k _ ⟨by rw [List.length_take]; omega, ⟨?_, nop_iff.mpr fun n y hy => nop_iff.mp hx.hm.low n y (List.mem_of_mem_take hy)⟩, fun j hj => ?_⟩
    · obtain ⟨mo, e, hm⟩ := hx.hm.hd
      exact ⟨mo, by rw [List.getElem?_take_of_lt h.pos]; exact e, hm⟩
    · by_cases hl : j < M.length
      · rw [List.getElem?_take_of_lt hl]; exact hx.at' j hj hl
      · rw [List.getElem?_eq_none (by rw [List.length_take]; omega), List.getElem?_eq_none (by omega)]
end
end QL
end
section
set_option Elab.async false
set_option linter.all false
set_option maxRecDepth 100000
set_option maxHeartbeats 4000000
set_option autoImplicit false
namespace QL
open PySem PySem.Spec L2
open Classical
local macro_rules | `(tactic| simp_arith [$as,*]) => `(tactic| simp only [wp_ok, wp_rz, sq_nx, sq_rt, sq_bk, sq_ct, sq_rz, sq_ez, swp_nx, swp_rt, swp_bk, swp_ct, swp_rz, wv_some, w_eVar, w_eC, w_aNil, Kc2_ap, Kc1_ap, w_aCons, Kcl_ap, w_eCall, w_eTup, Ktu_0, Ktu_1, Ktu_2, Ktu_3, Ktu_4, w_eLst, Kls_0, Kls_1, Kls_2, Kls_3, Kls_4, Kls_5, Kls_6, Kls_7, Kls_8, Kls_9, w_eLstP, Klp_0, Klp_1, Klp_2, K2c_ap, K2b_ap, w_e2, K3d_t, K3d_f, K3c_ap, K3b_ap, w_e3, KbV_ap, w_bV, Kno_ap, w_bNot, Kan_t, Kan_f, w_bAnd, Kor_t, Kor_f, w_bOr, w_bYes, Ken_ap, w_eNot, Kea_t, Kea_f, w_eAnd, Keo_t, Keo_f, w_eOr, Kei_t, Kei_f, w_eIf, w_kNil, w_kSeq, w_kRet, w_kRetN, Kdr_ap, w_kDrop, Kif_t, Kif_f, w_kIf, w_kBreak, w_kCont, Kas_ap, w_kAsg, w_gN, w_gNil, Kgc_ap, w_gCons, w_gTup2, w_gTup3, wls_some, Ks2_ap, Ks1_ap, w_gSubL, Kpr_ap, w_kPar, Kau_ap, wau_i, w_kAug, wdp_some, Kd3_ap, Kd2_ap, Kd1_ap, w_kDPut, Kg4_ap, wlk_i, Kg2_ap, Kg1_ap, w_kDAug, w_oNone, Kso_ap, w_oSome, Kl3_ap, Kl2_ap, Kl1_ap, w_eSl, Kfl_1, w_eFld, w_eMeth, Kis_l, w_iSeq, Kit_t, w_iTup, w_iRange1, Ken1_l, w_iEnum, Kfo_ap, w_kFor, turn_nx, turn_ct, turn_rt, turn_bk, turn_rz, turn_ez, Ktn_ap, w_eLc, w_eLcP, Klb_t, Klb_f, Klg_ap, pof_nx, pof_rt, List.getElem?_cons_succ, List.getElem?_cons_zero, List.set_cons_succ, List.set_cons_zero, kl_cons, kl_nil, List.map_cons, List.map_nil, List.replicate_succ, List.replicate_zero, List.cons_append, List.nil_append, Bool.not_true, Bool.not_false, fAdd_i, fSub_i, fLt_i, fLe_i, fGt_i, fGe_i, fEqA_i, fEqA_s, fNe_i, fNe_s, fNe_b, fSl_l, bLenA_l, bMax2_i, bMin2_i, bInt_b, bInt_i, fIs0_n, fNot0_n, fIs0_i, fNot0_i, fNot0_p, $as,*])
/-! KWs: two names, a count, by what must hold. -/
section
variable {M : Mem} {Q : QQ D} {E : XQ} {ns : List Str}
theorem small' {k : Nat} (h : k ≤ 20000) : k ≤ sizeLine := by rw [sizeLine_eq]; omega
end
end QL
end
section
set_option Elab.async false
set_option linter.all false
set_option maxRecDepth 100000
set_option maxHeartbeats 4000000
set_option autoImplicit false
namespace QL
open PySem PySem.Spec L2
open Classical
local macro_rules | `(tactic| simp_arith [$as,*]) => `(tactic| simp only [wp_ok, wp_rz, sq_nx, sq_rt, sq_bk, sq_ct, sq_rz, sq_ez, swp_nx, swp_rt, swp_bk, swp_ct, swp_rz, wv_some, w_eVar, w_eC, w_aNil, Kc2_ap, Kc1_ap, w_aCons, Kcl_ap, w_eCall, w_eTup, Ktu_0, Ktu_1, Ktu_2, Ktu_3, Ktu_4, w_eLst, Kls_0, Kls_1, Kls_2, Kls_3, Kls_4, Kls_5, Kls_6, Kls_7, Kls_8, Kls_9, w_eLstP, Klp_0, Klp_1, Klp_2, K2c_ap, K2b_ap, w_e2, K3d_t, K3d_f, K3c_ap, K3b_ap, w_e3, KbV_ap, w_bV, Kno_ap, w_bNot, Kan_t, Kan_f, w_bAnd, Kor_t, Kor_f, w_bOr, w_bYes, Ken_ap, w_eNot, Kea_t, Kea_f, w_eAnd, Keo_t, Keo_f, w_eOr, Kei_t, Kei_f, w_eIf, w_kNil, w_kSeq, w_kRet, w_kRetN, Kdr_ap, w_kDrop, Kif_t, Kif_f, w_kIf, w_kBreak, w_kCont, Kas_ap, w_kAsg, w_gN, w_gNil, Kgc_ap, w_gCons, w_gTup2, w_gTup3, wls_some, Ks2_ap, Ks1_ap, w_gSubL, Kpr_ap, w_kPar, Kau_ap, wau_i, w_kAug, wdp_some, Kd3_ap, Kd2_ap, Kd1_ap, w_kDPut, Kg4_ap, wlk_i, Kg2_ap, Kg1_ap, w_kDAug, w_oNone, Kso_ap, w_oSome, Kl3_ap, Kl2_ap, Kl1_ap, w_eSl, Kfl_1, w_eFld, w_eMeth, Kis_l, w_iSeq, Kit_t, w_iTup, w_iRange1, Ken1_l, w_iEnum, Kfo_ap, w_kFor, turn_nx, turn_ct, turn_rt, turn_bk, turn_rz, turn_ez, Ktn_ap, w_eLc, w_eLcP, Klb_t, Klb_f, Klg_ap, pof_nx, pof_rt, List.getElem?_cons_succ, List.getElem?_cons_zero, List.set_cons_succ, List.set_cons_zero, kl_cons, kl_nil, List.map_cons, List.map_nil, List.replicate_succ, List.replicate_zero, List.cons_append, List.nil_append, Bool.not_true, Bool.not_false, fAdd_i, fSub_i, fLt_i, fLe_i, fGt_i, fGe_i, fEqA_i, fEqA_s, fNe_i, fNe_s, fNe_b, fSl_l, bLenA_l, bMax2_i, bMin2_i, bInt_b, bInt_i, fIs0_n, fNot0_n, fIs0_i, fNot0_i, fNot0_p, settle_self, settle_selfX, Kf1_ap, w_kFld, w_eFrz, w_eFrzT, KfT_d, KkT_ap, w_iKeysT, KkF_ap, w_iKeysF, Kmk_ap, w_eMake, w_kRz, Krz_1, pof_rz, pof_ez, ez_ap, tr_nx, tr_rt, Kge3_ap, Kge2_ap, w_eGet2, wgl_s, wgl_n, min_s, max_s, Kq3_ap, Kq2_ap, Kq1_ap, w_eSlP, $as,*])
/-! KW4: the law's beginning and end. -/
section
variable {M : Mem} {Q : QQ D} {E : XQ}
theorem hand_wp (ns : List Int) (h : ns.length ≤ 63) (k : ∀ M, HM M → Q (.ptr 0) M) : wp (g__law_hand [.lst (ns.map D.int)] []) Q E := by
  obtain ⟨mo, hm, e⟩ := hand_eq ns h
  rw [e]
  exact k _ ⟨⟨mo, rfl, hm⟩, nop1 hm⟩
theorem settle_true {n : Nat} {N : Mem} {b : D} : wp (settle n (.ok b N)) (fun d _ => d = b) XN := by
  unfold settle
  simp only
  split
  · rfl
  · split <;> rfl
theorem main_of {ns : List Int} {g : List D → Mem → Res D} (h : wp (g [.lst (ns.map D.int)] []) (fun d _ => d = .bl true) XN) : ∃ M, g [.lst (ns.map D.int)] [] = .ok (.bl true) M := by
  obtain ⟨d, M, e, rfl⟩ := wp_ex h
  exact ⟨M, e⟩
end
end QL
end
section
set_option Elab.async false
set_option linter.all false
set_option maxRecDepth 100000
set_option maxHeartbeats 4000000
set_option autoImplicit false
namespace QL
open PySem PySem.Spec L2
open Classical
local macro_rules | `(tactic| simp_arith [$as,*]) => `(tactic| simp only [wp_ok, wp_rz, sq_nx, sq_rt, sq_bk, sq_ct, sq_rz, sq_ez, swp_nx, swp_rt, swp_bk, swp_ct, swp_rz, wv_some, w_eVar, w_eC, w_aNil, Kc2_ap, Kc1_ap, w_aCons, Kcl_ap, w_eCall, w_eTup, Ktu_0, Ktu_1, Ktu_2, Ktu_3, Ktu_4, w_eLst, Kls_0, Kls_1, Kls_2, Kls_3, Kls_4, Kls_5, Kls_6, Kls_7, Kls_8, Kls_9, w_eLstP, Klp_0, Klp_1, Klp_2, K2c_ap, K2b_ap, w_e2, K3d_t, K3d_f, K3c_ap, K3b_ap, w_e3, KbV_ap, w_bV, Kno_ap, w_bNot, Kan_t, Kan_f, w_bAnd, Kor_t, Kor_f, w_bOr, w_bYes, Ken_ap, w_eNot, Kea_t, Kea_f, w_eAnd, Keo_t, Keo_f, w_eOr, Kei_t, Kei_f, w_eIf, w_kNil, w_kSeq, w_kRet, w_kRetN, Kdr_ap, w_kDrop, Kif_t, Kif_f, w_kIf, w_kBreak, w_kCont, Kas_ap, w_kAsg, w_gN, w_gNil, Kgc_ap, w_gCons, w_gTup2, w_gTup3, wls_some, Ks2_ap, Ks1_ap, w_gSubL, Kpr_ap, w_kPar, Kau_ap, wau_i, w_kAug, wdp_some, Kd3_ap, Kd2_ap, Kd1_ap, w_kDPut, Kg4_ap, wlk_i, Kg2_ap, Kg1_ap, w_kDAug, w_oNone, Kso_ap, w_oSome, Kl3_ap, Kl2_ap, Kl1_ap, w_eSl, Kfl_1, w_eFld, w_eMeth, Kis_l, w_iSeq, Kit_t, w_iTup, w_iRange1, Ken1_l, w_iEnum, Kfo_ap, w_kFor, turn_nx, turn_ct, turn_rt, turn_bk, turn_rz, turn_ez, Ktn_ap, w_eLc, w_eLcP, Klb_t, Klb_f, Klg_ap, pof_nx, pof_rt, List.getElem?_cons_succ, List.getElem?_cons_zero, List.set_cons_succ, List.set_cons_zero, kl_cons, kl_nil, List.map_cons, List.map_nil, List.replicate_succ, List.replicate_zero, List.cons_append, List.nil_append, Bool.not_true, Bool.not_false, fAdd_i, fSub_i, fLt_i, fLe_i, fGt_i, fGe_i, fEqA_i, fEqA_s, fNe_i, fNe_s, fNe_b, fSl_l, bLenA_l, bMax2_i, bMin2_i, bInt_b, bInt_i, fIs0_n, fNot0_n, fIs0_i, fNot0_i, fNot0_p, settle_self, settle_selfX, Kf1_ap, w_kFld, w_eFrz, w_eFrzT, KfT_d, KkT_ap, w_iKeysT, KkF_ap, w_iKeysF, Kmk_ap, w_eMake, w_kRz, Krz_1, pof_rz, pof_ez, ez_ap, tr_nx, tr_rt, Kge3_ap, Kge2_ap, w_eGet2, wgl_s, wgl_n, min_s, max_s, Kq3_ap, Kq2_ap, Kq1_ap, w_eSlP, w_gAll, KitT_ap, w_iItemsT, w_eSortIt, w_iItemsF, KiF_ap, w_eRev, w_eIsC, KiC_o, w_kForG, KoG_ap, w_iEnumG, $as,*])
/-! VK: texts as keys, lists and tables at a place (pieces of PurW, U2-U7). -/
/-- pairs of a player and their tickets -/
def pe (f : Fn) (x : Str) : D := .tup [.str x, .int (f x)]
def PL (ks : List Str) (f : Fn) : List D := ks.map (pe f)
section
variable {M M1 : Mem} {ks ns : List Str} {f g : Fn} {x a : Str} {k : Nat} {S : Sl} {Q : QQ D} {E : XQ} {P : Po} {rs : List Rn}
theorem pe0 : fIxA (pe f x) (.int 0) M = .ok (.str x) M := fIxA_t (n := 0) rfl
theorem pe1 : fIxA (pe f x) (.int 1) M = .ok (.int (f x)) M := fIxA_t (n := 1) rfl
theorem in_ti {k : Nat} (h : M[k]? = some (.dK (TI ks f))) : fInA (.str x) (.ptr k) M = .ok (.bl (decide (x ∈ ks))) M := by
  have e : fIn (.str x) (.ptr k) M = .ok (.bl (decide (x ∈ ks))) M := by
    unfold fIn
    rw [look_at' h]
    show Res.ok (D.bl (valD (TI ks f) (.inr x)).isSome) M = _
    congr 2
    by_cases q : x ∈ ks
    · rw [show TI ks f = TE ks fun x => .int (f x) from rfl, te_val q, decide_eq_true q]
      rfl
    · rw [decide_eq_false q]
      cases hv : valD (TI ks f) (.inr x) with
      | none => rfl
      | some y =>
        exfalso
        unfold valD at hv
        cases hfd : (TI ks f).find? (fun kv => decide (kv.1 = (Sum.inr x : Key))) with
        | none => rw [hfd] at hv; cases hv
        | some z =>
          have h1 := List.find?_some hfd
          have h2 := List.mem_of_find?_eq_some hfd
          obtain ⟨w, hw, rfl⟩ := List.mem_map.mp h2
          have h3 : (Sum.inr w : Key) = Sum.inr x := of_decide_eq_true h1
          exact q (Sum.inr.inj h3 ▸ hw)
  show orR (fIn _ _ M) _ = _
  rw [e]
  rfl
theorem txts_ti : ∀ ks : List Str, txts (TI ks f) = some ks
  | [] => rfl
  | x :: r => by
    show (txts (TI r f)).map (x :: ·) = _
    rw [txts_ti r]
    rfl
theorem sort_ti (h : ks.length < 64) : bSortA [.dK (TI ks f)] M = .ok (.lst ((srt ks).map D.str)) M := by
  have e : bSortD [.dK (TI ks f)] M = .ok (.lst ((srt ks).map D.str)) M := by
    show (match txts (TI ks f) with | some ns => if ns.length < 64 then Res.ok (D.lst ((srt ns).map D.str)) M else .bad | none => .bad) = _
    rw [txts_ti]
    exact if_pos h
  have e0 : bSortS [.dK (TI ks f)] M = .bad := rfl
  unfold bSortA orC
  rw [e0, e]
  rfl
theorem ixTK {ks : List Str} (hx : x ∈ ks) : fIxA (.dK (TI ks f)) (.str x) M = .ok (.int (f x)) M := by
  have e : fDIx (.dK (TI ks f)) (.str x) M = .ok (.int (f x)) M := by
    unfold fDIx
    have l : look M (.dK (TI ks f)) (.str x) = some (valD (TI ks f) (.inr x)) := by simp [look, asK, keyOf]
    rw [l, show TI ks f = TE ks fun x => .int (f x) from rfl, te_val hx]
  simp [fIxA, or2, e, orR]
theorem srt_mem {x : Str} : x ∈ srt ks ↔ x ∈ ks := (srt_perm ks).mem_iff
theorem srt_len : (srt ks).length = ks.length := (srt_perm ks).length_eq
theorem srt_of_perm {l m : List Str} (h : l.Perm m) : srt l = srt m := List.Perm.eq_of_pairwise (le := fun a b => leS a b = true) (fun _ _ _ _ h1 h2 => leS_anti h1 h2) (srt_pw l) (srt_pw m) ((srt_perm l).trans (h.trans (srt_perm m).symm))
theorem srt_srt (l : List Str) : srt (srt l) = srt l := srt_of_perm (srt_perm l)
end
def PE (d : D) (M : Mem) : Po := ⟨fun _ _ => False, fun d' M' => d' = d ∧ M' = M, fun _ _ => False, fun _ _ => False, fun _ _ _ => False⟩
/-- the list of runs at place k, behind what there was in B -/
structure Rs (B M : Mem) (k : Nat) (rs : List Rn) : Prop where
  ext : Ext B M
  at' : M[k]? = some (.lst (rs.map eR))
  lo : B.length ≤ k
  k0 : k ≠ 0
theorem Rs.fr {B M M1 : Mem} {k : Nat} {rs : List Rn} (h : Rs B M k rs) (f : Fr M M1) : Rs B M1 k rs := ⟨h.ext.trans f.ext, by rw [f.at' k h.k0]; exact h.at', h.lo, h.k0⟩
theorem Rs.app {B M : Mem} {k : Nat} {rs : List Rn} (h : Rs B M k rs) (r : Rn) : Rs B (M.set k (.lst (rs.map eR ++ [eR r]))) k (rs ++ [r]) := by
  have e : rs.map eR ++ [eR r] = (rs ++ [r]).map eR := by rw [List.map_append]; rfl
  rw [e]
  exact ⟨h.ext.set h.k0 h.lo (fun _ => lowDs_map (fun _ => rfl) _), List.getElem?_set_self (List.getElem?_eq_some_iff.mp h.at').1, h.lo, h.k0⟩
/-- the tickets at place k, behind what there was in B -/
structure Ds (B M : Mem) (k : Nat) (ks : List Str) (f : Fn) : Prop where
  ext : Ext B M
  at' : M[k]? = some (.dK (TI ks f))
  lo : B.length ≤ k
  k0 : k ≠ 0
theorem Ds.fr {B M M1 : Mem} {k : Nat} {ks : List Str} {f : Fn} (h : Ds B M k ks f) (g : Fr M M1) : Ds B M1 k ks f := ⟨h.ext.trans g.ext, by rw [g.at' k h.k0]; exact h.at', h.lo, h.k0⟩
theorem low_dK {ks : List Str} {f : Fn} (n : Nat) : lowO n (.dK (TI ks f)) = true := lowK_ti
theorem Ds.put {B M : Mem} {k : Nat} {ks : List Str} {f g : Fn} (h : Ds B M k ks f) : Ds B (M.set k (.dK (TI ks g))) k ks g :=
  ⟨h.ext.set h.k0 h.lo low_dK, List.getElem?_set_self (List.getElem?_eq_some_iff.mp h.at').1, h.lo, h.k0⟩
section
variable {M M1 : Mem} {ks ns : List Str} {f g : Fn} {x a : Str} {k : Nat} {S : Sl} {Q : QQ D} {E : XQ} {P : Po} {rs : List Rn}
theorem add_l {a b : List D} (h : a.length + b.length ≤ 20000) : fAdd (.lst a) (.lst b) M = .ok (.lst (a ++ b)) M := by
  rw [fAdd_l, if_pos (by rw [sizeLine_eq]; omega)]
theorem wp_ix {L : List D} {n : Nat} (hn : n < L.length) (k : Q L[n] M) : wp (fIxA (.lst L) (.int (n : Nat)) M) Q E := wp_of (fIxA_l (List.getElem?_eq_getElem hn)) k
theorem pick3 {a b c : Int} {w : Nat} (hw : w < 3) (k : ∀ v, (v = a ∨ v = b ∨ v = c) → Q (.int v) M) : wp (fIxA (.lst [.int a, .int b, .int c]) (.int (w : Nat)) M) Q E := by
  refine wp_ix (by simp only [List.length_cons, List.length_nil]; omega) ?_
  rcases (show w = 0 ∨ w = 1 ∨ w = 2 by omega) with rfl | rfl | rfl
  · exact k _ (.inl rfl)
  · exact k _ (.inr (.inl rfl))
  · exact k _ (.inr (.inr rfl))
theorem mul_s {i j : Nat} (hi : i ≤ 1000) (hj : j ≤ 1000) : fMul (.int (i : Nat)) (.int (j : Nat)) M = .ok (.int ((i * j : Nat) : Int)) M := by
  rw [fMul_i (mulW (k := 12) (l := 12) ⟨by omega, by omega⟩ ⟨by omega, by omega⟩ (by decide) (by decide) (by decide))]
  congr 1
end
end QL
end
section
set_option Elab.async false
set_option linter.all false
set_option maxRecDepth 100000
set_option maxHeartbeats 4000000
set_option autoImplicit false
namespace QL
open PySem PySem.Spec L2
open Classical
local macro_rules | `(tactic| simp_arith [$as,*]) => `(tactic| simp only [wp_ok, wp_rz, sq_nx, sq_rt, sq_bk, sq_ct, sq_rz, sq_ez, swp_nx, swp_rt, swp_bk, swp_ct, swp_rz, wv_some, w_eVar, w_eC, w_aNil, Kc2_ap, Kc1_ap, w_aCons, Kcl_ap, w_eCall, w_eTup, Ktu_0, Ktu_1, Ktu_2, Ktu_3, Ktu_4, w_eLst, Kls_0, Kls_1, Kls_2, Kls_3, Kls_4, Kls_5, Kls_6, Kls_7, Kls_8, Kls_9, w_eLstP, Klp_0, Klp_1, Klp_2, K2c_ap, K2b_ap, w_e2, K3d_t, K3d_f, K3c_ap, K3b_ap, w_e3, KbV_ap, w_bV, Kno_ap, w_bNot, Kan_t, Kan_f, w_bAnd, Kor_t, Kor_f, w_bOr, w_bYes, Ken_ap, w_eNot, Kea_t, Kea_f, w_eAnd, Keo_t, Keo_f, w_eOr, Kei_t, Kei_f, w_eIf, w_kNil, w_kSeq, w_kRet, w_kRetN, Kdr_ap, w_kDrop, Kif_t, Kif_f, w_kIf, w_kBreak, w_kCont, Kas_ap, w_kAsg, w_gN, w_gNil, Kgc_ap, w_gCons, w_gTup2, w_gTup3, wls_some, Ks2_ap, Ks1_ap, w_gSubL, Kpr_ap, w_kPar, Kau_ap, wau_i, w_kAug, wdp_some, Kd3_ap, Kd2_ap, Kd1_ap, w_kDPut, Kg4_ap, wlk_i, Kg2_ap, Kg1_ap, w_kDAug, w_oNone, Kso_ap, w_oSome, Kl3_ap, Kl2_ap, Kl1_ap, w_eSl, Kfl_1, w_eFld, w_eMeth, Kis_l, w_iSeq, Kit_t, w_iTup, w_iRange1, Ken1_l, w_iEnum, Kfo_ap, w_kFor, turn_nx, turn_ct, turn_rt, turn_bk, turn_rz, turn_ez, Ktn_ap, w_eLc, w_eLcP, Klb_t, Klb_f, Klg_ap, pof_nx, pof_rt, List.getElem?_cons_succ, List.getElem?_cons_zero, List.set_cons_succ, List.set_cons_zero, kl_cons, kl_nil, List.map_cons, List.map_nil, List.replicate_succ, List.replicate_zero, List.cons_append, List.nil_append, Bool.not_true, Bool.not_false, fAdd_i, fSub_i, fLt_i, fLe_i, fGt_i, fGe_i, fEqA_i, fEqA_s, fNe_i, fNe_s, fNe_b, fSl_l, bLenA_l, bMax2_i, bMin2_i, bInt_b, bInt_i, fIs0_n, fNot0_n, fIs0_i, fNot0_i, fNot0_p, settle_self, settle_selfX, Kf1_ap, w_kFld, w_eFrz, w_eFrzT, KfT_d, KkT_ap, w_iKeysT, KkF_ap, w_iKeysF, Kmk_ap, w_eMake, w_kRz, Krz_1, pof_rz, pof_ez, ez_ap, tr_nx, tr_rt, Kge3_ap, Kge2_ap, w_eGet2, wgl_s, wgl_n, min_s, max_s, Kq3_ap, Kq2_ap, Kq1_ap, w_eSlP, w_gAll, KitT_ap, w_iItemsT, w_eSortIt, w_iItemsF, KiF_ap, w_eRev, w_eIsC, KiC_o, w_kForG, KoG_ap, w_iEnumG, $as,*])
/-! X0: equations for what QBent and QSc2 add, and a few that all texts of this kind use. -/
section
variable {M M1 M2 : Mem} {S : Sl} {Q : QQ D} {E : XQ} {P : Po} {e o v a b : EF} {d x y w : D} {k n : Nat} {ds : List D} {t : TF} {ar : AF} {g : GF}
def KisT (t : String) (Q : QQ D) : QQ D := fun d M => match tyName M d with
  | some n => Q (.bl (isTy n t)) M
  | none => False
theorem w_eIsT {t : String} : wp (eIsT t e S M) Q E = wp (e S M) (KisT t Q) E := by
  unfold eIsT; rw [wp_bind]; congr 1; funext d M1; unfold KisT
  rcases tyName M1 d with _ | n <;> rfl
theorem KisT_at {t n : String} (h : tyName M d = some n) : KisT t Q d M = Q (.bl (isTy n t)) M := by unfold KisT; simp only [h]
def KorL (b : EF) (S : Sl) (Q : QQ D) (E : XQ) : QQ D := fun x M => match asL M x with
  | some xs => if xs.isEmpty = true then wp (b S M) Q E else Q x M
  | none => False
theorem w_eOrL : wp (eOrL a b S M) Q E = wp (a S M) (KorL b S Q E) E := by
  unfold eOrL; rw [wp_bind]; congr 1; funext d M1; unfold KorL
  rcases asL M1 d with _ | xs
  · rfl
  · simp only
    by_cases h : xs.isEmpty = true
    · rw [if_pos h, if_pos h]
    · rw [if_neg h, if_neg h]; rfl
def Kpo (Q : QQ D) : QQ D := fun d M => match d with
  | .ptr k => match M[k]? with
    | some (.lst ds) => match ds[ds.length - 1]? with
      | some y => Q y (M.set k (.lst ds.dropLast))
      | none => False
    | _ => False
  | _ => False
theorem w_ePop : wp (ePop o S M) Q E = wp (o S M) (Kpo Q) E := by
  unfold ePop; rw [wp_bind]; congr 1; funext d M1; unfold Kpo
  cases d <;> first | rfl | skip
  rename_i k
  simp only
  rcases M1[k]? with _ | mo
  · rfl
  · cases mo <;> first | rfl | skip
    rename_i ds
    simp only
    rcases ds[ds.length - 1]? with _ | y <;> rfl
noncomputable def Ksc (Q : QQ D) : QQ D := fun d M => match asL M d with
  | some xs => match rowsT xs with
    | some ns => (ns.flatten.length + 1 < scanBound ∧ (dedup ns.flatten).length < 64) ∧ Q (.lst ((srt (dedup ns.flatten)).map D.str)) M
    | none => False
  | none => False
theorem w_eSc2 : wp (eSortSc2 e S M) Q E = wp (e S M) (Ksc Q) E := by
  unfold eSortSc2 rsR; rw [wp_bind]; congr 1; funext d M1; unfold Ksc
  rcases asL M1 d with _ | xs
  · rfl
  · simp only
    rcases rowsT xs with _ | ns
    · rfl
    · simp only
      by_cases h : ns.flatten.length + 1 < scanBound ∧ (dedup ns.flatten).length < 64
      · rw [if_pos h]; exact propext ⟨fun z => ⟨h, z⟩, fun z => z.2⟩
      · rw [if_neg h]; exact propext ⟨fun z => z.elim, fun z => absurd z.1 h⟩
def KzK (Q : QQ D) : QQ D := fun d M => match frzK d M with
  | some (x, M1) => Q x M1
  | none => False
theorem w_eFrzK : wp (eFrzK e S M) Q E = wp (e S M) (KzK Q) E := by
  unfold eFrzK; rw [wp_bind]; congr 1; funext d M1; unfold KzK
  rcases frzK d M1 with _ | ⟨x, M2⟩ <;> rfl
theorem KzK_p {kvs : List (Key × D)} (h : M[k]? = some (.dK kvs)) : KzK Q (.ptr k) M = Q (.dK kvs) (M.set k (.lkK kvs)) := by simp [KzK, frzK, h]
theorem w_eDnewK : wp (eDnewK S M) Q E = Q (.dK []) M := rfl
/-! ### lists, wherever they lie -/
theorem memD_str {x : Str} : ∀ ns : List Str, memD (.str x) (ns.map D.str) = decide (x ∈ ns)
  | [] => by simp [memD]
  | y :: r => by
    have ih := memD_str (x := x) r
    unfold memD at ih ⊢
    rw [List.map_cons, List.any_cons, ih]
    have e : eqFlat (.str y) (.str x) = decide (y = x) := rfl
    rw [e]
    by_cases q : y = x
    · subst q; simp
    · have q' : ¬ x = y := fun z => q z.symm
      simp [q, q']
theorem flat_str (ns : List Str) : (ns.map D.str).all flatD = true := List.all_eq_true.mpr fun d hd => by
  obtain ⟨x, _, rfl⟩ := List.mem_map.mp hd
  rfl
theorem look_l {z : D} (h : asL M y = some ds) : look M y z = none := by
  cases y with
  | lst es => rfl
  | ptr k =>
    have h' : (match M[k]? with | some (.lst ds) => some ds | _ => none) = some ds := h
    rcases e : M[k]? with _ | mo
    · rw [e] at h'; cases h'
    · rw [e] at h'
      cases mo with
      | lst es => simp [look, asK, asTt, e]
      | _ => cases h'
  | _ => cases h
theorem inG_l {b : Bool} {x : Str} {ns : List Str} (h : asL M y = some (ns.map D.str)) : fInG b (.str x) y M = .ok (.bl (b ^^ decide (x ∈ ns))) M := by
  have e : seqOf M y = some (ns.map D.str) := by
    cases y with
    | tup es => cases h
    | _ => exact h
  cases y with
  | str z => cases h
  | _ =>
    unfold fInG
    simp only [e]
    rw [if_pos ⟨rfl, flat_str ns⟩, memD_str]
theorem notin_l {x : Str} {ns : List Str} (h : asL M y = some (ns.map D.str)) : fNotInA (.str x) y M = .ok (.bl (decide (x ∉ ns))) M := by
  have e0 : fNotIn (.str x) y M = .bad := by unfold fNotIn; rw [look_l h]
  unfold fNotInA or2
  rw [e0, inG_l h]
  by_cases q : x ∈ ns <;> simp [q, orR]
theorem len_l (h : asL M y = some ds) : bLenA [y] M = .ok (.int ds.length) M := by
  cases y with
  | lst es => cases h; rfl
  | ptr k =>
    have h' : (match M[k]? with | some (.lst ds) => some ds | _ => none) = some ds := h
    rcases e : M[k]? with _ | mo
    · rw [e] at h'; cases h'
    · rw [e] at h'
      cases mo with
      | lst es => cases h'; exact len_p e
      | _ => cases h'
  | _ => cases h
theorem ix_l (h : asL M y = some ds) (hn : ds[n]? = some d) : fIxA y (.int (n : Nat)) M = .ok d M := by
  have e0 : fDIx y (.int (n : Nat)) M = .bad := by unfold fDIx; rw [look_l h]
  have e1 : fIx y (.int (n : Nat)) M = .ok d M := by
    have at_ : L2.atI ds ((n : Nat) : Int) = some d := by
      unfold L2.atI ixN
      have lt := (List.getElem?_eq_some_iff.mp hn).1
      rw [if_pos (Int.natCast_nonneg n), if_pos (by omega)]
      simpa using hn
    unfold fIx
    cases y with
    | str z => cases h
    | tup es => cases h
    | _ => simp only [h, at_]
  unfold fIxA or2
  rw [e0, e1]
  rfl
theorem der_l (h : asL M y = some ds) : der M y = .lst ds := by
  cases y with
  | lst es => cases h; rfl
  | ptr k => simp [der, h]
  | _ => cases h
theorem fEq_l (h : asL M y = some ds) : fEq y (.lst []) M = if okD 64 (.lst ds) = true ∧ okD 64 (.lst []) = true then .ok (.bl (PyData.eqv (toPy (.lst ds)) (toPy (.lst [])))) M else .bad := by
  have z : fEq y (.lst []) M = if okD 64 (der M y) = true ∧ okD 64 (der M (.lst [])) = true then .ok (.bl (PyData.eqv (toPy (der M y)) (toPy (der M (.lst []))))) M else .bad := by
    cases y <;> first | rfl | (cases h)
  rw [z, der_l h]
  rfl
theorem fNe_l (h : asL M y = some ds) : fNe y (.lst []) M = if okD 64 (.lst ds) = true ∧ okD 64 (.lst []) = true then .ok (.bl (!PyData.eqv (toPy (.lst ds)) (toPy (.lst [])))) M else .bad := by
  have z : fNe y (.lst []) M = if okD 64 (der M y) = true ∧ okD 64 (der M (.lst [])) = true then .ok (.bl (!PyData.eqv (toPy (der M y)) (toPy (der M (.lst []))))) M else .bad := by
    cases y <;> first | rfl | (cases h)
  rw [z, der_l h]
  rfl
theorem eqv_nil {d : D} {r : List D} : PyData.eqv (toPy (.lst (d :: r))) (toPy (.lst [])) = false := by
  simp [toPy, toPys, PyData.eqv, PyData.eqvAll]
theorem eq_nil_l (h : asL M y = some ds) : fEqA y (.lst []) M = .ok (.bl ds.isEmpty) M := by
  unfold fEqA or2
  rw [fEq_l h]
  cases ds with
  | nil => rfl
  | cons d r =>
    have e1 : fEqLen y (.lst []) M = .ok (.bl false) M := by
      unfold fEqLen
      rw [h]
      exact if_pos (show (d :: r).length ≠ [].length from fun z => by cases z)
    rw [e1, eqv_nil]
    by_cases c : okD 64 (D.lst (d :: r)) = true ∧ okD 64 (.lst []) = true
    · rw [if_pos c]; rfl
    · rw [if_neg c]; rfl
theorem ne_nil_l (h : asL M y = some ds) : fNeA y (.lst []) M = .ok (.bl (!ds.isEmpty)) M := by
  unfold fNeA or2
  rw [fNe_l h]
  cases ds with
  | nil => rfl
  | cons d r =>
    have e1 : fNeLen y (.lst []) M = .ok (.bl true) M := by
      unfold fNeLen
      rw [h]
      exact if_pos (show (d :: r).length ≠ [].length from fun z => by cases z)
    rw [e1, eqv_nil]
    by_cases c : okD 64 (D.lst (d :: r)) = true ∧ okD 64 (.lst []) = true
    · rw [if_pos c]; rfl
    · rw [if_neg c]; rfl
end
end QL
end
section
set_option Elab.async false
set_option linter.all false
set_option maxRecDepth 100000
set_option maxHeartbeats 4000000
set_option autoImplicit false
namespace QL
open PySem PySem.Spec L2
open Classical
local macro_rules | `(tactic| simp_arith [$as,*]) => `(tactic| simp only [wp_ok, wp_rz, sq_nx, sq_rt, sq_bk, sq_ct, sq_rz, sq_ez, swp_nx, swp_rt, swp_bk, swp_ct, swp_rz, wv_some, w_eVar, w_eC, w_aNil, Kc2_ap, Kc1_ap, w_aCons, Kcl_ap, w_eCall, w_eTup, Ktu_0, Ktu_1, Ktu_2, Ktu_3, Ktu_4, w_eLst, Kls_0, Kls_1, Kls_2, Kls_3, Kls_4, Kls_5, Kls_6, Kls_7, Kls_8, Kls_9, w_eLstP, Klp_0, Klp_1, Klp_2, K2c_ap, K2b_ap, w_e2, K3d_t, K3d_f, K3c_ap, K3b_ap, w_e3, KbV_ap, w_bV, Kno_ap, w_bNot, Kan_t, Kan_f, w_bAnd, Kor_t, Kor_f, w_bOr, w_bYes, Ken_ap, w_eNot, Kea_t, Kea_f, w_eAnd, Keo_t, Keo_f, w_eOr, Kei_t, Kei_f, w_eIf, w_kNil, w_kSeq, w_kRet, w_kRetN, Kdr_ap, w_kDrop, Kif_t, Kif_f, w_kIf, w_kBreak, w_kCont, Kas_ap, w_kAsg, w_gN, w_gNil, Kgc_ap, w_gCons, w_gTup2, w_gTup3, wls_some, Ks2_ap, Ks1_ap, w_gSubL, Kpr_ap, w_kPar, Kau_ap, wau_i, w_kAug, wdp_some, Kd3_ap, Kd2_ap, Kd1_ap, w_kDPut, Kg4_ap, wlk_i, Kg2_ap, Kg1_ap, w_kDAug, w_oNone, Kso_ap, w_oSome, Kl3_ap, Kl2_ap, Kl1_ap, w_eSl, Kfl_1, w_eFld, w_eMeth, Kis_l, w_iSeq, Kit_t, w_iTup, w_iRange1, Ken1_l, w_iEnum, Kfo_ap, w_kFor, turn_nx, turn_ct, turn_rt, turn_bk, turn_rz, turn_ez, Ktn_ap, w_eLc, w_eLcP, Klb_t, Klb_f, Klg_ap, pof_nx, pof_rt, List.getElem?_cons_succ, List.getElem?_cons_zero, List.set_cons_succ, List.set_cons_zero, kl_cons, kl_nil, List.map_cons, List.map_nil, List.replicate_succ, List.replicate_zero, List.cons_append, List.nil_append, Bool.not_true, Bool.not_false, fAdd_i, fSub_i, fLt_i, fLe_i, fGt_i, fGe_i, fEqA_i, fEqA_s, fNe_i, fNe_s, fNe_b, fSl_l, bLenA_l, bMax2_i, bMin2_i, bInt_b, bInt_i, fIs0_n, fNot0_n, fIs0_i, fNot0_i, fNot0_p, settle_self, settle_selfX, Kf1_ap, w_kFld, w_eFrz, w_eFrzT, KfT_d, KkT_ap, w_iKeysT, KkF_ap, w_iKeysF, Kmk_ap, w_eMake, w_kRz, Krz_1, pof_rz, pof_ez, ez_ap, tr_nx, tr_rt, Kge3_ap, Kge2_ap, w_eGet2, wgl_s, wgl_n, min_s, max_s, Kq3_ap, Kq2_ap, Kq1_ap, w_eSlP, w_gAll, KitT_ap, w_iItemsT, w_eSortIt, w_iItemsF, KiF_ap, w_eRev, w_eIsC, KiC_o, w_kForG, KoG_ap, w_iEnumG, w_eIsT, w_eOrL, w_ePop, w_eSc2, w_eDnewK, w_eFrzK, $as,*])
/-! FH: what the law makes: tables of runs, lots, purses, sets of names. -/
abbrev PO (ks : List Str) (f : Fn) : D := .obj "Purses" [("table", .dK (TI ks f))]
abbrev LO (T : Tab) : D := .obj "Lot" [("table", .dT (TT T))]
section
variable {M M1 M2 N : Mem} {S : Sl} {Q : QQ D} {E : XQ} {P : Po} {d x y w : D} {k n : Nat} {ds : List D} {lo hi : Int} {xs : List Str}
theorem in_letters {c : Nat} {M : Mem} (h1 : 97 ≤ c) (h2 : c < 123) : fInA (.str ⟨#[c]⟩) (.str "abcdefghijklmnopqrstuvwxyz") M = .ok (.bl true) M := by
  have key : ∀ n < 26, (Builtin.Str.occurrences ("abcdefghijklmnopqrstuvwxyz" : Str) ⟨#[97 + n]⟩ 0 ("abcdefghijklmnopqrstuvwxyz" : Str).length 1).isEmpty = false := by decide +kernel
  have k := key (c - 97) (by omega)
  rw [show 97 + (c - 97) = c by omega] at k
  have e : fInG false (.str ⟨#[c]⟩) (.str "abcdefghijklmnopqrstuvwxyz") M = .ok (.bl true) M := by
    unfold fInG
    show Res.ok (D.bl (false ^^ !(Builtin.Str.occurrences _ _ 0 _ 1).isEmpty)) M = _
    rw [k]
    rfl
  have e0 : fIn (.str ⟨#[c]⟩) (.str "abcdefghijklmnopqrstuvwxyz") M = .bad := rfl
  unfold fInA or2
  rw [e0, e]
  rfl

theorem le3 {i : Int} {a b c : EF} (h1 : a S M = .ok (.int lo) M) (h2 : b S M = .ok (.int i) M) (h3 : c S M = .ok (.int hi) M) : e3 fLe fLe a b c S M = .ok (.bl (decide (lo ≤ i) && decide (i ≤ hi))) M := by
  by_cases q : lo ≤ i
  · rw [e3_at (x := .int lo) (y := .int i) (u := .int hi) (M1 := M) (M2 := M) (M3 := M) (M4 := M) h1 h2 (by rw [fLe_i, decide_eq_true q]) h3, fLe_i, decide_eq_true q, Bool.true_and]
  · unfold e3
    rw [h1]
    simp [Res.bind, h2, q]
def sgB (c : Nat) : Bool := !(Builtin.Str.occurrences ("abcdefghijklmnopqrstuvwxyz" : Str) ⟨#[c]⟩ 0 ("abcdefghijklmnopqrstuvwxyz" : Str).length 1).isEmpty
theorem in_sg {c : Nat} : fInA (.str ⟨#[c]⟩) (.str "abcdefghijklmnopqrstuvwxyz") M = .ok (.bl (sgB c)) M := by
  have e : fInG false (.str ⟨#[c]⟩) (.str "abcdefghijklmnopqrstuvwxyz") M = .ok (.bl (sgB c)) M := by
    show Res.ok (D.bl (false ^^ sgB c)) M = _
    rw [Bool.false_xor]
  have e0 : fIn (.str ⟨#[c]⟩) (.str "abcdefghijklmnopqrstuvwxyz") M = .bad := rfl
  unfold fInA or2
  rw [e0, e]
  rfl
theorem bls_map : ∀ l : List Nat, blsOf (l.map fun c => D.bl (sgB c)) = some (l.map sgB)
  | [] => rfl
  | x :: r => by
    rw [List.map_cons, List.map_cons]
    unfold blsOf
    rw [bls_map r]
    rfl
theorem all_sg (x : Str) : bAll [.lst (x.cps.toList.map fun c => D.bl (sgB c))] M = .ok (.bl (x.cps.toList.all sgB)) M := by
  show (match blsOf (x.cps.toList.map fun c => D.bl (sgB c)) with | some ns => Res.ok (D.bl (ns.all id)) M | none => .bad) = _
  rw [bls_map]
  show Res.ok (D.bl ((x.cps.toList.map sgB).all id)) M = _
  rw [List.all_map]
  rfl
def wdB (x : Str) : Bool := (decide (1 ≤ (x.length : Int)) && decide ((x.length : Int) ≤ 8)) && x.cps.toList.all sgB
def nmB : D → Bool
  | .str x => wdB x
  | _ => false
theorem len_at {x : Str} (hx : x.length ≤ 1000) {i : Nat} (h : S[i]? = some (some (.str x))) : eCall bLenA (aCons (eVar i) aNil) S M = .ok (.int x.length) M := by
  simp only [eCall_ap, aCons_ap, eVar_ap, h, vR_some, c1_ok, aNil_ap, c2_ok, cR_ok]
  show orR (if x.length ≤ sizeLine then Res.ok (D.int x.length) M else .bad) _ = _
  rw [if_pos (by rw [sizeLine_eq]; omega)]
  rfl

def isS : D → Bool
  | .str _ => true
  | _ => false
/-- what may stand in a list -/
structure El (d : D) : Prop where
  ty : ∃ n, (∀ M, tyName M d = some n) ∧ isTy n "str" = isS d
  st : ∀ x, d = .str x → x.length ≤ 1000
  dr : ∀ M n, derN M n d = d
theorem isS_iff : isS d = true ↔ ∃ x, d = .str x := by
  cases d <;> simp [isS]
theorem nmB_str (h : isS d = false) : nmB d = false := by
  cases d <;> first | rfl | (cases h)
theorem name_el (h : El d) : g_is_name [d] M = .ok (.bl (nmB d)) M := by
  obtain ⟨t, ht, hs⟩ := h.ty
  have i1 : eIsT "str" (eVar 0) [some d, none] M = .ok (.bl (isS d)) M := by
    unfold eIsT
    show (match tyName M d with | some n => Res.ok (D.bl (isTy n "str")) M | none => .bad) = _
    rw [ht M]
    show Res.ok (D.bl (isTy t "str")) M = _
    rw [hs]
  unfold g_is_name
  rw [runF_ap (show [d].length = 1 from rfl)]
  unfold t_is_name t_is_name_1
  simp only [List.map_cons, List.map_nil, List.replicate, List.cons_append, List.nil_append, kSeq_ap, kIf_ap, bOr_ap, bNot_ap, bV_ap, i1, bR_ok, nR_ok]
  cases z : isS d with
  | false =>
    rw [nmB_str z]
    simp only [Bool.not_false, orRr_t, ifR_t, kRet_ap, eC_ap, rtR_ok, thn_rt, fnR_rt]
    exact settle_ok (Nat.le_refl _)
  | true =>
    obtain ⟨x, rfl⟩ := isS_iff.mp z
    have hx := h.st x rfl
    have i2 := le3 (M := M) (S := [some (.str x), none]) (lo := 1) (hi := 8) (i := x.length) (a := eC (.int 1)) (b := eCall bLenA (aCons (eVar 0) aNil)) (c := eC (.int 8)) rfl (len_at hx rfl) rfl
    simp only [Bool.not_true, orRr_f, bOr_ap, bNot_ap, bV_ap, i2, bR_ok, nR_ok]
    have nb : nmB (.str x) = ((decide (1 ≤ (x.length : Int)) && decide ((x.length : Int) ≤ 8)) && x.cps.toList.all sgB) := rfl
    rw [nb]
    cases q : (decide (1 ≤ (x.length : Int)) && decide ((x.length : Int) ≤ 8)) with
    | false =>
      simp only [Bool.not_false, ifR_t, kRet_ap, eC_ap, rtR_ok, thn_rt, fnR_rt, Bool.false_and]
      exact settle_ok (Nat.le_refl _)
    | true =>
      have a2 : e_is_name_2 [some (.str x), none] M = .ok (.lst (x.cps.toList.map fun c => D.bl (sgB c))) M := by
        unfold e_is_name_2
        rw [eLc_ap]
        show lcR _ _ _ _ _ (Res.ok ⟨signsD x, none⟩ M) = _
        rw [lcR_ok]
        unfold signsD
        rw [lcM (gd := Its.gd ⟨x.cps.toList.map fun c => D.str ⟨#[c]⟩, none⟩) trivial (fun c => D.str ⟨#[c]⟩) (fun c => D.bl (sgB c)) x.cps.toList [] (by rw [sizeLine_eq, List.length_nil, ← len_cps]; omega) fun c hx => ⟨[some (.str x), some (.str ⟨#[c]⟩)], rfl, rfl, by
          simp only [e2_ap, eVar_ap, List.getElem?_cons_succ, List.getElem?_cons_zero, vR_some, s2_ok, eC_ap, s3_ok]
          exact in_sg⟩]
        rfl
      simp only [Bool.not_true, ifR_f, kNil_ap, thn_nx, kRet_ap, eCall_ap, aCons_ap, a2, c1_ok, aNil_ap, c2_ok, cR_ok, all_sg, rtR_ok, fnR_rt, Bool.true_and]
      exact settle_ok (Nat.le_refl _)
theorem nm_wd {x : Str} (h : NmOk x) : wdB x = true := by
  unfold wdB
  rw [Bool.and_eq_true, Bool.and_eq_true]
  refine ⟨⟨decide_eq_true (by have := h.1; omega), decide_eq_true (by have := h.2.1; omega)⟩, List.all_eq_true.mpr fun c hc => ?_⟩
  have a := in_sg (M := []) (c := c)
  rw [in_letters (h.2.2 c hc).1 (h.2.2 c hc).2] at a
  injection a with a
  injection a with a
  exact a.symm
theorem is_name_eq {x : Str} {M : Mem} (h : NmOk x) : g_is_name [.str x] M = .ok (.bl true) M := by
  have e : El (.str x) := ⟨⟨"str", fun _ => rfl, show isTy "str" "str" = true by decide⟩, fun y e => by cases e; have := h.2.1; omega, fun M n => by cases n <;> rfl⟩
  rw [name_el e, show nmB (.str x) = wdB x from rfl, nm_wd h]
/-! ### in ascending order -/
end
def addG (κ : Rn → PR) (T : Tab) (r : Rn) : Tab := T.put (κ r) (T.get (κ r) + r.2.2)
def tabG (κ : Rn → PR) (rs : List Rn) : Tab := rs.foldl (addG κ) T0
abbrev kS (r : Rn) : PR := pr r.1 r.2.1
/-- a run over some names, of two, its number from 1 to b -/
structure RO (ns : List Str) (b : Int) (r : Rn) : Prop where
  pa : r.1 ∈ ns
  ot : r.2.1 ∈ ns
  ne : r.1 ≠ r.2.1
  lo : 1 ≤ r.2.2
  hi : r.2.2 ≤ b
theorem RO.mono {ns : List Str} {b c : Int} {r : Rn} (h : RO ns b r) (l : b ≤ c) : RO ns c r := ⟨h.pa, h.ot, h.ne, h.lo, by have := h.hi; omega⟩
section
variable {κ : Rn → PR} {rs : List Rn} {r : Rn} {ns : List Str} {b : Int}
theorem tabG_snoc : tabG κ (rs ++ [r]) = addG κ (tabG κ rs) r := by
  unfold tabG; rw [List.foldl_append]; rfl
theorem tabG_len (rs : List Rn) : (tabG κ rs).1.length ≤ rs.length ∧ (tabG κ rs).1.Nodup := by
  refine rev_ind (P := fun rs => (tabG κ rs).1.length ≤ rs.length ∧ (tabG κ rs).1.Nodup) ⟨Nat.le_refl _, List.nodup_nil⟩ (fun l d ih => ?_) rs
  rw [tabG_snoc]
  have := addk_le (ps := (tabG κ l).1) (p := κ d)
  refine ⟨?_, addk_nd ih.2⟩
  show (addk (tabG κ l).1 (κ d)).length ≤ _
  rw [List.length_append, List.length_singleton]
  omega
theorem kS_or (r : Rn) : kS r = (r.1, r.2.1) ∨ kS r = (r.2.1, r.1) := by
  show (minS r.1 r.2.1, maxS r.1 r.2.1) = _ ∨ (minS r.1 r.2.1, maxS r.1 r.2.1) = _
  unfold minS maxS
  by_cases h : r.1.cps.toList < r.2.1.cps.toList
  · have h2 : ¬ r.2.1.cps.toList < r.1.cps.toList := fun z => absurd (List.lt_trans h z) (List.lt_irrefl _)
    rw [if_neg h2, if_pos h]
    exact .inl rfl
  · by_cases h2 : r.2.1.cps.toList < r.1.cps.toList
    · rw [if_neg h, if_pos h2]
      exact .inr rfl
    · rw [if_neg h, if_neg h2, lt_total h h2]
      exact .inl rfl
theorem tabG_ok (hκ : ∀ r, κ r = (r.1, r.2.1) ∨ κ r = (r.2.1, r.1)) (hb : 0 ≤ b) {rs : List Rn} : (∀ r ∈ rs, RO ns b r) → ∀ p ∈ (tabG κ rs).1, p.1 ∈ ns ∧ p.2 ∈ ns ∧ p.1 ≠ p.2 ∧ 1 ≤ (tabG κ rs).2 p ∧ (tabG κ rs).2 p ≤ b * rs.length := by
  refine rev_ind (P := fun rs => (∀ r ∈ rs, RO ns b r) → ∀ p ∈ (tabG κ rs).1, p.1 ∈ ns ∧ p.2 ∈ ns ∧ p.1 ≠ p.2 ∧ 1 ≤ (tabG κ rs).2 p ∧ (tabG κ rs).2 p ≤ b * rs.length) (fun _ p hp => nomatch hp) (fun l d ih h => ?_) rs
  have i := ih fun r hr => h r (List.mem_append_left _ hr)
  have hd := h d (by simp)
  rw [tabG_snoc, List.length_append, List.length_singleton]
  have em : b * ((l.length + 1 : Nat) : Int) = b * l.length + b := by rw [Int.natCast_add, Int.mul_add]; omega
  have hg : 0 ≤ (tabG κ l).get (κ d) ∧ (tabG κ l).get (κ d) ≤ b * l.length := by
    unfold Tab.get
    by_cases q : κ d ∈ (tabG κ l).1
    · rw [if_pos q]; have := i _ q; exact ⟨by omega, this.2.2.2.2⟩
    · rw [if_neg q]; exact ⟨Int.le_refl _, Int.mul_nonneg hb (by omega)⟩
  have h1 := hd.lo
  have h2 := hd.hi
  intro p hp
  have hn : (κ d).1 ∈ ns ∧ (κ d).2 ∈ ns ∧ (κ d).1 ≠ (κ d).2 := by
    rcases hκ d with e | e <;> rw [e]
    · exact ⟨hd.pa, hd.ot, hd.ne⟩
    · exact ⟨hd.ot, hd.pa, fun z => hd.ne z.symm⟩
  rw [em]
  show p.1 ∈ ns ∧ p.2 ∈ ns ∧ p.1 ≠ p.2 ∧ 1 ≤ ((tabG κ l).put _ _).2 p ∧ ((tabG κ l).put _ _).2 p ≤ _
  by_cases q : p = κ d
  · rw [q, put_same]
    exact ⟨hn.1, hn.2.1, hn.2.2, by omega, by omega⟩
  · rw [put_ne q]
    rcases mem_addk.mp hp with w | w
    · have := i p w; exact ⟨this.1, this.2.1, this.2.2.1, this.2.2.2.1, by omega⟩
    · exact absurd w q
theorem kS_norm : ∀ p ∈ (tabG kS rs).1, ∃ r ∈ rs, p = kS r := by
  refine rev_ind (P := fun rs => ∀ p ∈ (tabG kS rs).1, ∃ r ∈ rs, p = kS r) (fun p hp => nomatch hp) (fun l d ih p hp => ?_) rs
  rw [tabG_snoc] at hp
  rcases mem_addk.mp hp with w | w
  · obtain ⟨r, hr, e⟩ := ih p w
    exact ⟨r, List.mem_append_left _ hr, e⟩
  · exact ⟨d, by simp, w⟩

end
section
variable {M M1 M2 N : Mem} {S : Sl} {Q : QQ D} {E : XQ} {P : Po} {d x y w : D} {k n K : Nat} {ds : List D} {xs ks ls names : List Str} {f : Fn} {T T2 : Tab} {rs rs' : List Rn} {r : Rn}
theorem table_eq (hM : NoP M) (hx : asL M x = some (rs.map eR)) (hl : rs.length ≤ 2000) : g__law_table [x] M = .ok (.dT (TT (tabG kS rs))) M := by
  refine wp_eq ?_
  unfold g__law_table
  refine run_wp rfl ?_
  unfold t__law_table t__law_table_2
  have nk : ∀ S, eDnewTP S M = .ok (.ptr M.length) (M ++ [MO.dT []]) := fun _ => rfl
  simp_arith [nk, Kis_at (asL_app hx)]
  rw [itsOf_ds]
  refine for_map (fun l S' M' => M' = M ++ [MO.dT (TT (tabG kS l))] ∧ ∃ pv, S' = [some x, some (.ptr M.length), none, none, none, pv]) (fun l S' M' h => by rw [h.1]; exact itsOf_gd (asL_app hx)) (fun l d r S' M' e ⟨hM', pv, hS⟩ => ?_) ⟨rfl, none, rfl⟩ (fun S' M' ⟨hM', pv, hS⟩ => ?_)
  · subst hM' hS
    have ll : l.length ≤ 2000 := by rw [e, List.length_append] at hl; omega
    have tl := (tabG_len (κ := kS) l).1
    unfold b__law_table_1
    have dp := fun i => tt_dput (a := minS d.1 d.2.1) (b := maxS d.1 d.2.1) (i := i) (g0 (M := M) (x := MO.dT (TT (tabG kS l))) (l := [])) (by omega)
    simp_arith [Kge1_ap (isDT g0), tt_look g0, get_opt (z := D.int 0), dp, s0]
    exact ⟨by rw [tabG_snoc]; rfl, none, rfl⟩
  · subst hM' hS
    simp_arith [Kfz_T g0, s0]
    rw [set_fail (d := .dT (TT (tabG kS rs))) (l := [MO.gone]) hM (lowT_tt _) (by simp)]
    exact ⟨rfl, rfl⟩

def inT (T : Tab) (x : Str) : Bool := T.1.any fun p => decide (x = p.1 ∨ x = p.2)
def bothIn (xs : List Str) (p : PR) : Bool := decide (p.1 ∈ xs) && decide (p.2 ∈ xs)
def betw (T : Tab) (xs : List Str) : Int := ((T.1.filter (bothIn xs)).map T.2).sum
end
section
variable {T T2 : Tab} {xs : List Str}
/-- the same meetings, in another order -/
structure Alk (T T2 : Tab) : Prop where
  pm : T2.1.Perm T.1
  vl : ∀ p ∈ T.1, T2.2 p = T.2 p
theorem Alk.inT (h : Alk T T2) (y : Str) : inT T2 y = inT T y := by
  unfold QL.inT
  rw [Bool.eq_iff_iff, List.any_eq_true, List.any_eq_true]
  exact ⟨fun ⟨p, hp, e⟩ => ⟨p, h.pm.mem_iff.mp hp, e⟩, fun ⟨p, hp, e⟩ => ⟨p, h.pm.mem_iff.mpr hp, e⟩⟩
theorem Alk.betw (h : Alk T T2) (xs : List Str) : betw T2 xs = betw T xs := by
  unfold QL.betw
  rw [sum_perm ((h.pm.filter (bothIn xs)).map T2.2)]
  congr 1
  exact List.map_congr_left fun p hp => h.vl p (List.mem_filter.mp hp).1
end
section
variable {M M1 M2 N : Mem} {S : Sl} {Q : QQ D} {E : XQ} {P : Po} {d x y w : D} {k n K : Nat} {ds : List D} {xs ks ls names ns : List Str} {f : Fn} {T T2 : Tab} {rs rs' : List Rn} {r : Rn} {b : Int}
/-! ### a table's content -/
abbrev kv (r : Rn) : PR × Int := (kS r, r.2.2)
def ask (p : PR) (e : PR × Int) : Int := if e.1 = p then e.2 else 0
theorem tab_mem {p : PR} : ∀ rs : List Rn, p ∈ (tabG kS rs).1 ↔ p ∈ (rs.map kv).map (·.1) := by
  refine rev_ind (P := fun rs => p ∈ (tabG kS rs).1 ↔ p ∈ (rs.map kv).map (·.1)) Iff.rfl fun l d ih => ?_
  rw [tabG_snoc, List.map_append, List.map_append, List.mem_append, ← ih]
  show p ∈ addk (tabG kS l).1 (kS d) ↔ _
  rw [mem_addk]
  simp
theorem tab_get {p : PR} : ∀ rs : List Rn, (tabG kS rs).get p = ((rs.map kv).map (ask p)).sum := by
  refine rev_ind (P := fun rs => (tabG kS rs).get p = ((rs.map kv).map (ask p)).sum) ?_ fun l d ih => ?_
  · show Tab.get T0 p = 0
    exact if_neg (fun z => nomatch z)
  · rw [tabG_snoc, List.map_append, List.map_append, List.sum_append, ← ih]
    show Tab.get ((tabG kS l).put (kS d) ((tabG kS l).get (kS d) + d.2.2)) p = (tabG kS l).get p + ([kv d].map (ask p)).sum
    have one : ([kv d].map (ask p)).sum = ask p (kv d) := by simp
    rw [one]
    by_cases q : kS d = p
    · subst q
      unfold Tab.get
      rw [if_pos put_mem, put_same]
      show _ = _ + (if kS d = kS d then d.2.2 else 0)
      rw [if_pos rfl]
    · have q' : ¬ p = kS d := fun z => q z.symm
      show _ = _ + (if kS d = p then d.2.2 else 0)
      rw [if_neg q, Int.add_zero]
      unfold Tab.get
      rw [put_ne q']
      by_cases m : p ∈ (tabG kS l).1
      · rw [if_pos m]
        exact if_pos (show p ∈ addk _ _ from mem_addk.mpr (.inl m))
      · rw [if_neg m]
        exact if_neg (show p ∉ addk _ _ from fun z => (mem_addk.mp z).elim m q')
theorem tab_alk (h : (rs'.map kv).Perm (rs.map kv)) : Alk (tabG kS rs) (tabG kS rs') := by
  have mm : ∀ p, p ∈ (tabG kS rs').1 ↔ p ∈ (tabG kS rs).1 := fun p => by rw [tab_mem, tab_mem]; exact (h.map _).mem_iff
  refine ⟨(List.perm_ext_iff_of_nodup (tabG_len rs').2 (tabG_len rs).2).mpr mm, fun p hp => ?_⟩
  have e : (tabG kS rs').get p = (tabG kS rs).get p := by rw [tab_get, tab_get]; exact sum_perm (h.map _)
  unfold Tab.get at e
  rwa [if_pos ((mm p).mpr hp), if_pos hp] at e
theorem minS_comm (a c : Str) : minS a c = minS c a := by
  unfold minS
  by_cases h : c.cps.toList < a.cps.toList
  · have h2 : ¬ a.cps.toList < c.cps.toList := fun z => absurd (List.lt_trans h z) (List.lt_irrefl _)
    rw [if_pos h, if_neg h2]
  · by_cases h2 : a.cps.toList < c.cps.toList
    · rw [if_neg h, if_pos h2]
    · rw [if_neg h, if_neg h2]; exact lt_total h2 h
theorem maxS_comm (a c : Str) : maxS a c = maxS c a := by
  unfold maxS
  by_cases h : a.cps.toList < c.cps.toList
  · have h2 : ¬ c.cps.toList < a.cps.toList := fun z => absurd (List.lt_trans h z) (List.lt_irrefl _)
    rw [if_pos h, if_neg h2]
  · by_cases h2 : c.cps.toList < a.cps.toList
    · rw [if_neg h, if_pos h2]
    · rw [if_neg h, if_neg h2]; exact lt_total h h2
theorem kv_turn {a c : Str} {i : Int} : kv (a, c, i) = kv (c, a, i) := by
  show ((minS a c, maxS a c), i) = ((minS c a, maxS c a), i)
  rw [minS_comm, maxS_comm]
/-! ### Lot -/
theorem pair_eq {a c : Str} : g_pair_of [.str a, .str c] M = .ok (.tup [.str (minS a c), .str (maxS a c)]) M := by
  refine wp_eq ?_
  unfold g_pair_of
  refine run_wp rfl ?_
  unfold t_pair_of
  simp_arith [and_self]
theorem is_int_i {i : Int} : g_is_integer [.int i] M = .ok (.bl true) M := by
  refine wp_eq ?_
  unfold g_is_integer
  refine run_wp rfl ?_
  unfold t_is_integer
  have i1 : isTy "int" "int" = true := by decide
  have i2 : isTy "int" "bool" = false := by decide
  simp_arith [KisT_at (M := M) (d := .int i) (t := "int") (n := "int") rfl, i1, KisT_at (M := M) (d := .int i) (t := "bool") (n := "int") rfl, i2, and_self]
theorem is_count_i {i : Int} (h0 : 1 ≤ i) (h1 : i ≤ 1000000000000000000000000) : g_is_count [.int i] M = .ok (.bl true) M := by
  refine wp_eq ?_
  unfold g_is_count
  refine run_wp rfl ?_
  unfold t_is_count
  simp_arith [is_int_i, h0, h1, decide_true, and_self]
theorem run_ok (ha : NmOk r.1) (hc : NmOk r.2.1) (ne : r.1 ≠ r.2.1) (h0 : 1 ≤ r.2.2) (h1 : r.2.2 ≤ 1000000000000000000000000) : g_is_run [eR r] M = .ok (.bl true) M := by
  refine wp_eq ?_
  unfold g_is_run
  refine run_wp rfl ?_
  have i1 : isTy "tuple" "tuple" = true := by decide
  have n1 : decide (r.1 = r.2.1) = false := decide_eq_false ne
  have z3 : decide (((0 + 1 + 1 + 1 : Nat) : Int) = 3) = true := by decide
  unfold t_is_run t_is_run_1
  simp_arith [KisT_at (M := M) (d := eR r) (t := "tuple") (n := "tuple") rfl, i1, lenT, fNe_i, List.length_cons, List.length_nil, z3, ixt30, ixt31, ixt32, is_name_eq ha, is_name_eq hc, n1, is_count_i h0 h1, and_self]
theorem linit_wp (hM : NoP M) (ok : ∀ r ∈ rs, RO ns b r) (nn : ∀ y ∈ ns, NmOk y) (hl : rs.length ≤ 60) (hb0 : 0 ≤ b) (hb : b * 60 ≤ 1000000000000000000000000) :
    wp (g_Lot___init__ [.ptr M.length, .lst (rs.map eR)] (M ++ [MO.obj "Lot" []])) (fun d M' => d = .non ∧ M' = M ++ [MO.obj "Lot" [("table", .dT (TT (tabG kS rs)))]]) XN := by
  let M0 : Mem := M ++ [MO.obj "Lot" []]
  have hM0 : NoP M0 := NoP.app hM fun _ => rfl
  have it : isTy "list" "list" = true := by decide
  have nk : ∀ S, eDnewTP S M0 = .ok (.ptr M0.length) (M0 ++ [MO.dT []]) := fun _ => rfl
  show wp (g_Lot___init__ [.ptr M.length, .lst (rs.map eR)] M0) _ _
  unfold g_Lot___init__
  refine run_wp rfl ?_
  unfold t_Lot___init__ t_Lot___init___1 t_Lot___init___5
  have gt : decide ((500 : Int) < ((rs.map eR).length : Int)) = false := decide_eq_false (by rw [List.length_map]; omega)
  simp_arith [KisT_at (M := M0) (d := .lst (rs.map eR)) (t := "list") (n := "list") rfl, it, gt, nk]
  refine for_enum (fun l S' M' => ∃ q t : List Rn, rs = q ++ t ∧ l = q.map eR ∧ M' = M0 ++ [MO.dT (TT (tabG kS q))] ∧ ∃ o3 o4 o5, S' = [some (.ptr M.length), some (.lst (rs.map eR)), some (.ptr M0.length), o3, o4, o5]) (fun _ => trivial) (fun l d t S' M' e ⟨q, t', e1, e2, e3, o3, o4, o5, hS⟩ => ?_) ⟨[], rs, rfl, rfl, rfl, none, none, none, rfl⟩ (fun S' M' ⟨q, t', e1, e2, e3, o3, o4, o5, hS⟩ => ?_)
  · subst e2 e3 hS
    have e5 : ∃ r0 t0, t' = r0 :: t0 ∧ d = eR r0 := by
      rw [e1, List.map_append] at e
      have e6 := List.append_cancel_left e
      cases t' with
      | nil => cases e6
      | cons r0 t0 => cases e6; exact ⟨r0, t0, rfl, rfl⟩
    obtain ⟨r0, t0, rfl, rfl⟩ := e5
    have hr0 := ok r0 (by rw [e1]; simp)
    have r60 : b ≤ 1000000000000000000000000 := by omega
    unfold b_Lot___init___4 t_Lot___init___2 t_Lot___init___3
    have ro := fun M => run_ok (M := M) (nn _ hr0.pa) (nn _ hr0.ot) hr0.ne hr0.lo (Int.le_trans hr0.hi r60)
    have lk := tt_look (a := minS r0.1 r0.2.1) (b := maxS r0.1 r0.2.1) (g0 (M := M0) (x := MO.dT (TT (tabG kS q))) (l := []))
    have ql : (tabG kS q).1.length ≤ 60 := by
      have h1 := (tabG_len (κ := kS) q).1
      rw [e1, List.length_append] at hl
      omega
    have dp := tt_dput (a := minS r0.1 r0.2.1) (b := maxS r0.1 r0.2.1) (i := (tabG kS q).get (minS r0.1 r0.2.1, maxS r0.1 r0.2.1) + r0.2.2) (g0 (M := M0) (x := MO.dT (TT (tabG kS q))) (l := [])) (by omega)
    rw [s0] at dp
    have tS : (tabG kS q).put (minS r0.1 r0.2.1, maxS r0.1 r0.2.1) ((tabG kS q).get (minS r0.1 r0.2.1, maxS r0.1 r0.2.1) + r0.2.2) = tabG kS (q ++ [r0]) := (tabG_snoc).symm
    rw [tS] at dp
    have inT' : (minS r0.1 r0.2.1, maxS r0.1 r0.2.1) ∈ (tabG kS (q ++ [r0])).1 := by rw [← tS]; exact put_mem
    have ix := tt_ix (a := minS r0.1 r0.2.1) (b := maxS r0.1 r0.2.1) (g0 (M := M0) (x := MO.dT (TT (tabG kS (q ++ [r0])))) (l := [])) inT'
    have sm := (tabG_ok kS_or hb0 (rs := q ++ [r0]) (fun z hz => ok z (by rw [e1]; rcases List.mem_append.mp hz with w | w; exact List.mem_append_left _ w; rw [List.mem_singleton.mp w]; simp)) _ inT').2.2.2.2
    have q60 : ((q ++ [r0]).length : Int) ≤ 60 := by
      rw [e1, List.length_append, List.length_cons] at hl
      rw [List.length_append, List.length_singleton]
      omega
    have sm2 : (tabG kS (q ++ [r0])).2 (minS r0.1 r0.2.1, maxS r0.1 r0.2.1) ≤ 1000000000000000000000000 := by
      have := Int.mul_le_mul_of_nonneg_left q60 hb0
      omega
    have lt' : decide (1000000000000000000000000 < (tabG kS (q ++ [r0])).2 (minS r0.1 r0.2.1, maxS r0.1 r0.2.1)) = false := decide_eq_false (by omega)
    simp_arith [ro, ixt30, ixt31, pair_eq, Kge1_ap (isDT g0), lk, get_opt (z := D.int 0), ixt32, dp, ix, lt']
    exact ⟨q ++ [r0], t0, by rw [e1, List.append_assoc]; rfl, by rw [List.map_append]; rfl, rfl, _, _, _, rfl⟩
  · subst e3 hS
    have e7 : q = rs := by
      have l1 := congrArg List.length e2
      rw [List.length_map, List.length_map, e1, List.length_append] at l1
      have : t' = [] := List.length_eq_zero_iff.mp (by omega)
      rw [e1, this, List.append_nil]
    subst e7
    have go : (M0 ++ [MO.gone])[M.length]? = some (.obj "Lot" []) := by
      show (M ++ [MO.obj "Lot" []] ++ [MO.gone])[M.length]? = _
      rw [List.append_assoc]
      exact g0
    have so : (M0 ++ [MO.gone]).set M.length (.obj "Lot" [("table", .dT (TT (tabG kS q)))]) = M ++ [MO.obj "Lot" [("table", .dT (TT (tabG kS q)))]] ++ [MO.gone] := by
      show (M ++ [MO.obj "Lot" []] ++ [MO.gone]).set M.length _ = _
      rw [List.append_assoc, List.append_assoc]
      exact s0
    simp_arith [Kfz_T g0, s0, Kf2_at go, so]
    have sl : M0.length = (M ++ [MO.obj "Lot" [("table", .dT (TT (tabG kS q)))]]).length := by simp [M0]
    rw [sl, set_fail (NoP.app hM fun n => by
      show (((lowT n (TT (tabG kS q))) && true) && true) = true
      rw [lowT_tt]
      rfl) rfl (by simp)]
    exact ⟨rfl, rfl⟩
end
/-! ### a list shuffled, at a place -/
section
variable {M M1 M2 : Mem} {S : Sl} {k : Nat} {d x : D} {r : List D} {Q : QQ D} {E : XQ} {α : Type} {enc : α → D}
theorem erase_perm : ∀ (l : List α) (j : Nat) (hj : j < l.length), (l[j] :: l.eraseIdx j).Perm l
  | x :: r, 0, _ => List.Perm.refl _
  | x :: r, j + 1, hj => by
    have hj' : j < r.length := by rw [List.length_cons] at hj; omega
    have ih := erase_perm r j hj'
    show (r[j] :: x :: r.eraseIdx j).Perm (x :: r)
    exact (List.Perm.swap _ _ _).trans (List.Perm.cons x ih)
theorem erase_map : ∀ (l : List α) (j : Nat), (l.map enc).eraseIdx j = (l.eraseIdx j).map enc
  | [], j => rfl
  | x :: r, 0 => rfl
  | x :: r, j + 1 => by
    show enc x :: (r.map enc).eraseIdx j = _
    rw [erase_map r j]
    rfl
theorem low_map (low : ∀ a n, lowD n (enc a) = true) (l : List α) (n : Nat) : lowO n (.lst (l.map enc)) = true := lowDs_map (fun x => low x n) l

theorem settle_ptr {n k : Nat} (h : n ≤ k) : settle n (.ok (.ptr k) M) = .ok (.ptr k) M := by
  show (if M.length ≤ n then _ else if lowD n (.ptr k) = true ∧ _ then _ else _) = _
  split
  · rfl
  · rw [if_neg fun z => by
      have : decide (k < n) = true := z.1
      have := of_decide_eq_true this
      omega]
theorem shuffledP_wp (h : HM M) (low : ∀ (a : α) (n : Nat), lowD n (enc a) = true) (l : List α) (hx : asL M x = some (l.map enc)) (hl : l.length ≤ 1000) (kk : ∀ (l' : List α) M' k, l'.Perm l → Ext M M' → M.length ≤ k → M'[k]? = some (.lst (l'.map enc)) → Q (.ptr k) M') :
    wp (g__law_shuffled [.ptr 0, x] M) Q E := by
  unfold g__law_shuffled
  refine run_wp rfl ?_
  unfold t__law_shuffled
  have sq : seqOf M x = some (l.map enc) := by
    cases x with
    | tup es => cases hx
    | _ => exact hx
  have lp : bListP [x] M = .ok (.ptr M.length) (M ++ [.lst (l.map enc)]) := by unfold bListP; simp only [sq]
  simp_arith [lp]
  have e0 : Ext M (M ++ [MO.lst (l.map enc)]) := Ext.app h (low_map low l)
  have e1 : Ext M (M ++ [MO.lst (l.map enc)] ++ [MO.lst []]) := e0.trans (Ext.app e0.hm fun _ => rfl)
  have hp := h.pos
  have gA : (M ++ [MO.lst (l.map enc)] ++ [MO.lst []])[M.length]? = some (.lst (l.map enc)) := by rw [List.append_assoc]; exact g0
  have gB : (M ++ [MO.lst (l.map enc)] ++ [MO.lst []])[M.length + 1]? = some (.lst []) := by rw [List.append_assoc]; exact g1
  unfold t__law_shuffled_2
  rw [show (M ++ [MO.lst (l.map enc)]).length = M.length + 1 by simp]
  refine while_inv (fun n S' M' => S' = [some (.ptr 0), some x, some (.ptr M.length), some (.ptr (M.length + 1))] ∧ Ext M M' ∧ ∃ left found : List α, left.length = n ∧ (found ++ left).Perm l ∧ M'[M.length]? = some (.lst (left.map enc)) ∧ M'[M.length + 1]? = some (.lst (found.map enc)))
    (fun n S' M' ⟨hS, hE, left, found, hn, hpm, g1', g2'⟩ => ?_) (k := l.length) ⟨rfl, e1, l, [], rfl, List.Perm.refl _, gA, gB⟩
  subst hS
  have ll : left.length + found.length ≤ 1000 := by
    have := hpm.length_eq
    rw [List.length_append] at this
    omega
  cases left with
  | nil =>
    have nn : fNeA (.ptr M.length) (.lst []) M' = .ok (.bl false) M' := ne_nil_l (asL_p g1')
    simp_arith [nn, Bool.false_eq_true, if_false]
    rw [settle_ptr (by omega)]
    simp_arith []
    exact kk found M' _ (by rw [List.append_nil] at hpm; exact hpm) hE (by omega) g2'
  | cons x0 r =>
    have nn : fNeA (.ptr M.length) (.lst []) M' = .ok (.bl true) M' := ne_nil_l (asL_p g1')
    unfold b__law_shuffled_1
    simp_arith [nn, if_true]
    refine app_wp ?_
    simp_arith [Kap_at g2']
    refine popI_wp ?_
    simp_arith [Kpi_at g1', len_p g1', List.length_map]
    rw [show ((enc x0 :: r.map enc).length : Int) = (((x0 :: r).length : Nat) : Int) by rw [List.length_cons, List.length_cons, List.length_map]]
    refine draw_wp hE.hm (by rw [List.length_cons]; omega) (by omega) fun j M2 hj f2 => ?_
    have hj' : j < (x0 :: r).length := by omega
    have a1 : M2[M.length]? = some (.lst ((x0 :: r).map enc)) := by rw [f2.at' _ (by omega)]; exact g1'
    have a2 : M2[M.length + 1]? = some (.lst (found.map enc)) := by rw [f2.at' _ (by omega)]; exact g2'
    refine Kpi2_at (w := enc (x0 :: r)[j]) a1 (by rw [List.getElem?_map, List.getElem?_eq_getElem hj']; rfl) (by rw [List.length_map]; exact small' (by omega)) ?_
    have hE2 : Ext M M2 := hE.trans f2.ext
    rw [erase_map]
    have hE3 : Ext M (M2.set M.length (.lst (((x0 :: r).eraseIdx j).map enc))) := hE2.set (by omega) (by omega) (low_map low _)
    have a3 : (M2.set M.length (.lst (((x0 :: r).eraseIdx j).map enc)))[M.length + 1]? = some (.lst (found.map enc)) := by rw [List.getElem?_set_ne (by omega)]; exact a2
    have a4 : (M2.set M.length (.lst (((x0 :: r).eraseIdx j).map enc)))[M.length]? = some (.lst (((x0 :: r).eraseIdx j).map enc)) := List.getElem?_set_self (List.getElem?_eq_some_iff.mp a1).1
    rw [Kap2_at a3 (by rw [List.length_map, sizeLine_eq]; omega)]
    simp_arith []
    refine ⟨n - 1, by rw [List.length_cons] at hn; omega, by first | rfl | trivial, ?_, (x0 :: r).eraseIdx j, found ++ [(x0 :: r)[j]], ?_, ?_, ?_, ?_⟩
    · rw [show found.map enc ++ [enc (x0 :: r)[j]] = (found ++ [(x0 :: r)[j]]).map enc by rw [List.map_append]; rfl]
      exact hE3.set (by omega) (by omega) (low_map low _)
    · rw [List.length_eraseIdx, if_pos hj']; omega
    · rw [List.append_assoc]
      exact (List.Perm.append_left found (erase_perm (x0 :: r) j hj')).trans hpm
    · rw [List.getElem?_set_ne (by omega)]; exact a4
    · rw [List.map_append]
      exact List.getElem?_set_self (List.getElem?_eq_some_iff.mp a3).1
end
/-! ### Purses -/
section
variable {M M1 M2 : Mem} {S : Sl} {k : Nat} {d : D} {ks ls : List Str} {f : Fn} {x : Str} {Q : QQ D} {E : XQ}
theorem is_amount_eq {i : Int} {M : Mem} (h0 : 0 ≤ i) (h1 : i ≤ 1000000000000000000000000000000) : g_is_amount [.int i] M = .ok (.bl true) M := by
  have a1 : g_is_integer [.int i] M = .ok (.bl true) M := by
    have i1 : eIsT "int" (eVar 0) [some (.int i)] M = .ok (.bl true) M := eIsT_at (d := .int i) (n := "int") rfl rfl
    have i2 : eIsT "bool" (eVar 0) [some (.int i)] M = .ok (.bl false) M := eIsT_at (d := .int i) (n := "int") rfl rfl
    unfold g_is_integer
    rw [runF_ap (show [D.int i].length = 1 from rfl)]
    unfold t_is_integer
    simp only [List.map_cons, List.map_nil, List.replicate, List.append_nil, kRet_ap, eAnd_ap, i1, eaR_t, eNot_ap, i2, enR_ok, Bool.not_false, rtR_ok, fnR_rt]
    exact settle_ok (Nat.le_refl _)
  have a2 : e3 fLe fLe (eC (.int 0)) (eVar 0) (eC (.int 1000000000000000000000000000000)) [some (.int i)] M = .ok (.bl true) M := by
    rw [e3_at (x := .int 0) (y := .int i) (u := .int 1000000000000000000000000000000) (M1 := M) (M2 := M) (M3 := M) (M4 := M) rfl rfl (by rw [fLe_i, decide_eq_true h0]) rfl, fLe_i, decide_eq_true h1]
  unfold g_is_amount
  rw [runF_ap (show [D.int i].length = 1 from rfl)]
  unfold t_is_amount
  simp only [List.map_cons, List.map_nil, List.replicate, List.append_nil, kRet_ap, eAnd_ap, eCall_ap, aCons_ap, eVar_ap, List.getElem?_cons_succ, List.getElem?_cons_zero, vR_some, c1_ok, aNil_ap, c2_ok, cR_ok, a1, eaR_t, a2, rtR_ok, fnR_rt]
  exact settle_ok (Nat.le_refl _)
/-- what makes good purses -/
structure Pu (ks : List Str) (f : Fn) : Prop where
  nd : ks.Nodup
  len : ks.length ≤ 24
  nm : ∀ x ∈ ks, NmOk x
  lo : ∀ x ∈ ks, 0 ≤ f x
  hi : ∀ x ∈ ks, f x ≤ 1000000000000000000000000000000
theorem pinit_step {B : Mem} {o ls : D} {at' : D} {p : List Str} (h1 : NmOk x) (h2 : 0 ≤ f x) (h3 : f x ≤ 1000000000000000000000000000000) (hx : x ∉ p) (hp : p.length ≤ 64) :
    b_Purses___init___4 [some o, some ls, some (.ptr B.length), some at', some (pe f x)] (B ++ [MO.dK (TI p f)]) = .nx [some o, some ls, some (.ptr B.length), some at', some (pe f x)] (B ++ [MO.dK (TI (p ++ [x]) f)]) := by
  have c1' : t_Purses___init___2 [some o, some ls, some (.ptr B.length), some at', some (pe f x)] (B ++ [MO.dK (TI p f)]) = .nx [some o, some ls, some (.ptr B.length), some at', some (pe f x)] (B ++ [MO.dK (TI p f)]) := by
    unfold t_Purses___init___2
    have i1 : eIsT "tuple" (eVar 4) [some o, some ls, some (.ptr B.length), some at', some (pe f x)] (B ++ [MO.dK (TI p f)]) = .ok (.bl true) (B ++ [MO.dK (TI p f)]) := eIsT_at (d := pe f x) (n := "tuple") rfl rfl
    have i2 : bLenA [pe f x] (B ++ [MO.dK (TI p f)]) = .ok (.int 2) (B ++ [MO.dK (TI p f)]) := rfl
    have i3 : fNe (.int 2) (.int 2) (B ++ [MO.dK (TI p f)]) = .ok (.bl false) (B ++ [MO.dK (TI p f)]) := rfl
    simp only [kIf_ap, bOr_ap, bNot_ap, bV_ap, i1, bR_ok, nR_ok, Bool.not_true, orRr_f, e2_ap, eCall_ap, aCons_ap, eVar_ap, List.getElem?_cons_succ, List.getElem?_cons_zero, vR_some, c1_ok, aNil_ap, c2_ok, cR_ok, i2, s2_ok, eC_ap, s3_ok, i3, pe0, is_name_eq h1, pe1, is_amount_eq h2 h3, ifR_f, kNil_ap]
  have c2' : t_Purses___init___3 [some o, some ls, some (.ptr B.length), some at', some (pe f x)] (B ++ [MO.dK (TI p f)]) = .nx [some o, some ls, some (.ptr B.length), some at', some (pe f x)] (B ++ [MO.dK (TI p f)]) := by
    unfold t_Purses___init___3
    simp only [kIf_ap, bV_ap, e2_ap, eVar_ap, List.getElem?_cons_succ, List.getElem?_cons_zero, vR_some, s2_ok, eC_ap, s3_ok, pe0, in_ti (x := x) (g0 (M := B) (x := MO.dK (TI p f)) (l := [])), decide_eq_false hx, bR_ok, ifR_f, kNil_ap]
  unfold b_Purses___init___4
  simp only [kSeq_ap, c1', thn_nx, c2']
  rw [kDPut_at (d := .int (f x)) (k := B.length) (x := x) (kvs := TI p f) (N1 := B ++ [MO.dK (TI p f)]) (N2 := B ++ [MO.dK (TI p f)]) (N3 := B ++ [MO.dK (TI p f)]) (by simp only [e2_ap, eVar_ap, List.getElem?_cons_succ, List.getElem?_cons_zero, vR_some, s2_ok, eC_ap, s3_ok, pe1]) rfl (by simp only [e2_ap, eVar_ap, List.getElem?_cons_succ, List.getElem?_cons_zero, vR_some, s2_ok, eC_ap, s3_ok, pe0]) g0 (by rw [TI, te_len, sizeLine_eq]; omega), s0, ti_new hx]
  rw [ti_cong (f := fu f x (f x)) (g := f) fun y _ => by by_cases e : y = x; (subst e; exact fu_same); exact fu_ne e]
theorem pinit_loop {B : Mem} {o ls : D} {gd : Mem → Prop} (hg : ∀ M, gd M) : ∀ (q p : List Str) (n : Nat), (p ++ q).Nodup → (p ++ q).length ≤ 64 → (∀ x ∈ q, NmOk x ∧ 0 ≤ f x ∧ f x ≤ 1000000000000000000000000000000) →
    forL gd (gTupF 2 (gConsF (gN 3) (gConsF (gN 4) gNilF))) b_Purses___init___4 [3, 4] (enumD n (PL q f)) [some o, some ls, some (.ptr B.length), none, none] (B ++ [MO.dK (TI p f)]) = .nx [some o, some ls, some (.ptr B.length), none, none] (B ++ [MO.dK (TI (p ++ q) f)])
  | [], p, n, _, _, _ => by rw [List.append_nil]; exact forL_end (hg _)
  | x :: q, p, n, nd, hl, hq => by
    have hx : x ∉ p := fun h => by
      have := (List.nodup_append.mp nd).2.2 x h x List.mem_cons_self
      exact this rfl
    obtain ⟨h1, h2, h3⟩ := hq x List.mem_cons_self
    have ih := pinit_loop (B := B) (o := o) (ls := ls) hg q (p ++ [x]) (n + 1) (by rw [List.append_assoc]; exact nd) (by rw [List.append_assoc]; exact hl) fun y hy => hq y (List.mem_cons_of_mem _ hy)
    rw [List.append_assoc] at ih
    show forL gd _ _ _ (.tup [.int (n : Nat), pe f x] :: enumD (n + 1) (PL q f)) _ _ = _
    rw [forL_step (S1 := [some o, some ls, some (.ptr B.length), some (.int (n : Nat)), some (pe f x)]) (M1 := B ++ [MO.dK (TI p f)]) (hg _) (by simp), pinit_step h1 h2 h3 hx (by rw [List.length_append] at hl; omega)]
    exact ih
/-- Purses(pairs) -/
theorem pinit_eq (hM : NoP M) (P : Pu ks f) : g_Purses___init__ [.ptr M.length, .lst (PL ks f)] (M ++ [MO.obj "Purses" []]) = .ok .non (M ++ [MO.obj "Purses" [("table", .dK (TI ks f))]]) := by
  have hl : (PL ks f).length = ks.length := List.length_map _
  have i1 : eIsT "list" (eVar 1) [some (.ptr M.length), some (.lst (PL ks f)), none, none, none] (M ++ [MO.obj "Purses" []]) = .ok (.bl true) (M ++ [MO.obj "Purses" []]) := eIsT_at (d := .lst (PL ks f)) (n := "list") rfl rfl
  have gt : decide ((24 : Int) < ((PL ks f).length : Int)) = false := decide_eq_false (by have := P.len; omega)
  have a1 : t_Purses___init___1 [some (.ptr M.length), some (.lst (PL ks f)), none, none, none] (M ++ [MO.obj "Purses" []]) = .nx [some (.ptr M.length), some (.lst (PL ks f)), none, none, none] (M ++ [MO.obj "Purses" []]) := by
    unfold t_Purses___init___1
    simp only [kIf_ap, bOr_ap, bNot_ap, bV_ap, i1, bR_ok, nR_ok, Bool.not_true, orRr_f, e2_ap, eCall_ap, aCons_ap, eVar_ap, List.getElem?_cons_succ, List.getElem?_cons_zero, vR_some, c1_ok, aNil_ap, c2_ok, cR_ok, bLenA_l, s2_ok, eC_ap, s3_ok, fGt_i, gt, ifR_f, kNil_ap]
  have lp := pinit_loop (f := f) (B := M ++ [MO.obj "Purses" []]) (o := .ptr M.length) (ls := .lst (PL ks f)) (gd := Its.gd ⟨enumD 0 (PL ks f), none⟩) (fun _ => trivial) ks [] 0 P.nd (by have := P.len; simp; omega) fun x hx => ⟨P.nm x hx, P.lo x hx, P.hi x hx⟩
  have a2 : t_Purses___init___5 [some (.ptr M.length), some (.lst (PL ks f)), some (.ptr (M ++ [MO.obj "Purses" []]).length), none, none] (M ++ [MO.obj "Purses" []] ++ [MO.dK []]) = .nx [some (.ptr M.length), some (.lst (PL ks f)), some (.ptr (M ++ [MO.obj "Purses" []]).length), none, none] (M ++ [MO.obj "Purses" []] ++ [MO.dK (TI ks f)]) := by
    unfold t_Purses___init___5
    rw [kFor_ap]
    show foR _ _ _ _ (Res.ok ⟨enumD 0 (PL ks f), none⟩ _) = _
    rw [foR_ok]
    exact lp
  have a3 : kFld "Purses" "table" (eVar 0) (eFrz (eVar 2)) [some (.ptr M.length), some (.lst (PL ks f)), some (.ptr (M ++ [MO.obj "Purses" []]).length), none, none] (M ++ [MO.obj "Purses" []] ++ [MO.dK (TI ks f)]) = .nx [some (.ptr M.length), some (.lst (PL ks f)), some (.ptr (M ++ [MO.obj "Purses" []]).length), none, none] (M ++ [MO.obj "Purses" [("table", .dK (TI ks f))]] ++ [MO.gone]) := by
    unfold kFld
    rw [eFrz_k (k := (M ++ [MO.obj "Purses" []]).length) (kvs := TI ks f) (N1 := M ++ [.obj "Purses" []] ++ [MO.dK (TI ks f)]) rfl g0, s0]
    show (match (M ++ [MO.obj "Purses" []] ++ [MO.gone])[M.length]? with | some (.obj c fs) => _ | _ => SR.bad) = _
    have gg : (M ++ [MO.obj "Purses" []] ++ [MO.gone])[M.length]? = some (.obj "Purses" []) := by simp
    rw [gg]
    show (if ("Purses" : Str) = "Purses" ∧ ([] : List (Str × D)).length < 1000 then _ else SR.bad) = _
    rw [if_pos ⟨rfl, by decide⟩]
    simp [putD]
  unfold g_Purses___init__
  rw [runF_ap (show [D.ptr M.length, D.lst (PL ks f)].length = 2 from rfl)]
  unfold t_Purses___init__
  have nk : ∀ S, eDnewKP S (M ++ [MO.obj "Purses" []]) = .ok (.ptr (M ++ [MO.obj "Purses" []]).length) (M ++ [MO.obj "Purses" []] ++ [MO.dK []]) := fun _ => rfl
  simp only [List.map_cons, List.map_nil, List.replicate, List.cons_append, List.nil_append, kSeq_ap, a1, thn_nx, kAsg_ap, nk, asR_ok, gN_ap, stR_ok, List.set_cons_succ, List.set_cons_zero, a2, a3, fnR_nx]
  have sl : (M ++ [MO.obj "Purses" []]).length = (M ++ [MO.obj "Purses" [("table", .dK (TI ks f))]]).length := by simp
  rw [sl]
  exact set_fail (NoP.app hM fun n => by
    show ((lowK n (TI ks f) && true) && true) = true
    rw [lowK_ti]
    rfl) rfl (by simp)

theorem itemsK_map : (TI ks f).map (fun kv => D.tup [kD kv.1, kv.2]) = PL ks f := by
  unfold TI TE PL
  rw [List.map_map]
  rfl
theorem pe_low (a : Str) (n : Nat) : lowD n (pe f a) = true := rfl
theorem Pu.perm {ks ls : List Str} {f : Fn} (h : Pu ks f) (p : ls.Perm ks) : Pu ls f := ⟨p.nodup_iff.mpr h.nd, by rw [p.length_eq]; exact h.len, fun x hx => h.nm x (p.mem_iff.mp hx), fun x hx => h.lo x (p.mem_iff.mp hx), fun x hx => h.hi x (p.mem_iff.mp hx)⟩
theorem Ext.gone {k : Nat} (h : Ext M M1) (h0 : k ≠ 0) (hk : M.length ≤ k) : Ext M (M1.set k .gone) := h.set h0 hk fun _ => rfl
theorem purses_wp (h : HM M) (hP : Pu ks f) (kk : ∀ (ls : List Str) M', ls.Perm ks → Fr M M' → Q (PO ls f) M') : wp (g__law_purses [.ptr 0, .dK (TI ks f)] M) Q E := by
  unfold g__law_purses
  refine run_wp rfl ?_
  unfold t__law_purses e__law_purses_1
  simp_arith [itemsK_map]
  refine Klc_map (xs := ks) (pe f) (pe f) (small' (by have := hP.len; omega)) (fun y hy => ?_) ?_
  · rw [show pe f y = .tup [.str y, .int (f y)] from rfl]
    simp_arith [and_self]
  · simp_arith []
    refine shuffledP_wp (enc := pe f) h pe_low ks asL_l (by have := hP.len; omega) fun ls M1 k hpm f1 hk at_k => ?_
    have hp := h.pos
    rw [show ls.map (pe f) = PL ls f from rfl] at at_k
    have f2 := f1.gone (k := k) (by omega) hk
    simp_arith [Kfz_l at_k]
    generalize M1.set k .gone = M2 at f2
    refine wp_of (pinit_eq f2.hm.low (hP.perm hpm)) ?_
    simp_arith [Kfz_o g0, s0, true_and]
    show wp (settle M.length (.ok (PO ls f) (M2 ++ [MO.gone]))) _ _
    exact settle_wp h (f2.trans (Ext.app f2.hm fun _ => rfl)) (fun n => by show (lowK n (TI ls f) && true) = true; rw [lowK_ti]; rfl) fun M' f' => kk ls M' hpm f'
end
/-! ### Lots -/
section
variable {M M1 M2 N : Mem} {S : Sl} {Q : QQ D} {E : XQ} {P : Po} {d x y w : D} {k n K : Nat} {ds full : List D} {ns : List Str} {rs rs' : List Rn} {r : Rn} {b : Int} {g : GF} {p : BF} {e : EF} {vs : List Nat}
theorem Klc_invI {I : Its} (J : List D → List D → Mem → Prop) (hI : I.ds = full) (hg : ∀ l acc M, J l acc M → I.gd M) (hz : full.length ≤ sizeLine) (hl : ∀ l acc M, J l acc M → acc.length ≤ l.length)
    (hs : ∀ l d r acc M, full = l ++ d :: r → J l acc M → wp (g d (kl vs S) M) (Klg p e (fun y M3 => J (l ++ [d]) (acc ++ [y]) M3) (fun M2 => J (l ++ [d]) acc M2)) XN)
    (h0 : J [] [] M) (he : ∀ acc M, J full acc M → Q (.lst acc) M) : Klc g p e vs S Q I M := by
  unfold Klc
  rw [hI]
  exact lc_inv J hg hz hl hs h0 he
theorem eR_low (r : Rn) (n : Nat) : lowD n (eR r) = true := rfl
theorem lot_wp (h : HM M) (hK : M[K]? = some (.lst (rs.map eR))) (k0 : K ≠ 0) (ok : ∀ r ∈ rs, RO ns b r) (nn : ∀ y ∈ ns, NmOk y) (hl : rs.length ≤ 60) (hb0 : 0 ≤ b) (hb : b * 60 ≤ 1000000000000000000000000)
    (kk : ∀ (rs' : List Rn) M', Alk (tabG kS rs) (tabG kS rs') → Fr M M' → Q (LO (tabG kS rs')) M') : wp (g__law_lot [.ptr 0, .ptr K] M) Q E := by
  unfold g__law_lot
  refine run_wp rfl ?_
  unfold t__law_lot e__law_lot_1
  simp_arith [Kis_at (asL_p hK)]
  refine Klc_invI (full := rs.map eR) (fun l acc M' => Fr M M' ∧ ∃ q t q' : List Rn, rs = q ++ t ∧ l = q.map eR ∧ acc = q'.map eR ∧ q'.map kv = q.map kv ∧ ∀ r ∈ q', RO ns b r) itsOf_ds (fun l acc M' ⟨f, _⟩ => by show M'[K]? = _; rw [f.at' K k0]; exact hK) (small' (by rw [List.length_map]; omega))
    (fun l acc M' ⟨_, q, t, q', _, e1, e2, e3, _⟩ => by
      have := congrArg List.length e3
      rw [List.length_map, List.length_map] at this
      rw [e1, e2, List.length_map, List.length_map, this]
      exact Nat.le_refl _) (fun l d t acc M' e ⟨f, q, t', q', e1, e2, e3, e4, e5⟩ => ?_) ⟨Fr.refl h, [], rs, [], rfl, rfl, rfl, rfl, fun r hr => nomatch hr⟩ (fun acc M' ⟨f, q, t', q', e1, e2, e3, e4, e5⟩ => ?_)
  · subst e2 e3
    have e6 : ∃ r0 t0, t' = r0 :: t0 ∧ d = eR r0 := by
      rw [e1, List.map_append] at e
      have e6 := List.append_cancel_left e
      cases t' with
      | nil => cases e6
      | cons r0 t0 => cases e6; exact ⟨r0, t0, rfl, rfl⟩
    obtain ⟨r0, t0, rfl, rfl⟩ := e6
    have hr0 := ok r0 (by rw [e1]; simp)
    obtain ⟨a, c, i⟩ := r0
    simp_arith []
    refine draw_wp f.hm (by decide) (by decide) fun j M2 hj f2 => ?_
    have fin : ∀ r1 : Rn, kv r1 = kv (a, c, i) → RO ns b r1 → Fr M M2 ∧ ∃ q2 t2 q3 : List Rn, rs = q2 ++ t2 ∧ q.map eR ++ [eR (a, c, i)] = q2.map eR ∧ q'.map eR ++ [eR r1] = q3.map eR ∧ q3.map kv = q2.map kv ∧ ∀ r ∈ q3, RO ns b r := fun r1 k1 o1 =>
      ⟨f.trans f2, q ++ [(a, c, i)], t0, q' ++ [r1], by rw [e1, List.append_assoc]; rfl, by rw [List.map_append]; rfl, by rw [List.map_append]; rfl, by rw [List.map_append, List.map_append, e4, List.map_singleton, List.map_singleton, k1], fun r hr => by
        rcases List.mem_append.mp hr with w | w
        · exact e5 r w
        · rw [List.mem_singleton.mp w]; exact o1⟩
    have hj2 : j = 0 ∨ j = 1 := by omega
    rcases hj2 with rfl | rfl
    · refine wp_of (fIxA_l (n := 0) (d := eR (a, c, i)) rfl) ?_
      exact fin _ rfl hr0
    · refine wp_of (fIxA_l (n := 1) (d := eR (c, a, i)) rfl) ?_
      exact fin _ kv_turn ⟨hr0.ot, hr0.pa, fun z => hr0.ne z.symm, hr0.lo, hr0.hi⟩
  · subst e3
    have e7 : q = rs := by
      have l1 := congrArg List.length e2
      rw [List.length_map, List.length_map, e1, List.length_append] at l1
      have : t' = [] := List.length_eq_zero_iff.mp (by omega)
      rw [e1, this, List.append_nil]
    subst e7
    have lq : q'.length = q.length := by
      have := congrArg List.length e4
      rwa [List.length_map, List.length_map] at this
    simp_arith []
    refine shuffledP_wp (enc := eR) f.hm eR_low q' asL_l (by omega) fun rs2 M2 k hpm f2 hk at_k => ?_
    have hp := f.hm.pos
    have f3 := f.ext.trans (f2.gone (k := k) (by omega) hk)
    simp_arith [Kfz_l at_k]
    generalize M2.set k .gone = M3 at f3
    refine wp_imp (linit_wp (ns := ns) (b := b) f3.hm.low (fun r hr => e5 r (hpm.mem_iff.mp hr)) nn (by rw [hpm.length_eq]; omega) hb0 hb) (fun d M4 ⟨e8, e9⟩ => ?_) fun _ _ z => z.elim
    subst e8 e9
    simp_arith [Kfz_o g0, s0, true_and]
    show wp (settle M.length (.ok (LO (tabG kS rs2)) (M3 ++ [MO.gone]))) _ _
    exact settle_wp h (f3.trans (Ext.app f3.hm fun _ => rfl)) (fun n => by show (lowT n (TT (tabG kS rs2)) && true) = true; rw [lowT_tt]; rfl) fun M' f' => kk rs2 M' (tab_alk ((hpm.map kv).trans (by rw [e4]))) f'
end

section
variable {M M1 M2 N : Mem} {S : Sl} {Q : QQ D} {E : XQ} {P : Po} {d x y w : D} {k n K : Nat} {ds full : List D} {ns : List Str} {rs rs' : List Rn} {r : Rn} {b : Int} {g : GF} {p : BF} {e : EF} {vs : List Nat}
end
end QL
end
section
set_option Elab.async false
set_option linter.all false
set_option maxRecDepth 100000
set_option maxHeartbeats 4000000
set_option autoImplicit false
namespace QL
open PySem PySem.Spec L2
open Classical
local macro_rules | `(tactic| simp_arith [$as,*]) => `(tactic| simp only [wp_ok, wp_rz, sq_nx, sq_rt, sq_bk, sq_ct, sq_rz, sq_ez, swp_nx, swp_rt, swp_bk, swp_ct, swp_rz, wv_some, w_eVar, w_eC, w_aNil, Kc2_ap, Kc1_ap, w_aCons, Kcl_ap, w_eCall, w_eTup, Ktu_0, Ktu_1, Ktu_2, Ktu_3, Ktu_4, w_eLst, Kls_0, Kls_1, Kls_2, Kls_3, Kls_4, Kls_5, Kls_6, Kls_7, Kls_8, Kls_9, w_eLstP, Klp_0, Klp_1, Klp_2, K2c_ap, K2b_ap, w_e2, K3d_t, K3d_f, K3c_ap, K3b_ap, w_e3, KbV_ap, w_bV, Kno_ap, w_bNot, Kan_t, Kan_f, w_bAnd, Kor_t, Kor_f, w_bOr, w_bYes, Ken_ap, w_eNot, Kea_t, Kea_f, w_eAnd, Keo_t, Keo_f, w_eOr, Kei_t, Kei_f, w_eIf, w_kNil, w_kSeq, w_kRet, w_kRetN, Kdr_ap, w_kDrop, Kif_t, Kif_f, w_kIf, w_kBreak, w_kCont, Kas_ap, w_kAsg, w_gN, w_gNil, Kgc_ap, w_gCons, w_gTup2, w_gTup3, wls_some, Ks2_ap, Ks1_ap, w_gSubL, Kpr_ap, w_kPar, Kau_ap, wau_i, w_kAug, wdp_some, Kd3_ap, Kd2_ap, Kd1_ap, w_kDPut, Kg4_ap, wlk_i, Kg2_ap, Kg1_ap, w_kDAug, w_oNone, Kso_ap, w_oSome, Kl3_ap, Kl2_ap, Kl1_ap, w_eSl, Kfl_1, w_eFld, w_eMeth, Kis_l, w_iSeq, Kit_t, w_iTup, w_iRange1, Ken1_l, w_iEnum, Kfo_ap, w_kFor, turn_nx, turn_ct, turn_rt, turn_bk, turn_rz, turn_ez, Ktn_ap, w_eLc, w_eLcP, Klb_t, Klb_f, Klg_ap, pof_nx, pof_rt, List.getElem?_cons_succ, List.getElem?_cons_zero, List.set_cons_succ, List.set_cons_zero, kl_cons, kl_nil, List.map_cons, List.map_nil, List.replicate_succ, List.replicate_zero, List.cons_append, List.nil_append, Bool.not_true, Bool.not_false, fAdd_i, fSub_i, fLt_i, fLe_i, fGt_i, fGe_i, fEqA_i, fEqA_s, fNe_i, fNe_s, fNe_b, fSl_l, bLenA_l, bMax2_i, bMin2_i, bInt_b, bInt_i, fIs0_n, fNot0_n, fIs0_i, fNot0_i, fNot0_p, settle_self, settle_selfX, Kf1_ap, w_kFld, w_eFrz, w_eFrzT, KfT_d, KkT_ap, w_iKeysT, KkF_ap, w_iKeysF, Kmk_ap, w_eMake, w_kRz, Krz_1, pof_rz, pof_ez, ez_ap, tr_nx, tr_rt, Kge3_ap, Kge2_ap, w_eGet2, wgl_s, wgl_n, min_s, max_s, Kq3_ap, Kq2_ap, Kq1_ap, w_eSlP, w_gAll, KitT_ap, w_iItemsT, w_eSortIt, w_iItemsF, KiF_ap, w_eRev, w_eIsC, KiC_o, w_kForG, KoG_ap, w_iEnumG, w_eIsT, w_eOrL, w_ePop, w_eSc2, w_eDnewK, w_eFrzK, $as,*])
/-! XT4: Purses and Lots: entries, equal; alike. -/
section
variable {M N M1 : Mem} {S : Sl} {Q : QQ D} {E : XQ} {x y d : D} {k n : Nat} {xs ks ls ns : List Str} {P T U : Tab} {f g : Fn} {p : PR} {rs ps : List Rn} {r : Rn} {a b : Str}
theorem ints_TT (T : Tab) : intsT (TT T) = some (T.1.map fun p => (kk p, T.2 p)) := by
  unfold TT PTI PT
  generalize T.1 = l
  induction l with
  | nil => rfl
  | cons x r ih =>
    show (intsT (r.map _)).map _ = _
    rw [ih]; rfl
theorem valJ_TT {l : List PR} {v : PR → Int} (h : p ∈ l) : valJ (l.map fun p => (kk p, v p)) (kk p) = some (v p) := by
  induction l with
  | nil => cases h
  | cons x r ih =>
    unfold valJ at ih ⊢
    by_cases e : x = p
    · subst e
      simp [List.find?_cons]
    · have ne : kk x ≠ kk p := fun z => e (kk_inj z)
      rw [List.map_cons, List.find?_cons]
      simp only [decide_eq_false ne]
      exact ih ((List.mem_cons.mp h).resolve_left fun z => e z.symm)
theorem neDT_same (n1 : T.1.Nodup) (n2 : U.1.Nodup) (p1 : ∀ p ∈ T.1, 1 ≤ T.2 p) (p2 : ∀ p ∈ U.1, 1 ≤ U.2 p) (h : ∀ p, T.get p = U.get p) : fNeDT (.dT (TT T)) (.dT (TT U)) M = .ok (.bl false) M := by
  have mm : ∀ p, p ∈ T.1 ↔ p ∈ U.1 := fun p => by
    constructor
    · intro z
      refine get_mem ?_
      rw [← h, get_in z]; have := p1 p z; omega
    · intro z
      refine get_mem ?_
      rw [h, get_in z]; have := p2 p z; omega
  have perm : T.1.Perm U.1 := (List.perm_ext_iff_of_nodup n1 n2).mpr mm
  have e : eqJ (T.1.map fun p => (kk p, T.2 p)) (U.1.map fun p => (kk p, U.2 p)) = true := by
    unfold eqJ hitJ
    rw [Bool.and_eq_true, List.all_eq_true]
    refine ⟨by simp [perm.length_eq], fun z hz => ?_⟩
    obtain ⟨p, hp, rfl⟩ := List.mem_map.mp hz
    have hu := (mm p).mp hp
    have ev : T.2 p = U.2 p := by rw [← get_in hp, ← get_in hu]; exact h p
    show decide (valJ _ (kk p) = some (T.2 p)) = true
    rw [valJ_TT hu, ev]
    exact decide_eq_true rfl
  show (match intsT (TT T), intsT (TT U) with | some xs, some ys => Res.ok (D.bl (!eqJ xs ys)) M | _, _ => .bad) = _
  rw [ints_TT, ints_TT]
  show Res.ok (D.bl (!eqJ _ _)) M = _
  rw [e]
  rfl
theorem eqDT_same (n1 : T.1.Nodup) (n2 : U.1.Nodup) (p1 : ∀ p ∈ T.1, 1 ≤ T.2 p) (p2 : ∀ p ∈ U.1, 1 ≤ U.2 p) (h : ∀ p, T.get p = U.get p) : fEqDT (.dT (TT T)) (.dT (TT U)) M = .ok (.bl true) M := by
  have z := neDT_same (M := M) n1 n2 p1 p2 h
  have z' : Res.ok (D.bl (!eqJ (T.1.map fun p => (kk p, T.2 p)) (U.1.map fun p => (kk p, U.2 p)))) M = .ok (.bl false) M := by
    rw [← z]
    show _ = (match intsT (TT T), intsT (TT U) with | some xs, some ys => Res.ok (D.bl (!eqJ xs ys)) M | _, _ => .bad)
    rw [ints_TT, ints_TT]
  show (match intsT (TT T), intsT (TT U) with | some xs, some ys => Res.ok (D.bl (eqJ xs ys)) M | _, _ => .bad) = _
  rw [ints_TT, ints_TT]
  have z2 : (!eqJ (T.1.map fun p => (kk p, T.2 p)) (U.1.map fun p => (kk p, U.2 p))) = false := by
    injection z' with a b
    injection a
  show Res.ok (D.bl (eqJ _ _)) M = _
  rw [show eqJ (T.1.map fun p => (kk p, T.2 p)) (U.1.map fun p => (kk p, U.2 p)) = true by simpa using z2]
theorem lot_eq_same (n1 : T.1.Nodup) (n2 : U.1.Nodup) (p1 : ∀ p ∈ T.1, 1 ≤ T.2 p) (p2 : ∀ p ∈ U.1, 1 ≤ U.2 p) (h : ∀ p, T.get p = U.get p) : g_Lot___eq__ [LO T, LO U] M = .ok (.bl true) M := by
  refine wp_eq ?_
  unfold g_Lot___eq__
  refine run_wp rfl ?_
  unfold t_Lot___eq__
  simp_arith [eqDT_same (M := M) n1 n2 p1 p2 h, and_self]
theorem init0_wp {M : Mem} (hM : NoP M) : wp (g_Lot___init__ [.ptr M.length, .lst []] (M ++ [MO.obj "Lot" []])) (fun d M' => d = .non ∧ M' = M ++ [MO.obj "Lot" [("table", .dT (TT T0))]]) XN := by
  let M0 : Mem := M ++ [MO.obj "Lot" []]
  have it : isTy "list" "list" = true := by decide
  have nk : ∀ S, eDnewTP S M0 = .ok (.ptr M0.length) (M0 ++ [MO.dT []]) := fun _ => rfl
  show wp (g_Lot___init__ [.ptr M.length, .lst []] M0) _ _
  unfold g_Lot___init__
  refine run_wp rfl ?_
  unfold t_Lot___init__ t_Lot___init___1 t_Lot___init___5
  have gt : decide ((500 : Int) < (([] : List D).length : Int)) = false := by decide
  simp_arith [KisT_at (M := M0) (d := .lst []) (t := "list") (n := "list") rfl, it, gt, nk, enumD]
  refine for_nil trivial ?_
  have go : (M0 ++ [MO.gone])[M.length]? = some (.obj "Lot" []) := by
    show (M ++ [MO.obj "Lot" []] ++ [MO.gone])[M.length]? = _
    rw [List.append_assoc]
    exact g0
  have so : (M0 ++ [MO.gone]).set M.length (.obj "Lot" [("table", .dT [])]) = M ++ [MO.obj "Lot" [("table", .dT [])]] ++ [MO.gone] := by
    show (M ++ [MO.obj "Lot" []] ++ [MO.gone]).set M.length _ = _
    rw [List.append_assoc, List.append_assoc]
    exact s0
  simp_arith [Kfz_T g0, s0, Kf2_at go, so]
  have sl : M0.length = (M ++ [MO.obj "Lot" [("table", .dT [])]]).length := by simp [M0]
  rw [sl, set_fail (NoP.app hM fun n => rfl) rfl (by simp)]
  exact ⟨rfl, rfl⟩
theorem with_eq (hM : NoP M) : g_with_table [.dT (TT T)] M = .ok (LO T) M := by
  refine wp_eq ?_
  unfold g_with_table
  refine run_wp rfl ?_
  unfold t_with_table
  simp_arith []
  refine wp_imp (init0_wp hM) (fun d M1 hh => ?_) fun e M1 hh => hh.elim
  obtain ⟨rfl, rfl⟩ := hh
  refine ⟨rfl, ?_⟩
  simp_arith [Kf2_at1 g0, s0, Kfz_o g0]
  rw [set_fail (d := LO T) (l := [MO.gone]) hM (by show (lowT _ (TT T) && true) = true; rw [lowT_tt]; rfl) (by simp)]
  exact ⟨rfl, rfl⟩
def enT (T : Tab) (p : PR) : D := .tup [.str p.1, .str p.2, .int (T.2 p)]
theorem ixLO {p : PR} (hp : p ∈ T.1) : fIxA (.dT (TT T)) (.tup [.str p.1, .str p.2]) M = .ok (.int (T.2 p)) M := tt_ixF hp
theorem entries_eq (hT : T.1.length ≤ 20000) : g_Lot_entries [LO T] M = .ok (.lst ((srt2 T.1).map (enT T))) M := by
  refine wp_eq ?_
  unfold g_Lot_entries
  refine run_wp rfl ?_
  unfold t_Lot_entries e_Lot_entries_1
  simp_arith [tt_sort]
  refine Klc_map kT2 (enT T) (small' (by rw [srt2_len]; omega)) (fun p hp => ?_) ?_
  · have hp' := srt2_mem hp
    rw [show kT2 p = D.tup [.str p.1, .str p.2] from rfl]
    simp_arith [ixt0, ixt1, ixLO hp', enT, and_self]
  · simp_arith []
    refine ⟨?_, ?_⟩ <;> first | rfl | trivial
theorem sortB_k (h : ks.length < 64) : bSortB [.dK (TI ks f)] M = .ok (.lst ((srt ks).map D.str)) M := by
  show orR (bSortA [.dK (TI ks f)] M) _ = _
  rw [sort_ti h]
  rfl
theorem pentries_eq (hl : ks.length < 64) : g_Purses_entries [PO ks f] M = .ok (.lst (PL (srt ks) f)) M := by
  refine wp_eq ?_
  unfold g_Purses_entries
  refine run_wp rfl ?_
  unfold t_Purses_entries e_Purses_entries_1
  simp_arith [PO, sortB_k hl]
  refine Klc_map D.str (pe f) (small' (by rw [srt_len]; omega)) (fun y hy => ?_) ?_
  · simp_arith [ixTK (f := f) (srt_mem.mp hy), pe, and_self]
  · simp_arith []
    refine ⟨?_, ?_⟩ <;> first | rfl | trivial
def tnS (ks : List Str) (f : Fn) : List (Key × Int) := ks.map fun y => (.inr y, f y)
theorem ints_tn : ∀ ks : List Str, intsK (TI ks f) = some (tnS ks f)
  | [] => rfl
  | y :: ks => by
    show (intsK (TI ks f)).map _ = _
    rw [ints_tn ks]
    rfl
theorem valI_tn {y : Str} (hy : y ∈ ks) : valI (tnS ks f) (.inr y) = some (f y) := by
  unfold valI tnS
  induction ks with
  | nil => cases hy
  | cons a l ih =>
    rw [List.map_cons, List.find?_cons]
    by_cases e : a = y
    · simp [e]
    · have : ¬ (Sum.inr a : Key) = .inr y := fun z => e (Sum.inr.inj z)
      simp only [this, decide_false]
      exact ih ((List.mem_cons.mp hy).resolve_left fun z => e z.symm)
theorem eqT_perm {l1 l2 : List Str} (pm : l1.Perm l2) (hfg : ∀ y ∈ l1, f y = g y) : eqT (tnS l1 f) (tnS l2 g) = true := by
  have len : ((tnS l1 f).length == (tnS l2 g).length) = true := by unfold tnS; rw [List.length_map, List.length_map, pm.length_eq]; exact beq_self_eq_true _
  unfold eqT
  rw [len, Bool.true_and]
  unfold hitT
  rw [List.all_eq_true]
  intro p hp
  obtain ⟨y, hy, rfl⟩ := List.mem_map.mp hp
  refine decide_eq_true ?_
  show valI (tnS l2 g) (.inr y) = some (f y)
  rw [valI_tn (pm.mem_iff.mp hy), hfg y hy]
theorem peq_same {l1 l2 : List Str} (pm : l1.Perm l2) (hfg : ∀ y ∈ l1, f y = g y) : g_Purses___eq__ [PO l1 f, PO l2 g] M = .ok (.bl true) M := by
  have e : fEqDK (.dK (TI l1 f)) (.dK (TI l2 g)) M = .ok (.bl true) M := by
    have h1 : asK M (.dK (TI l1 f)) = some (TI l1 f) := rfl
    have h2 : asK M (.dK (TI l2 g)) = some (TI l2 g) := rfl
    unfold fEqDK
    simp only [h1, h2, ints_tn, eqT_perm pm hfg]
  refine wp_eq ?_
  unfold g_Purses___eq__
  refine run_wp rfl ?_
  unfold t_Purses___eq__
  simp_arith [w_eIsC, show ∀ (Q : QQ D) M, KiC "Purses" Q (PO l2 g) M = Q (.bl true) M from fun Q M => KiC_o, e, and_self]
theorem eqZ_str {s : Str} : fEqZ (.str s) (.str s) M = .ok (.bl true) M := by
  unfold fEqZ or2 fEqN
  by_cases h : okD 64 (derN M 4 (.str s)) = true ∧ okD 64 (derN M 4 (.str s)) = true
  · rw [if_pos h, PySem.SeqAt.eqv_refl _ (okD_lay h.1).1]; rfl
  · rw [if_neg h]
    show fEqA _ _ _ = _
    rw [fEqA_s, decide_eq_true rfl]
theorem alike_eq (h1 : derN M 4 x = d) (h2 : derN M 4 y = d) (ok : okD 60 d = true) (sh : shD d = true) (wt : wtD d ≤ 16000000) (sq : isSeqD d = true) : g__law_alike [x, y] M = .ok (.bl true) M := by
  have ok64 : okD 64 d = true := okD_up ok (by omega)
  have e1 : fEqZ x y M = .ok (.bl true) M := by
    unfold fEqZ or2 fEqN
    rw [h1, h2, if_pos ⟨ok64, ok64⟩, PySem.SeqAt.eqv_refl _ (okD_lay ok64).1]
    rfl
  have r : ∀ z, derN M 4 z = d → bReprZ [z] M = .ok (.str (toPy d).shown) M := fun z hz => by
    have : bReprN [z] M = .ok (.str (toPy d).shown) M := by
      show (if okD 60 (derN M 4 z) = true ∧ shD (derN M 4 z) = true ∧ wtD (derN M 4 z) ≤ sizeLine ∧ isSeqD (derN M 4 z) = true then Res.ok (D.str (toPy (derN M 4 z)).shown) M else .bad) = _
      rw [hz, if_pos ⟨ok, sh, by rw [sizeLine_eq]; omega, sq⟩]
    unfold bReprZ orC
    rw [this]; rfl
  refine wp_eq ?_
  unfold g__law_alike
  refine run_wp rfl ?_
  unfold t__law_alike
  simp_arith [e1, r x h1, r y h2, eqZ_str, and_self]
end
end QL
end
section
set_option Elab.async false
set_option linter.all false
set_option maxRecDepth 100000
set_option maxHeartbeats 4000000
set_option autoImplicit false
namespace QL
open PySem PySem.Spec L2
open Classical
local macro_rules | `(tactic| simp_arith [$as,*]) => `(tactic| simp only [wp_ok, wp_rz, sq_nx, sq_rt, sq_bk, sq_ct, sq_rz, sq_ez, swp_nx, swp_rt, swp_bk, swp_ct, swp_rz, wv_some, w_eVar, w_eC, w_aNil, Kc2_ap, Kc1_ap, w_aCons, Kcl_ap, w_eCall, w_eTup, Ktu_0, Ktu_1, Ktu_2, Ktu_3, Ktu_4, w_eLst, Kls_0, Kls_1, Kls_2, Kls_3, Kls_4, Kls_5, Kls_6, Kls_7, Kls_8, Kls_9, w_eLstP, Klp_0, Klp_1, Klp_2, K2c_ap, K2b_ap, w_e2, K3d_t, K3d_f, K3c_ap, K3b_ap, w_e3, KbV_ap, w_bV, Kno_ap, w_bNot, Kan_t, Kan_f, w_bAnd, Kor_t, Kor_f, w_bOr, w_bYes, Ken_ap, w_eNot, Kea_t, Kea_f, w_eAnd, Keo_t, Keo_f, w_eOr, Kei_t, Kei_f, w_eIf, w_kNil, w_kSeq, w_kRet, w_kRetN, Kdr_ap, w_kDrop, Kif_t, Kif_f, w_kIf, w_kBreak, w_kCont, Kas_ap, w_kAsg, w_gN, w_gNil, Kgc_ap, w_gCons, w_gTup2, w_gTup3, wls_some, Ks2_ap, Ks1_ap, w_gSubL, Kpr_ap, w_kPar, Kau_ap, wau_i, w_kAug, wdp_some, Kd3_ap, Kd2_ap, Kd1_ap, w_kDPut, Kg4_ap, wlk_i, Kg2_ap, Kg1_ap, w_kDAug, w_oNone, Kso_ap, w_oSome, Kl3_ap, Kl2_ap, Kl1_ap, w_eSl, Kfl_1, w_eFld, w_eMeth, Kis_l, w_iSeq, Kit_t, w_iTup, w_iRange1, Ken1_l, w_iEnum, Kfo_ap, w_kFor, turn_nx, turn_ct, turn_rt, turn_bk, turn_rz, turn_ez, Ktn_ap, w_eLc, w_eLcP, Klb_t, Klb_f, Klg_ap, pof_nx, pof_rt, List.getElem?_cons_succ, List.getElem?_cons_zero, List.set_cons_succ, List.set_cons_zero, kl_cons, kl_nil, List.map_cons, List.map_nil, List.replicate_succ, List.replicate_zero, List.cons_append, List.nil_append, Bool.not_true, Bool.not_false, fAdd_i, fSub_i, fLt_i, fLe_i, fGt_i, fGe_i, fEqA_i, fEqA_s, fNe_i, fNe_s, fNe_b, fSl_l, bLenA_l, bMax2_i, bMin2_i, bInt_b, bInt_i, fIs0_n, fNot0_n, fIs0_i, fNot0_i, fNot0_p, settle_self, settle_selfX, Kf1_ap, w_kFld, w_eFrz, w_eFrzT, KfT_d, KkT_ap, w_iKeysT, KkF_ap, w_iKeysF, Kmk_ap, w_eMake, w_kRz, Krz_1, pof_rz, pof_ez, ez_ap, tr_nx, tr_rt, Kge3_ap, Kge2_ap, w_eGet2, wgl_s, wgl_n, min_s, max_s, Kq3_ap, Kq2_ap, Kq1_ap, w_eSlP, w_gAll, KitT_ap, w_iItemsT, w_eSortIt, w_iItemsF, KiF_ap, w_eRev, w_eIsC, KiC_o, w_kForG, KoG_ap, w_iEnumG, w_eIsT, w_eOrL, w_ePop, w_eSc2, w_eDnewK, w_eFrzK, $as,*])
/-! XT1: numbers as words. -/
open TL (numL tl_num numL_lt numL_step numL_ne numL_digits numL_len int_num tl split_join)
section
variable {M N : Mem} {S : Sl} {Q : QQ D} {E : XQ} {x y d : D} {n c : Nat}
abbrev nt (n : Nat) : Str := Str.ofString (toString ((n : Nat) : Int))
theorem nt_tl (n : Nat) : (nt n).cps.toList = numL n := tl_num n
theorem nt_len (n : Nat) : (nt n).length = (numL n).length := by rw [len_cps, nt_tl]
theorem numL_head : ∀ n : Nat, 0 < n → ∃ c r, numL n = c :: r ∧ c ≠ 48 := by
  intro n
  induction n using Nat.strongRecOn with
  | _ n ih =>
    intro h0
    by_cases h : n < 10
    · exact ⟨48 + n, [], numL_lt h, by omega⟩
    · obtain ⟨c, r, e, hc⟩ := ih (n / 10) (by omega) (by omega)
      exact ⟨c, r ++ [48 + n % 10], by rw [numL_step (by omega), e]; rfl, hc⟩
theorem in_digit (h1 : 48 ≤ c) (h2 : c < 58) : fInA (.str ⟨#[c]⟩) (.str "0123456789") M = .ok (.bl true) M := by
  have key : ∀ n < 10, (Builtin.Str.occurrences ("0123456789" : Str) ⟨#[48 + n]⟩ 0 ("0123456789" : Str).length 1).isEmpty = false := by decide +kernel
  have k := key (c - 48) (by omega)
  rw [show 48 + (c - 48) = c by omega] at k
  have e : fInG false (.str ⟨#[c]⟩) (.str "0123456789") M = .ok (.bl true) M := by
    show Res.ok (D.bl (false ^^ !(Builtin.Str.occurrences _ _ 0 _ 1).isEmpty)) M = _
    rw [k]
    rfl
  have e0 : fIn (.str ⟨#[c]⟩) (.str "0123456789") M = .bad := rfl
  unfold fInA or2
  rw [e0, e]
  rfl
theorem str_ne {a b : Str} (h : a.cps.toList ≠ b.cps.toList) : a ≠ b := fun e => h (by rw [e])
theorem ix_head {w : Str} {c : Nat} {r : List Nat} (h : w.cps.toList = c :: r) (hl : w.length ≤ 1000) : fIxA (.str w) (.int 0) M = .ok (.str ⟨#[c]⟩) M := by
  have e : fIx (.str w) (.int 0) M = .ok (.str ⟨#[c]⟩) M := by
    show (if w.length ≤ sizeLine then (match atI w.cps.toList 0 with | some c => Res.ok (D.str ⟨#[c]⟩) M | none => .bad) else .bad) = _
    have a : atI (c :: r) 0 = some c := by
      unfold atI ixN
      simp
    rw [if_pos (by rw [sizeLine_eq]; omega), h, a]
  have e0 : fDIx (.str w) (.int 0) M = .bad := rfl
  unfold fIxA or2
  rw [e0, e]
  rfl
theorem len_str {w : Str} (h : w.length ≤ 10000000) : bLenA [.str w] M = .ok (.int w.length) M := by
  have e : bLen [.str w] M = .ok (.int w.length) M := if_pos (by rw [sizeLine_eq]; omega)
  unfold bLenA orC
  rw [e]
  rfl
theorem read_number_eq (h : n < 10 ^ 40) : g_read_number [.str (nt n)] M = .ok (.int (n : Nat)) M := by
  have tl0 := nt_tl n
  have len := nt_len n
  have l40 : (numL n).length ≤ 40 := numL_len (by decide) h
  have pos : 0 < (numL n).length := List.length_pos_iff.mpr (numL_ne n)
  have ne : nt n ≠ "" := str_ne (by rw [tl0]; exact numL_ne n)
  have q1 : fEqA (.str (nt n)) (.str "") M = .ok (.bl false) M := by rw [fEqA_s, decide_eq_false ne]
  have q2 : bLenA [.str (nt n)] M = .ok (.int (nt n).length) M := len_str (by omega)
  have q3 : fGt (.int (nt n).length) (.int 40) M = .ok (.bl false) M := by rw [fGt_i, decide_eq_false (by omega)]
  have q4 : e_read_number_1 [some (.str (nt n)), none] M = .ok (.lst ((numL n).map fun c => D.bl ((fun _ => true) c))) M := by
    unfold e_read_number_1
    rw [eLc_ap]
    show lcR _ _ _ _ _ (Res.ok ⟨signsD (nt n), none⟩ M) = _
    rw [lcR_ok]
    unfold signsD
    rw [tl0, lcM (gd := Its.gd ⟨(numL n).map fun c => D.str ⟨#[c]⟩, none⟩) trivial (fun c => D.str ⟨#[c]⟩) (fun c => D.bl ((fun _ => true) c)) (numL n) [] (by rw [sizeLine_eq, List.length_nil]; omega) fun c hx => ⟨[some (.str (nt n)), some (.str ⟨#[c]⟩)], rfl, rfl, by
      have r := numL_digits n c hx
      simp only [e2_ap, eVar_ap, List.getElem?_cons_succ, List.getElem?_cons_zero, vR_some, s2_ok, eC_ap, s3_ok]
      exact in_digit (by omega) (by omega)⟩]
    rfl
  have q5 : bAll [.lst ((numL n).map fun c => D.bl ((fun _ => true) c))] M = .ok (.bl true) M := by
    rw [all_map (f := fun _ => true)]
    congr 2
    exact List.all_eq_true.mpr fun _ _ => rfl
  have q6 : bIntX [.str (nt n)] M = .ok (.int (n : Nat)) M := by
    have e : bIntS [.str (nt n)] M = .ok (.int (n : Nat)) M := by
      show (if (nt n).length ≤ 640 then (match PySem.intText? (nt n) with | some n => Res.ok (D.int n) M | none => .bad) else .bad) = _
      rw [if_pos (by omega), int_num (by omega)]
    have e0 : bInt [.str (nt n)] M = .bad := rfl
    unfold bIntX orC
    rw [e0, e]
    rfl
  refine wp_eq ?_
  unfold g_read_number
  refine run_wp rfl ?_
  unfold t_read_number t_read_number_2
  by_cases h0 : n = 0
  · have q7 : fEqA (.str (nt n)) (.str "0") M = .ok (.bl true) M := by
      rw [fEqA_s, decide_eq_true (by rw [h0]; decide +kernel)]
    simp_arith [q1, q2, q3, q4, q5, q6, q7, and_self]
  · obtain ⟨c, r, e, hc⟩ := numL_head n (by omega)
    have q7 : fEqA (.str (nt n)) (.str "0") M = .ok (.bl false) M := by
      rw [fEqA_s, decide_eq_false (str_ne (by
        rw [tl0, e]
        intro z
        have z' : c :: r = [48] := z
        exact hc (List.cons.inj z').1))]
    have q8 : fIxA (.str (nt n)) (.int 0) M = .ok (.str ⟨#[c]⟩) M := ix_head (tl0.trans e) (by omega)
    have q9 : fNe (.str ⟨#[c]⟩) (.str "0") M = .ok (.bl true) M := by
      rw [fNe_s, decide_eq_false (str_ne fun z => by
        have z' : [c] = [48] := z
        exact hc (List.cons.inj z').1)]
      rfl
    simp_arith [q1, q2, q3, q4, q5, q6, q7, q8, q9, and_self]
end
end QL
end
section
set_option Elab.async false
set_option linter.all false
set_option maxRecDepth 100000
set_option maxHeartbeats 4000000
set_option autoImplicit false
namespace QL
open PySem PySem.Spec L2
open Classical
local macro_rules | `(tactic| simp_arith [$as,*]) => `(tactic| simp only [wp_ok, wp_rz, sq_nx, sq_rt, sq_bk, sq_ct, sq_rz, sq_ez, swp_nx, swp_rt, swp_bk, swp_ct, swp_rz, wv_some, w_eVar, w_eC, w_aNil, Kc2_ap, Kc1_ap, w_aCons, Kcl_ap, w_eCall, w_eTup, Ktu_0, Ktu_1, Ktu_2, Ktu_3, Ktu_4, w_eLst, Kls_0, Kls_1, Kls_2, Kls_3, Kls_4, Kls_5, Kls_6, Kls_7, Kls_8, Kls_9, w_eLstP, Klp_0, Klp_1, Klp_2, K2c_ap, K2b_ap, w_e2, K3d_t, K3d_f, K3c_ap, K3b_ap, w_e3, KbV_ap, w_bV, Kno_ap, w_bNot, Kan_t, Kan_f, w_bAnd, Kor_t, Kor_f, w_bOr, w_bYes, Ken_ap, w_eNot, Kea_t, Kea_f, w_eAnd, Keo_t, Keo_f, w_eOr, Kei_t, Kei_f, w_eIf, w_kNil, w_kSeq, w_kRet, w_kRetN, Kdr_ap, w_kDrop, Kif_t, Kif_f, w_kIf, w_kBreak, w_kCont, Kas_ap, w_kAsg, w_gN, w_gNil, Kgc_ap, w_gCons, w_gTup2, w_gTup3, wls_some, Ks2_ap, Ks1_ap, w_gSubL, Kpr_ap, w_kPar, Kau_ap, wau_i, w_kAug, wdp_some, Kd3_ap, Kd2_ap, Kd1_ap, w_kDPut, Kg4_ap, wlk_i, Kg2_ap, Kg1_ap, w_kDAug, w_oNone, Kso_ap, w_oSome, Kl3_ap, Kl2_ap, Kl1_ap, w_eSl, Kfl_1, w_eFld, w_eMeth, Kis_l, w_iSeq, Kit_t, w_iTup, w_iRange1, Ken1_l, w_iEnum, Kfo_ap, w_kFor, turn_nx, turn_ct, turn_rt, turn_bk, turn_rz, turn_ez, Ktn_ap, w_eLc, w_eLcP, Klb_t, Klb_f, Klg_ap, pof_nx, pof_rt, List.getElem?_cons_succ, List.getElem?_cons_zero, List.set_cons_succ, List.set_cons_zero, kl_cons, kl_nil, List.map_cons, List.map_nil, List.replicate_succ, List.replicate_zero, List.cons_append, List.nil_append, Bool.not_true, Bool.not_false, fAdd_i, fSub_i, fLt_i, fLe_i, fGt_i, fGe_i, fEqA_i, fEqA_s, fNe_i, fNe_s, fNe_b, fSl_l, bLenA_l, bMax2_i, bMin2_i, bInt_b, bInt_i, fIs0_n, fNot0_n, fIs0_i, fNot0_i, fNot0_p, settle_self, settle_selfX, Kf1_ap, w_kFld, w_eFrz, w_eFrzT, KfT_d, KkT_ap, w_iKeysT, KkF_ap, w_iKeysF, Kmk_ap, w_eMake, w_kRz, Krz_1, pof_rz, pof_ez, ez_ap, tr_nx, tr_rt, Kge3_ap, Kge2_ap, w_eGet2, wgl_s, wgl_n, min_s, max_s, Kq3_ap, Kq2_ap, Kq1_ap, w_eSlP, w_gAll, KitT_ap, w_iItemsT, w_eSortIt, w_iItemsF, KiF_ap, w_eRev, w_eIsC, KiC_o, w_kForG, KoG_ap, w_iEnumG, w_eIsT, w_eOrL, w_ePop, w_eSc2, w_eDnewK, w_eFrzK, $as,*])
/-! XT2: rows of words and a number; their text. -/
open TL (numL tl_num numL_lt numL_step numL_ne numL_digits numL_len numL_free int_num tl split_join joinL tl_join join_eq)
abbrev Rw := List Str × Nat
def rwD (r : Rw) : D := .tup (r.1.map D.str ++ [.int (r.2 : Nat)])
def rwP (r : Rw) : List Str := r.1 ++ [nt r.2]
def rwT (r : Rw) : Str := Txt.join " " (rwP r)
def txT (rs : List Rw) : Str := Txt.join "\n" (rs.map rwT)
structure RwOk (w : Nat) (r : Rw) : Prop where
  len : r.1.length + 1 = w
  nm : ∀ y ∈ r.1, NmOk y
  hi : r.2 < 10 ^ 31
section
variable {M N : Mem} {S : Sl} {Q : QQ D} {E : XQ} {x y d : D} {n c w : Nat} {r : Rw} {rs : List Rw}
theorem joinL_mem {c : Nat} {S : List Nat} : ∀ {ps : List (List Nat)}, c ∈ joinL S ps → c ∈ S ∨ ∃ p ∈ ps, c ∈ p
  | [], h => nomatch h
  | [p], h => .inr ⟨p, by simp, h⟩
  | p :: q :: r, h => by
    have h : c ∈ p ++ (S ++ joinL S (q :: r)) := h
    rcases List.mem_append.mp h with h | h
    · exact .inr ⟨p, by simp, h⟩
    · rcases List.mem_append.mp h with h | h
      · exact .inl h
      · exact (joinL_mem h).imp id fun ⟨z, hz, hc⟩ => ⟨z, List.mem_cons_of_mem _ hz, hc⟩
theorem joinL_ne {S p : List Nat} {ps : List (List Nat)} (h : p ≠ []) : joinL S (p :: ps) ≠ [] := by
  cases ps with
  | nil => exact h
  | cons q r =>
    show p ++ _ ≠ []
    exact fun z => h (List.append_eq_nil_iff.mp z).1
theorem joinL_len {S : List Nat} {b : Nat} : ∀ {ps : List (List Nat)}, (∀ p ∈ ps, p.length ≤ b) → (joinL S ps).length ≤ ps.length * (b + S.length)
  | [], _ => Nat.zero_le _
  | [p], h => by
    have := h p (by simp)
    show p.length ≤ 1 * (b + S.length)
    omega
  | p :: q :: r, h => by
    have i := joinL_len (S := S) (ps := q :: r) fun z hz => h z (List.mem_cons_of_mem _ hz)
    have := h p (by simp)
    show (p ++ (S ++ joinL S (q :: r))).length ≤ ((q :: r).length + 1) * (b + S.length)
    rw [List.length_append, List.length_append, Nat.succ_mul]
    omega
theorem join_tl (y : Str) (ps : List Str) : (Txt.join y ps).cps.toList = joinL y.cps.toList (ps.map fun p => p.cps.toList) := by
  rw [join_eq]
  exact tl_join y ps
theorem nm_sign {z : Str} (h : NmOk z) (hc : c ∈ z.cps.toList) : 97 ≤ c ∧ c < 123 := h.2.2 c hc
theorem nm_ne {z : Str} (h : NmOk z) : z.cps.toList ≠ [] := fun e => by
  have := h.1
  rw [len_cps, e] at this
  exact absurd this (by decide)
theorem RwOk.word (h : RwOk w r) {p : Str} (hp : p ∈ rwP r) : p.cps.toList ≠ [] ∧ p.cps.toList.length ≤ 31 ∧ ∀ c ∈ p.cps.toList, 48 ≤ c := by
  rcases List.mem_append.mp hp with hp | hp
  · have nm := h.nm p hp
    have := nm.2.1
    exact ⟨nm_ne nm, by rw [← len_cps]; omega, fun c hc => by have := nm_sign nm hc; omega⟩
  · rw [List.mem_singleton.mp hp, nt_tl]
    exact ⟨numL_ne _, numL_len (by decide) h.hi, fun c hc => (numL_digits _ c hc).1⟩
theorem RwOk.words (h : RwOk w r) : Txt.split (rwT r) " " = rwP r :=
  split_join (y := " ") (s := 32) (S := []) rfl (by decide +kernel) (by unfold rwP; simp) fun p hp z => by
    have := (h.word hp).2.2 32 z
    omega
theorem rwP_len (h : RwOk w r) : (rwP r).length = w := by
  unfold rwP
  rw [List.length_append, List.length_singleton]
  exact h.len
theorem RwOk.sign (h : RwOk w r) (hc : c ∈ (rwT r).cps.toList) : 32 ≤ c := by
  unfold rwT at hc
  rw [join_tl] at hc
  rcases joinL_mem hc with z | ⟨p, hp, z⟩
  · have z' : c ∈ [32] := z
    rw [List.mem_singleton.mp z']
    decide
  · obtain ⟨q, hq, rfl⟩ := List.mem_map.mp hp
    have := (h.word hq).2.2 c z
    omega
theorem RwOk.ne (h : RwOk w r) : (rwT r).cps.toList ≠ [] := by
  unfold rwT
  rw [join_tl]
  cases e : rwP r with
  | nil => unfold rwP at e; simp at e
  | cons p ps => exact joinL_ne (h.word (by rw [e]; simp)).1
theorem RwOk.tlen (h : RwOk w r) (w3 : w ≤ 3) : (rwT r).length ≤ 96 := by
  have l := joinL_len (S := (" " : Str).cps.toList) (b := 31) (ps := (rwP r).map fun p => p.cps.toList) fun p hp => by
    obtain ⟨q, hq, rfl⟩ := List.mem_map.mp hp
    exact (h.word hq).2.1
  rw [← join_tl, List.length_map, rwP_len h] at l
  have e : (" " : Str).cps.toList.length = 1 := by decide +kernel
  rw [e] at l
  rw [len_cps]
  have l' : (rwT r).cps.toList.length ≤ w * 32 := l
  omega
theorem txT_lines (h : ∀ r ∈ rs, RwOk w r) (ne : rs ≠ []) : Txt.split (txT rs) "\n" = rs.map rwT :=
  split_join (y := "\n") (s := 10) (S := []) rfl (by decide +kernel) (by simpa using ne) fun p hp z => by
    obtain ⟨r, hr, rfl⟩ := List.mem_map.mp hp
    have := (h r hr).sign (c := 10) z
    omega
theorem txT_nil : txT [] = "" := by
  have e : (txT []).cps.toList = [] := by unfold txT; rw [join_tl]; rfl
  exact Classical.byContradiction fun z => z (by
    have : (txT []).cps = #[] := by simpa using e
    show txT [] = ⟨#[]⟩
    cases h : txT [] with
    | mk c => rw [h] at this; exact congrArg Str.mk this)
theorem txT_ne (h : ∀ r ∈ rs, RwOk w r) (ne : rs ≠ []) : txT rs ≠ "" := str_ne (by
  unfold txT
  rw [join_tl]
  cases rs with
  | nil => exact absurd rfl ne
  | cons r t => exact joinL_ne (h r (by simp)).ne)
theorem txT_len (h : ∀ r ∈ rs, RwOk w r) (w3 : w ≤ 3) (hl : rs.length ≤ 2000) : (txT rs).length ≤ 200000 := by
  have l := joinL_len (S := ("\n" : Str).cps.toList) (b := 96) (ps := (rs.map rwT).map fun p => p.cps.toList) fun p hp => by
    obtain ⟨q, hq, rfl⟩ := List.mem_map.mp hp
    obtain ⟨r, hr, rfl⟩ := List.mem_map.mp hq
    rw [← len_cps]
    exact (h r hr).tlen w3
  rw [← join_tl, List.length_map, List.length_map] at l
  have e : ("\n" : Str).cps.toList.length = 1 := by decide +kernel
  rw [e] at l
  rw [len_cps]
  have l' : (txT rs).cps.toList.length ≤ rs.length * 97 := l
  omega
end
end QL
end
section
set_option Elab.async false
set_option linter.all false
set_option maxRecDepth 100000
set_option maxHeartbeats 4000000
set_option autoImplicit false
namespace QL
open PySem PySem.Spec L2
open Classical
local macro_rules | `(tactic| simp_arith [$as,*]) => `(tactic| simp only [wp_ok, wp_rz, sq_nx, sq_rt, sq_bk, sq_ct, sq_rz, sq_ez, swp_nx, swp_rt, swp_bk, swp_ct, swp_rz, wv_some, w_eVar, w_eC, w_aNil, Kc2_ap, Kc1_ap, w_aCons, Kcl_ap, w_eCall, w_eTup, Ktu_0, Ktu_1, Ktu_2, Ktu_3, Ktu_4, w_eLst, Kls_0, Kls_1, Kls_2, Kls_3, Kls_4, Kls_5, Kls_6, Kls_7, Kls_8, Kls_9, w_eLstP, Klp_0, Klp_1, Klp_2, K2c_ap, K2b_ap, w_e2, K3d_t, K3d_f, K3c_ap, K3b_ap, w_e3, KbV_ap, w_bV, Kno_ap, w_bNot, Kan_t, Kan_f, w_bAnd, Kor_t, Kor_f, w_bOr, w_bYes, Ken_ap, w_eNot, Kea_t, Kea_f, w_eAnd, Keo_t, Keo_f, w_eOr, Kei_t, Kei_f, w_eIf, w_kNil, w_kSeq, w_kRet, w_kRetN, Kdr_ap, w_kDrop, Kif_t, Kif_f, w_kIf, w_kBreak, w_kCont, Kas_ap, w_kAsg, w_gN, w_gNil, Kgc_ap, w_gCons, w_gTup2, w_gTup3, wls_some, Ks2_ap, Ks1_ap, w_gSubL, Kpr_ap, w_kPar, Kau_ap, wau_i, w_kAug, wdp_some, Kd3_ap, Kd2_ap, Kd1_ap, w_kDPut, Kg4_ap, wlk_i, Kg2_ap, Kg1_ap, w_kDAug, w_oNone, Kso_ap, w_oSome, Kl3_ap, Kl2_ap, Kl1_ap, w_eSl, Kfl_1, w_eFld, w_eMeth, Kis_l, w_iSeq, Kit_t, w_iTup, w_iRange1, Ken1_l, w_iEnum, Kfo_ap, w_kFor, turn_nx, turn_ct, turn_rt, turn_bk, turn_rz, turn_ez, Ktn_ap, w_eLc, w_eLcP, Klb_t, Klb_f, Klg_ap, pof_nx, pof_rt, List.getElem?_cons_succ, List.getElem?_cons_zero, List.set_cons_succ, List.set_cons_zero, kl_cons, kl_nil, List.map_cons, List.map_nil, List.replicate_succ, List.replicate_zero, List.cons_append, List.nil_append, Bool.not_true, Bool.not_false, fAdd_i, fSub_i, fLt_i, fLe_i, fGt_i, fGe_i, fEqA_i, fEqA_s, fNe_i, fNe_s, fNe_b, fSl_l, bLenA_l, bMax2_i, bMin2_i, bInt_b, bInt_i, fIs0_n, fNot0_n, fIs0_i, fNot0_i, fNot0_p, settle_self, settle_selfX, Kf1_ap, w_kFld, w_eFrz, w_eFrzT, KfT_d, KkT_ap, w_iKeysT, KkF_ap, w_iKeysF, Kmk_ap, w_eMake, w_kRz, Krz_1, pof_rz, pof_ez, ez_ap, tr_nx, tr_rt, Kge3_ap, Kge2_ap, w_eGet2, wgl_s, wgl_n, min_s, max_s, Kq3_ap, Kq2_ap, Kq1_ap, w_eSlP, w_gAll, KitT_ap, w_iItemsT, w_eSortIt, w_iItemsF, KiF_ap, w_eRev, w_eIsC, KiC_o, w_kForG, KoG_ap, w_iEnumG, w_eIsT, w_eOrL, w_ePop, w_eSc2, w_eDnewK, w_eFrzK, $as,*])
/-! XT3: rows shown and read. -/
open TL (numL tl_num numL_lt numL_step numL_ne numL_digits numL_len numL_free int_num tl split_join joinL tl_join join_eq)
section
variable {M N : Mem} {S : Sl} {Q : QQ D} {E : XQ} {x y d : D} {n c w : Nat} {r : Rw} {rs : List Rw} {e : EF} {sep : Str}
theorem settle_ptr' {n k : Nat} (h : n ≤ k) : settle n (.ok (.ptr k) M) = .ok (.ptr k) M := by
  show (if M.length ≤ n then _ else if lowD n (.ptr k) = true ∧ _ then _ else _) = _
  split
  · rfl
  · rw [if_neg fun z => by
      have : decide (k < n) = true := z.1
      have := of_decide_eq_true this
      omega]
theorem strs_of : ∀ ys : List Str, strsOf (ys.map D.str) = some ys
  | [] => rfl
  | y :: ys => by
    show (strsOf (ys.map D.str)).map (y :: ·) = _
    rw [strs_of ys]
    rfl
theorem join_wp (h : wp (e S M) (fun y M2 => ∃ ys : List Str, y = .lst (ys.map D.str) ∧ (ys.map (·.length)).sum + ys.length * sep.length ≤ 16777216 ∧ Q (.str (Txt.join sep ys)) M2) E) : wp (eJoin (eC (.str sep)) e S M) Q E := by
  show wp ((e S M).bind _) Q E
  rw [wp_bind]
  refine wp_imp h (fun y M2 ⟨ys, h1, h2, h3⟩ => ?_) fun _ _ h => h
  subst h1
  have e1 : seqOf M2 (.lst (ys.map D.str)) = some (ys.map D.str) := rfl
  simp only [e1, strs_of]
  rw [if_pos h2]
  exact h3
theorem split_wp (h : wp (e S M) (fun y M2 => ∃ z : Str, y = .str z ∧ (sep.length == 0) = false ∧ z.length ≤ 10000000 ∧ Q (.lst ((Txt.split z sep).map D.str)) M2) E) : wp (eSplit e (eC (.str sep)) S M) Q E := by
  unfold eSplit
  rw [wp_bind]
  refine wp_imp h (fun y M2 ⟨z, h1, h2, h3, h4⟩ => ?_) fun _ _ h => h
  subst h1
  show wp (if _ then _ else _) Q E
  rw [if_pos ⟨h2, by rw [sizeLine_eq]; omega⟩]
  exact h4
theorem len_sum {b : Nat} : ∀ {ys : List Str}, (∀ y ∈ ys, y.length ≤ b) → (ys.map (·.length)).sum ≤ ys.length * b
  | [], _ => Nat.zero_le _
  | y :: ys, h => by
    have i := len_sum (ys := ys) fun z hz => h z (List.mem_cons_of_mem _ hz)
    have := h y (by simp)
    rw [List.map_cons, List.sum_cons, List.length_cons, Nat.succ_mul]
    omega
/-- a row's parts, and as words -/
def rwQ (r : Rw) : List (D × Str) := r.1.map (fun y => (D.str y, y)) ++ [(.int (r.2 : Nat), nt r.2)]
theorem rwQ_1 (r : Rw) : (rwQ r).map (·.1) = r.1.map D.str ++ [.int (r.2 : Nat)] := by
  unfold rwQ
  rw [List.map_append, List.map_map]
  rfl
theorem rwQ_2 (r : Rw) : (rwQ r).map (fun p => D.str p.2) = (rwP r).map D.str := by
  unfold rwQ rwP
  rw [List.map_append, List.map_append, List.map_map]
  rfl
theorem str_part (h : RwOk w r) {p : D × Str} (hp : p ∈ rwQ r) : bStrX [p.1] M = .ok (.str p.2) M := by
  rcases List.mem_append.mp hp with hp | hp
  · obtain ⟨y, _, rfl⟩ := List.mem_map.mp hp
    rfl
  · rw [List.mem_singleton.mp hp]
    have e1 : bStrI [.int (r.2 : Nat)] M = .ok (.str (nt r.2)) M := if_pos (by
      have h1 := h.hi
      have : ((r.2 : Nat) : Int).natAbs = r.2 := rfl
      rw [this]
      have := Nat.log2_lt (n := r.2) (k := 1920)
      by_cases z : r.2 = 0
      · rw [z]; decide
      · exact (Nat.log2_lt z).mpr (Nat.lt_trans h1 (by decide)))
    show orR (bStrI [.int (r.2 : Nat)] M) _ = _
    rw [e1]
    rfl
theorem rwP_sum (h : RwOk w r) : ((rwP r).map (·.length)).sum ≤ w * 31 := by
  have l := len_sum (ys := rwP r) (b := 31) fun y hy => by rw [len_cps]; exact (h.word hy).2.1
  rw [rwP_len h] at l
  exact l
theorem show_eq (hx : asL M x = some (rs.map rwD)) (ok : ∀ r ∈ rs, RwOk w r) (w3 : w ≤ 3) (hl : rs.length ≤ 2000) : g_show_rows [x] M = .ok (.str (txT rs)) M := by
  have l1 : (" " : Str).length = 1 := by decide +kernel
  have l2 : ("\n" : Str).length = 1 := by decide +kernel
  refine wp_eq ?_
  unfold g_show_rows
  refine run_wp rfl ?_
  unfold t_show_rows
  simp_arith []
  refine join_wp ?_
  unfold e_show_rows_2
  simp_arith [Kis_at hx]
  refine Klc_mapI rwD (fun r => .str (rwT r)) (xs := rs) itsOf_ds (itsOf_gd hx) (small' (by omega)) (fun r hr => ?_) ?_
  · have o := ok r hr
    have pl := rwP_len o
    have ps := rwP_sum o
    have ql : (rwQ r).length = w := by
      have := congrArg List.length (rwQ_2 r)
      rw [List.length_map, List.length_map] at this
      omega
    simp_arith []
    refine join_wp ?_
    unfold e_show_rows_1
    simp_arith [rwD, w_iTup, Kit_t]
    rw [← rwQ_1]
    refine Klc_map (fun p : D × Str => p.1) (fun p => D.str p.2) (xs := rwQ r) (small' (by omega)) (fun p hp => ?_) ?_
    · simp_arith [str_part (M := M) o hp, and_self]
    · rw [rwQ_2]
      refine ⟨rwP r, rfl, ?_, ?_⟩
      · rw [l1, pl]; omega
      · exact ⟨by first | rfl | trivial, by first | rfl | trivial⟩
  · have ls := len_sum (ys := rs.map rwT) (b := 96) fun y hy => by
      obtain ⟨r, hr, rfl⟩ := List.mem_map.mp hy
      exact (ok r hr).tlen w3
    rw [List.length_map] at ls
    refine ⟨rs.map rwT, by rw [List.map_map]; rfl, ?_, ?_⟩
    · rw [l2, List.length_map]; omega
    · simp_arith [settle_self]
      exact ⟨by first | rfl | trivial, by first | rfl | trivial⟩
theorem lines_show : g__law_lines = g_show_rows := rfl
theorem cut_last (a : List D) (b : D) : cutD (a ++ [b]) none (some (-1)) = a := by
  have e1 : HT.sIx (a ++ [b]).length 0 none = 0 := rfl
  have e2 : HT.sIx (a ++ [b]).length (a ++ [b]).length (some (-1)) = a.length := by
    unfold HT.sIx
    simp only
    rw [if_pos (show (-1 : Int) < 0 by decide), List.length_append, List.length_singleton]
    omega
  unfold cutD
  rw [e1, e2, Nat.sub_zero, List.drop_zero, List.take_left]
theorem ix_ll {ds : List D} {b : D} {i : Int} (h : asL M x = some ds) (a : atI ds i = some b) : fIxA x (.int i) M = .ok b M := by
  have e0 : fDIx x (.int i) M = .bad := by unfold fDIx; rw [look_l h]
  have e1 : fIx x (.int i) M = .ok b M := by
    unfold fIx
    cases x with
    | str z => cases h
    | tup es => cases h
    | _ => simp only [h, a]
  unfold fIxA or2
  rw [e0, e1]
  rfl
theorem ix_last {ds : List D} {b : D} (h : asL M x = some (ds ++ [b])) : fIxA x (.int (-1)) M = .ok b M := by
  have a : atI (ds ++ [b]) (-1) = some b := atI_last ds b
  exact ix_ll h a
theorem ix_lastT {ds : List D} {b : D} : fIxA (.tup (ds ++ [b])) (.int (-1)) M = .ok b M := by
  have a : atI (ds ++ [b]) (-1) = some b := atI_last ds b
  have e : fIx (.tup (ds ++ [b])) (.int (-1)) M = .ok b M := by
    show (match atI (ds ++ [b]) (-1) with | some d => Res.ok d M | none => .bad) = _
    rw [a]
  have e0 : fDIx (.tup (ds ++ [b])) (.int (-1)) M = .bad := rfl
  unfold fIxA or2
  rw [e0, e]
  rfl
theorem read_eq (ok : ∀ r ∈ rs, RwOk w r) (w3 : w ≤ 3) (hl : rs.length ≤ 2000) : g_read_rows [.str (txT rs), .int (w : Nat)] M = .ok (.ptr M.length) (M ++ [.lst (rs.map rwD)]) := by
  have i1 : isTy "str" "str" = true := by decide
  have s1 : (("\n" : Str).length == 0) = false := by decide +kernel
  have s2 : ((" " : Str).length == 0) = false := by decide +kernel
  have tl0 := txT_len ok w3 hl
  have ng : ∀ (Q : QQ D) (E : XQ) (N : Mem) (S : Sl), wp (eNeg (eC (.int 1)) S N) Q E = Q (.int (-1)) N := fun Q E N S => rfl
  refine wp_eq ?_
  unfold g_read_rows
  refine run_wp rfl ?_
  unfold t_read_rows t_read_rows_1 t_read_rows_2
  by_cases hz : rs = []
  · have q1 : fEqA (.str (txT rs)) (.str "") M = .ok (.bl true) M := by rw [hz, txT_nil]; rfl
    simp_arith [KisT_at (M := M) (d := .str (txT rs)) (t := "str") (n := "str") rfl, i1, q1]
    rw [settle_ptr' (Nat.le_refl _), hz]
    exact ⟨rfl, rfl⟩
  have q1 : fEqA (.str (txT rs)) (.str "") M = .ok (.bl false) M := by rw [fEqA_s, decide_eq_false (txT_ne ok hz)]
  simp_arith [KisT_at (M := M) (d := .str (txT rs)) (t := "str") (n := "str") rfl, i1, q1]
  unfold e_read_rows_3
  simp_arith []
  refine split_wp ?_
  simp_arith []
  refine ⟨txT rs, rfl, s1, by omega, ?_⟩
  rw [txT_lines ok hz, List.map_map]
  refine Klc_map (fun r => D.str (rwT r)) (fun r => .lst ((rwP r).map D.str)) (xs := rs) (small' (by omega)) (fun r hr => ?_) ?_
  · simp_arith []
    refine split_wp ?_
    simp_arith []
    refine ⟨rwT r, rfl, s2, by have := (ok r hr).tlen w3; omega, ?_⟩
    rw [(ok r hr).words]
    exact ⟨by first | rfl | trivial, by first | rfl | trivial⟩
  simp_arith []
  unfold e_read_rows_4
  simp_arith [Kis_l]
  refine Klq_filt (fun r => D.lst ((rwP r).map D.str)) (fun _ => true) rwD (xs := rs) (small' (by omega)) (fun r hr => ?_) ?_
  · have o := ok r hr
    have wl : ∀ N : Mem, asL N (.lst ((rwP r).map D.str)) = some (r.1.map D.str ++ [.str (nt r.2)]) := fun N => by
      show some ((rwP r).map D.str) = _
      unfold rwP
      rw [List.map_append]
      rfl
    have c1 : cutD ((rwP r).map D.str) none (some (-1)) = r.1.map D.str := by
      unfold rwP
      rw [List.map_append]
      exact cut_last _ _
    have n1 : g_read_number [.str (nt r.2)] M = .ok (.int (r.2 : Nat)) M := read_number_eq (Nat.lt_trans o.hi (by decide))
    have a1 : fAdd (.lst (r.1.map D.str)) (.lst [.int (r.2 : Nat)]) M = .ok (.lst (r.1.map D.str ++ [.int (r.2 : Nat)])) M := by
      rw [fAdd_l, if_pos (by have := o.len; rw [List.length_map, List.length_singleton, sizeLine_eq]; omega)]
    have b1 : bTuple [.lst (r.1.map D.str ++ [.int (r.2 : Nat)])] M = .ok (rwD r) M := rfl
    simp_arith [ng, c1, ix_last (wl M), n1, a1, b1]
    exact ⟨by first | rfl | trivial, by first | rfl | trivial, by first | rfl | trivial⟩
  rw [List.filter_eq_self.mpr fun _ _ => rfl]
  simp_arith []
  unfold t_read_rows_6 e_read_rows_5
  have at0 : (M ++ [MO.lst (rs.map rwD)])[M.length]? = some (.lst (rs.map rwD)) := g0 (l := [])
  simp_arith [Kis_at (asL_p at0)]
  refine Klc_mapI rwD (fun _ => .bl true) (xs := rs) itsOf_ds (itsOf_gd (asL_p at0)) (small' (by omega)) (fun r hr => ?_) ?_
  · have o := ok r hr
    have l1 : ∀ N : Mem, bLenA [rwD r] N = .ok (.int (w : Nat)) N := fun N => by
      have e : bLen [rwD r] N = .ok (.int (w : Nat)) N := by
        show Res.ok (D.int ((r.1.map D.str ++ [D.int (r.2 : Nat)]).length : Nat)) N = _
        rw [List.length_append, List.length_map, List.length_singleton, o.len]
      unfold bLenA orC
      rw [e]
      rfl
    have x1 : ∀ N : Mem, fIxA (rwD r) (D.int (-1)) N = .ok (D.int (r.2 : Nat)) N := fun N => ix_lastT
    have no : ∀ N : Mem, fNot0 (D.int (r.2 : Nat)) D.non N = .ok (.bl true) N := fun _ => rfl
    simp_arith [ng, l1, x1, no, decide_true, and_self]
  have al := all_map (M := M ++ [MO.lst (rs.map rwD)]) (xs := rs) (f := fun _ => true)
  have ay : rs.all (fun _ => true) = true := List.all_eq_true.mpr fun _ _ => rfl
  simp_arith [al, ay]
  rw [settle_ptr' (Nat.le_refl _)]
  exact ⟨rfl, rfl⟩
end
end QL
end
section
set_option Elab.async false
set_option linter.all false
set_option maxRecDepth 100000
set_option maxHeartbeats 4000000
set_option autoImplicit false
namespace QL
open PySem PySem.Spec L2
open Classical
local macro_rules | `(tactic| simp_arith [$as,*]) => `(tactic| simp only [wp_ok, wp_rz, sq_nx, sq_rt, sq_bk, sq_ct, sq_rz, sq_ez, swp_nx, swp_rt, swp_bk, swp_ct, swp_rz, wv_some, w_eVar, w_eC, w_aNil, Kc2_ap, Kc1_ap, w_aCons, Kcl_ap, w_eCall, w_eTup, Ktu_0, Ktu_1, Ktu_2, Ktu_3, Ktu_4, w_eLst, Kls_0, Kls_1, Kls_2, Kls_3, Kls_4, Kls_5, Kls_6, Kls_7, Kls_8, Kls_9, w_eLstP, Klp_0, Klp_1, Klp_2, K2c_ap, K2b_ap, w_e2, K3d_t, K3d_f, K3c_ap, K3b_ap, w_e3, KbV_ap, w_bV, Kno_ap, w_bNot, Kan_t, Kan_f, w_bAnd, Kor_t, Kor_f, w_bOr, w_bYes, Ken_ap, w_eNot, Kea_t, Kea_f, w_eAnd, Keo_t, Keo_f, w_eOr, Kei_t, Kei_f, w_eIf, w_kNil, w_kSeq, w_kRet, w_kRetN, Kdr_ap, w_kDrop, Kif_t, Kif_f, w_kIf, w_kBreak, w_kCont, Kas_ap, w_kAsg, w_gN, w_gNil, Kgc_ap, w_gCons, w_gTup2, w_gTup3, wls_some, Ks2_ap, Ks1_ap, w_gSubL, Kpr_ap, w_kPar, Kau_ap, wau_i, w_kAug, wdp_some, Kd3_ap, Kd2_ap, Kd1_ap, w_kDPut, Kg4_ap, wlk_i, Kg2_ap, Kg1_ap, w_kDAug, w_oNone, Kso_ap, w_oSome, Kl3_ap, Kl2_ap, Kl1_ap, w_eSl, Kfl_1, w_eFld, w_eMeth, Kis_l, w_iSeq, Kit_t, w_iTup, w_iRange1, Ken1_l, w_iEnum, Kfo_ap, w_kFor, turn_nx, turn_ct, turn_rt, turn_bk, turn_rz, turn_ez, Ktn_ap, w_eLc, w_eLcP, Klb_t, Klb_f, Klg_ap, pof_nx, pof_rt, List.getElem?_cons_succ, List.getElem?_cons_zero, List.set_cons_succ, List.set_cons_zero, kl_cons, kl_nil, List.map_cons, List.map_nil, List.replicate_succ, List.replicate_zero, List.cons_append, List.nil_append, Bool.not_true, Bool.not_false, fAdd_i, fSub_i, fLt_i, fLe_i, fGt_i, fGe_i, fEqA_i, fEqA_s, fNe_i, fNe_s, fNe_b, fSl_l, bLenA_l, bMax2_i, bMin2_i, bInt_b, bInt_i, fIs0_n, fNot0_n, fIs0_i, fNot0_i, fNot0_p, settle_self, settle_selfX, Kf1_ap, w_kFld, w_eFrz, w_eFrzT, KfT_d, KkT_ap, w_iKeysT, KkF_ap, w_iKeysF, Kmk_ap, w_eMake, w_kRz, Krz_1, pof_rz, pof_ez, ez_ap, tr_nx, tr_rt, Kge3_ap, Kge2_ap, w_eGet2, wgl_s, wgl_n, min_s, max_s, Kq3_ap, Kq2_ap, Kq1_ap, w_eSlP, w_gAll, KitT_ap, w_iItemsT, w_eSortIt, w_iItemsF, KiF_ap, w_eRev, w_eIsC, KiC_o, w_kForG, KoG_ap, w_iEnumG, w_eIsT, w_eOrL, w_ePop, w_eSc2, w_eDnewK, w_eFrzK, $as,*])
/-! XT5: texts of purses, lots and timetables, shown and read. -/
section
variable {p q : PR} {n : Nat} {M : Mem}
theorem lt_pair {p q : PR} (h : le2S p q = true) (ne : p ≠ q) : ltPr p.1 p.2 q.1 q.2 = true := by
  have l : QP.lt2S p q = true := by
    cases e : QP.lt2S p q with
    | true => rfl
    | false => exact absurd (QP.lt2S_conn e (le2S_iff.mp h)) ne
  unfold QP.lt2S at l
  unfold ltPr
  by_cases e : p.1 = q.1
  · rw [if_pos e] at l ⊢
    exact l
  · rw [if_neg e] at l ⊢
    exact l
theorem Kr1_m {Q : QQ Its} (h : n ≤ 100000) (q : Q ⟨(List.range (n - 1)).map fun (j : Nat) => D.int (j : Int), none⟩ M) : Kr1 Q [.int ((n : Nat) - 1)] M := by
  refine ⟨⟨by omega, by omega⟩, ?_⟩
  rw [show ((n : Nat) - 1 : Int).toNat = n - 1 by omega, rngD]
  exact q
end
section
variable {M N : Mem} {S : Sl} {Q : QQ D} {E : XQ} {x y d : D} {n c w : Nat} {r : Rw} {ls ns xs : List Str} {f g : Fn} {T : Tab} {rs : List Rn} {b : Int} {p : PR}
/-- rows of purses -/
noncomputable def purR (ls : List Str) (f : Fn) : List Rw := (srt ls).map fun y => ([y], (f y).toNat)
theorem purR_D (h : ∀ y ∈ ls, 0 ≤ f y) : PL (srt ls) f = (purR ls f).map rwD := by
  unfold PL purR
  rw [List.map_map]
  refine List.map_congr_left fun y hy => ?_
  show D.tup [.str y, .int (f y)] = D.tup [.str y, .int (((f y).toNat : Nat) : Int)]
  rw [Int.toNat_of_nonneg (h y (srt_mem.mp hy))]
theorem purR_ok (h : Pu ls f) : ∀ r ∈ purR ls f, RwOk 2 r := fun r hr => by
  obtain ⟨y, hy, rfl⟩ := List.mem_map.mp hr
  have hy' := srt_mem.mp hy
  have h1 := h.lo y hy'
  have h2 := h.hi y hy'
  refine ⟨rfl, fun z hz => ?_, ?_⟩
  · have hz : z ∈ [y] := hz
    rw [List.mem_singleton.mp hz]
    exact h.nm y hy'
  · show (f y).toNat < 10 ^ 31
    have : (10 : Nat) ^ 31 = 10000000000000000000000000000000 := by decide
    omega
theorem purR_len (h : Pu ls f) : (purR ls f).length ≤ 2000 := by
  unfold purR
  rw [List.length_map, srt_len]
  have := h.len
  omega
theorem show_purses_eq (h : Pu ls f) : g_show_purses [PO ls f] M = .ok (.str (txT (purR ls f))) M := by
  have hl := h.len
  have me : ∀ (Q : QQ D) (E : XQ) (M : Mem) (S : Sl), Kme "Purses" "entries" g_Purses_entries aNil S Q E (PO ls f) M = wp (aNil S M) (Kc2 (PO ls f) (Kcl g_Purses_entries Q E)) E := fun Q E M S => Kme_1 (by decide)
  refine wp_eq ?_
  unfold g_show_purses
  refine run_wp rfl ?_
  unfold t_show_purses
  simp_arith [me, pentries_eq (M := M) (ks := ls) (f := f) (by omega)]
  rw [purR_D h.lo]
  simp_arith [show_eq (M := M) (x := .lst ((purR ls f).map rwD)) (w := 2) asL_l (purR_ok h) (by decide) (purR_len h), and_self]
theorem Pu.srt' (h : Pu ls f) : Pu (srt ls) f := ⟨(srt_perm ls).nodup_iff.mpr h.nd, by rw [srt_len]; exact h.len, fun y hy => h.nm y (srt_mem.mp hy), fun y hy => h.lo y (srt_mem.mp hy), fun y hy => h.hi y (srt_mem.mp hy)⟩
theorem purR_srt : purR (srt ls) f = purR ls f := by unfold purR; rw [srt_srt]
theorem read_purses_eq (hM : NoP M) (h : Pu ls f) : g_read_purses [.str (txT (purR ls f))] M = .ok (PO (srt ls) f) M := by
  have hg : NoP (M ++ [MO.gone]) := NoP.app hM (b := [MO.gone]) fun n => rfl
  refine wp_eq ?_
  unfold g_read_purses
  refine run_wp rfl ?_
  unfold t_read_purses
  simp_arith []
  refine tryN_wp ?_
  unfold t_read_purses_1
  have re : g_read_rows [.str (txT (purR ls f)), .int 2] M = .ok (.ptr M.length) (M ++ [.lst ((purR ls f).map rwD)]) := read_eq (M := M) (w := 2) (purR_ok h) (by decide) (purR_len h)
  simp_arith [re, Kfz_l (g0 (M := M) (x := MO.lst ((purR ls f).map rwD)) (l := [])), s0]
  rw [← purR_D h.lo]
  refine wp_of (pinit_eq hg h.srt') ?_
  simp_arith [Kfz_o g0, s0, true_and]
  have sp := show_purses_eq (M := M ++ [MO.gone] ++ [MO.gone]) h.srt'
  rw [purR_srt] at sp
  have ne : ∀ N : Mem, fNe (.str (txT (purR ls f))) (.str (txT (purR ls f))) N = .ok (.bl false) N := fun N => by
    rw [fNe_s, decide_eq_true rfl]
    rfl
  unfold t_read_purses_2
  simp_arith [sp, ne]
  rw [List.append_assoc, set_fail (d := PO (srt ls) f) (l := [MO.gone] ++ [MO.gone]) hM (by show (lowK _ (TI (srt ls) f) && true) = true; rw [lowK_ti]; rfl) (by simp)]
  exact ⟨rfl, rfl⟩
/-! lots -/
/-- a lot's table as texts write it -/
structure LoOk (T : Tab) : Prop where
  nd : T.1.Nodup
  nm : ∀ p ∈ T.1, NmOk p.1 ∧ NmOk p.2
  lt : ∀ p ∈ T.1, p.1.cps.toList < p.2.cps.toList
  one : ∀ p ∈ T.1, 1 ≤ T.2 p ∧ T.2 p ≤ 1000000000000000000000000
  len : T.1.length ≤ 1400
noncomputable def lotR (T : Tab) : List Rw := (srt2 T.1).map fun p => ([p.1, p.2], (T.2 p).toNat)
theorem LoOk.row (h : LoOk T) (hp : p ∈ T.1) : rwD ([p.1, p.2], (T.2 p).toNat) = eR (p.1, p.2, T.2 p) := by
  show D.tup [.str p.1, .str p.2, .int (((T.2 p).toNat : Nat) : Int)] = D.tup [.str p.1, .str p.2, .int (T.2 p)]
  rw [Int.toNat_of_nonneg (by have := (h.one p hp).1; omega)]
theorem lotR_D (h : LoOk T) : (srt2 T.1).map (enT T) = (lotR T).map rwD := by
  unfold lotR
  rw [List.map_map]
  refine List.map_congr_left fun p hp => ?_
  show _ = rwD ([p.1, p.2], (T.2 p).toNat)
  rw [h.row (srt2_mem hp)]
  rfl
theorem lotR_E (h : LoOk T) : (lotR T).map rwD = (srt2 T.1).map fun p => eR (p.1, p.2, T.2 p) := (lotR_D h).symm
theorem lotR_ok (h : LoOk T) : ∀ r ∈ lotR T, RwOk 3 r := fun r hr => by
  obtain ⟨p, hp, rfl⟩ := List.mem_map.mp hr
  have hp' := srt2_mem hp
  have h1 := h.one p hp'
  have h2 := h.nm p hp'
  refine ⟨rfl, fun z hz => ?_, ?_⟩
  · have hz : z ∈ [p.1, p.2] := hz
    simp only [List.mem_cons, List.not_mem_nil, or_false] at hz
    rcases hz with rfl | rfl
    · exact h2.1
    · exact h2.2
  · show (T.2 p).toNat < 10 ^ 31
    have : (10 : Nat) ^ 31 = 10000000000000000000000000000000 := by decide
    omega
theorem lotR_len (h : LoOk T) : (lotR T).length ≤ 2000 := by
  unfold lotR
  rw [List.length_map, srt2_len]
  have := h.len
  omega
theorem show_lot_eq (h : LoOk T) : g_show_lot [LO T] M = .ok (.str (txT (lotR T))) M := by
  have hl := h.len
  have me : ∀ (Q : QQ D) (E : XQ) (M : Mem) (S : Sl), Kme "Lot" "entries" g_Lot_entries aNil S Q E (LO T) M = wp (aNil S M) (Kc2 (LO T) (Kcl g_Lot_entries Q E)) E := fun Q E M S => Kme_1 (by decide)
  refine wp_eq ?_
  unfold g_show_lot
  refine run_wp rfl ?_
  unfold t_show_lot
  simp_arith [me, entries_eq (M := M) (T := T) (by omega)]
  rw [lotR_D h]
  simp_arith [show_eq (M := M) (x := .lst ((lotR T).map rwD)) (w := 3) asL_l (lotR_ok h) (by decide) (lotR_len h), and_self]
theorem w_eDcT {f : IF} {g : GF} {ke e : EF} {vs : List Nat} : wp (eDcT f g ke e vs S M) Q E = wp (f S M) (fun I M1 => wp (dtL I.gd g ke e (kl vs S) I.ds [] M1) (fun ys M2 => Q (.ptr M2.length) (M2 ++ [.dT ys])) E) E := by
  unfold eDcT
  rw [wp_bind]
  congr 1
  funext I M1
  rw [wp_bind]
  rfl
theorem dtL_rows {gd : Mem → Prop} {g : GF} {ke e : EF} {S0 : Sl} {enc : PR → D} {v : PR → Int} (hg : gd M) : ∀ (ps done : List PR), (done ++ ps).Nodup → (done ++ ps).length ≤ 2000 →
    (∀ p ∈ ps, ∃ S1, g (enc p) S0 M = .ok S1 M ∧ ke S1 M = .ok (.tup [.str p.1, .str p.2]) M ∧ e S1 M = .ok (.int (v p)) M) → dtL gd g ke e S0 (ps.map enc) (PTI done v) M = .ok (PTI (done ++ ps) v) M
  | [], done, _, _, _ => by
    rw [List.append_nil]
    show (if gd M then _ else _) = _
    rw [if_pos hg]
  | p :: ps, done, nd, hl, hs => by
    obtain ⟨S1, h1, h2, h3⟩ := hs p (List.mem_cons_self ..)
    have hp : p ∉ done := fun z => (List.nodup_append.mp nd).2.2 p z p (List.mem_cons_self ..) rfl
    have ka : keysOf [.str p.1, .str p.2] = some (kk p) := rfl
    have pl : (PTI done v).length < sizeLine := by
      rw [pti_len, sizeLine_eq]
      rw [List.length_append] at hl
      omega
    have put : putKD (PTI done v) (kk p) (.int (v p)) = PTI (done ++ [p]) v := by
      unfold PTI
      rw [pt_put]
      have e1 : addk done p = done ++ [p] := if_neg hp
      rw [e1]
      refine pt_cong fun q hq => ?_
      by_cases z : q = p
      · rw [z]; exact if_pos rfl
      · exact if_neg z
    rw [List.map_cons]
    show (if gd M then _ else _) = _
    rw [if_pos hg, h1]
    simp only [h2, ka, h3]
    rw [if_pos pl, put, dtL_rows hg ps (done ++ [p]) (by rw [List.append_assoc]; exact nd) (by rw [List.append_assoc]; exact hl) fun q hq => hs q (List.mem_cons_of_mem _ hq), List.append_assoc]
    rfl
theorem fLtA_s {a b : Str} : fLtA (.str a) (.str b) M = .ok (.bl (decide (a.cps.toList < b.cps.toList))) M := rfl
theorem sl_t2 {a b c : D} : fSl (.tup [a, b, c]) none (some 2) M = .ok (.tup [a, b]) M := by
  show Res.ok (D.tup (cutD [a, b, c] none (some 2))) M = _
  rfl
theorem read_lot_eq (hM : NoP M) (h : LoOk T) : g_read_lot [.str (txT (lotR T))] M = .ok (LO (srt2 T.1, T.2)) M := by
  have hg : NoP (M ++ [MO.gone]) := NoP.app hM (b := [MO.gone]) fun n => rfl
  have hg2 : NoP (M ++ [MO.gone] ++ [MO.gone]) := NoP.app hg (b := [MO.gone]) fun n => rfl
  have hl := h.len
  have sl := srt2_len (l := T.1)
  have nd2 : (srt2 T.1).Nodup := (srt2_perm T.1).nodup_iff.mpr h.nd
  have asc : (srt2 T.1).Pairwise fun a b => ltPr a.1 a.2 b.1 b.2 = true := (List.Pairwise.and nd2 (srt2_pw T.1)).imp fun h => lt_pair h.2 h.1
  refine wp_eq ?_
  unfold g_read_lot
  refine run_wp rfl ?_
  unfold t_read_lot t_read_lot_2 t_read_lot_4
  have re : g_read_rows [.str (txT (lotR T)), .int 3] M = .ok (.ptr M.length) (M ++ [.lst ((lotR T).map rwD)]) := read_eq (M := M) (w := 3) (lotR_ok h) (by decide) (lotR_len h)
  simp_arith [re, Kfz_l (g0 (M := M) (x := MO.lst ((lotR T).map rwD)) (l := [])), s0]
  rw [lotR_E h]
  unfold e_read_lot_1
  simp_arith []
  refine Klc_map (fun p : PR => eR (p.1, p.2, T.2 p)) (fun _ => .bl ((fun _ => true) ())) (xs := srt2 T.1) (small' (by omega)) (fun p hp => ?_) ?_
  · have hp' := srt2_mem hp
    have o := h.one p hp'
    have nm := h.nm p hp'
    have lt := h.lt p hp'
    have ne : p.1 ≠ p.2 := fun e => List.lt_irrefl _ (by rw [e] at lt; exact lt)
    simp_arith [run_ok (M := M ++ [MO.gone]) (r := (p.1, p.2, T.2 p)) nm.1 nm.2 ne o.1 o.2, ixt30, ixt31, fLtA_s, decide_eq_true lt, and_self]
  have al := all_map (M := M ++ [MO.gone]) (xs := srt2 T.1) (f := fun _ => true)
  have ay : (srt2 T.1).all (fun _ => true) = true := List.all_eq_true.mpr fun _ _ => rfl
  simp_arith [al, ay]
  unfold e_read_lot_3
  simp_arith [List.length_map]
  refine Kr1_m (by omega) ?_
  refine Klc_map (fun (j : Nat) => D.int (j : Int)) (fun _ => .bl ((fun _ => true) ())) (small' (by rw [List.length_range]; omega)) (fun j hj => ?_) ?_
  · rw [List.mem_range] at hj
    have hj' : j + 1 < (srt2 T.1).length := by omega
    have x0 : ∀ N : Mem, fIxA (.lst ((srt2 T.1).map fun p => eR (p.1, p.2, T.2 p))) (.int (j : Nat)) N = .ok (eR ((srt2 T.1)[j].1, (srt2 T.1)[j].2, T.2 (srt2 T.1)[j])) N := fun N => ix_l asL_l (by rw [List.getElem?_map, List.getElem?_eq_getElem (by omega)]; rfl)
    have x1 : ∀ N : Mem, fIxA (.lst ((srt2 T.1).map fun p => eR (p.1, p.2, T.2 p))) (.int ((j : Int) + 1)) N = .ok (eR ((srt2 T.1)[j + 1].1, (srt2 T.1)[j + 1].2, T.2 (srt2 T.1)[j + 1])) N := fun N => by
      rw [show (j : Int) + 1 = ((j + 1 : Nat) : Int) by omega]
      exact ix_l asL_l (by rw [List.getElem?_map, List.getElem?_eq_getElem hj']; rfl)
    have lt := List.pairwise_iff_getElem.mp asc j (j + 1) (by omega) hj' (by omega)
    simp_arith [x0, x1, eR, sl_t2, fLtP_pr, lt, and_self]
  have al2 := all_map (M := M ++ [MO.gone]) (xs := List.range ((srt2 T.1).length - 1)) (f := fun _ => true)
  have ay2 : (List.range ((srt2 T.1).length - 1)).all (fun _ => true) = true := List.all_eq_true.mpr fun _ _ => rfl
  simp_arith [al2, ay2]
  unfold e_read_lot_5
  simp_arith [w_eDcT]
  have rows := dtL_rows (M := M ++ [MO.gone]) (gd := Its.gd ⟨(srt2 T.1).map fun p => eR (p.1, p.2, T.2 p), none⟩) (g := gTupF 3 (gConsF (gN 2) (gConsF (gN 3) (gConsF (gN 4) gNilF)))) (ke := eTup (aCons (eVar 2) (aCons (eVar 3) aNil))) (e := eVar 4)
    (S0 := kl [2, 3, 4] [some (.str (txT (lotR T))), some (.lst ((srt2 T.1).map fun p => eR (p.1, p.2, T.2 p))), none, none, none, none, none]) (enc := fun p => eR (p.1, p.2, T.2 p)) (v := T.2) trivial (srt2 T.1) [] (by rw [List.nil_append]; exact nd2) (by rw [List.nil_append]; omega) fun p hp => ⟨_, rfl, rfl, rfl⟩
  refine wp_of rows ?_
  rw [List.nil_append]
  simp_arith [Kfz_T (g0 (M := M ++ [MO.gone]) (x := MO.dT (PTI (srt2 T.1) T.2)) (l := [])), s0]
  have wt := with_eq (M := M ++ [MO.gone] ++ [MO.gone]) (T := (srt2 T.1, T.2)) hg2
  have wt' : g_with_table [.dT (PTI (srt2 T.1) T.2)] (M ++ [MO.gone] ++ [MO.gone]) = .ok (LO (srt2 T.1, T.2)) (M ++ [MO.gone] ++ [MO.gone]) := wt
  simp_arith [wt']
  rw [List.append_assoc, set_fail (d := LO (srt2 T.1, T.2)) (l := [MO.gone] ++ [MO.gone]) hM (by show (lowT _ (TT (srt2 T.1, T.2)) && true) = true; rw [lowT_tt]; rfl) (by simp)]
  exact ⟨rfl, rfl⟩
/-! timetables -/
def runR (rs : List Rn) : List Rw := rs.map fun r => ([r.1, r.2.1], r.2.2.toNat)
theorem runR_D (h : ∀ r ∈ rs, 0 ≤ r.2.2) : rs.map eR = (runR rs).map rwD := by
  unfold runR
  rw [List.map_map]
  refine List.map_congr_left fun r hr => ?_
  show D.tup [.str r.1, .str r.2.1, .int r.2.2] = D.tup [.str r.1, .str r.2.1, .int ((r.2.2.toNat : Nat) : Int)]
  rw [Int.toNat_of_nonneg (h r hr)]
theorem runR_ok (nm : ∀ y ∈ ns, NmOk y) (ro : ∀ r ∈ rs, RO ns 1000000000000000000000000 r) : ∀ r ∈ runR rs, RwOk 3 r := fun r hr => by
  obtain ⟨q, hq, rfl⟩ := List.mem_map.mp hr
  have o := ro q hq
  have h1 := o.lo
  have h2 := o.hi
  refine ⟨rfl, fun z hz => ?_, ?_⟩
  · have hz : z ∈ [q.1, q.2.1] := hz
    simp only [List.mem_cons, List.not_mem_nil, or_false] at hz
    rcases hz with rfl | rfl
    · exact nm _ o.pa
    · exact nm _ o.ot
  · show q.2.2.toNat < 10 ^ 31
    have : (10 : Nat) ^ 31 = 10000000000000000000000000000000 := by decide
    omega
theorem show_tt_eq (hx : asL M x = some (rs.map eR)) (nm : ∀ y ∈ ns, NmOk y) (ro : ∀ r ∈ rs, RO ns 1000000000000000000000000 r) (hl : rs.length ≤ 1000) : g_show_timetable [x] M = .ok (.str (txT (runR rs))) M := by
  have hx' : asL M x = some ((runR rs).map rwD) := by rw [hx, runR_D fun r hr => by have := (ro r hr).lo; omega]
  refine wp_eq ?_
  unfold g_show_timetable
  refine run_wp rfl ?_
  unfold t_show_timetable
  simp_arith [show_eq (M := M) (w := 3) hx' (runR_ok nm ro) (by decide) (by unfold runR; rw [List.length_map]; omega), and_self]
theorem read_tt_eq (nm : ∀ y ∈ ns, NmOk y) (ro : ∀ r ∈ rs, RO ns 1000000000000000000000000 r) (hl : rs.length ≤ 1000) : g_read_timetable [.str (txT (runR rs))] M = .ok (.ptr M.length) (M ++ [.lst (rs.map eR)]) := by
  have rl : (runR rs).length ≤ 2000 := by unfold runR; rw [List.length_map]; omega
  refine wp_eq ?_
  unfold g_read_timetable
  refine run_wp rfl ?_
  unfold t_read_timetable t_read_timetable_2
  have re : g_read_rows [.str (txT (runR rs)), .int 3] M = .ok (.ptr M.length) (M ++ [.lst ((runR rs).map rwD)]) := read_eq (M := M) (w := 3) (runR_ok nm ro) (by decide) rl
  rw [← runR_D fun r hr => by have := (ro r hr).lo; omega] at re
  have at0 : (M ++ [MO.lst (rs.map eR)])[M.length]? = some (.lst (rs.map eR)) := g0 (l := [])
  have gt : decide ((rs.length : Int) > 1000) = false := decide_eq_false (by omega)
  simp_arith [re, len_l (asL_p at0), List.length_map, gt]
  unfold e_read_timetable_1
  simp_arith [Kis_at (asL_p at0)]
  refine Klc_mapI eR (fun _ => .bl ((fun _ => true) ())) (xs := rs) itsOf_ds (itsOf_gd (asL_p at0)) (small' (by omega)) (fun r hr => ?_) ?_
  · have o := ro r hr
    simp_arith [run_ok (M := M ++ [MO.lst (rs.map eR)]) (nm _ o.pa) (nm _ o.ot) o.ne o.lo o.hi, and_self]
  have al := all_map (M := M ++ [MO.lst (rs.map eR)]) (xs := rs) (f := fun _ => true)
  have ay : rs.all (fun _ => true) = true := List.all_eq_true.mpr fun _ _ => rfl
  simp_arith [al, ay]
  rw [settle_ptr' (Nat.le_refl _)]
  exact ⟨rfl, rfl⟩
end
end QL
end
section
set_option Elab.async false
set_option linter.all false
set_option maxRecDepth 100000
set_option maxHeartbeats 4000000
set_option autoImplicit false
namespace QL
open PySem PySem.Spec L2
open Classical
local macro_rules | `(tactic| simp_arith [$as,*]) => `(tactic| simp only [wp_ok, wp_rz, sq_nx, sq_rt, sq_bk, sq_ct, sq_rz, sq_ez, swp_nx, swp_rt, swp_bk, swp_ct, swp_rz, wv_some, w_eVar, w_eC, w_aNil, Kc2_ap, Kc1_ap, w_aCons, Kcl_ap, w_eCall, w_eTup, Ktu_0, Ktu_1, Ktu_2, Ktu_3, Ktu_4, w_eLst, Kls_0, Kls_1, Kls_2, Kls_3, Kls_4, Kls_5, Kls_6, Kls_7, Kls_8, Kls_9, w_eLstP, Klp_0, Klp_1, Klp_2, K2c_ap, K2b_ap, w_e2, K3d_t, K3d_f, K3c_ap, K3b_ap, w_e3, KbV_ap, w_bV, Kno_ap, w_bNot, Kan_t, Kan_f, w_bAnd, Kor_t, Kor_f, w_bOr, w_bYes, Ken_ap, w_eNot, Kea_t, Kea_f, w_eAnd, Keo_t, Keo_f, w_eOr, Kei_t, Kei_f, w_eIf, w_kNil, w_kSeq, w_kRet, w_kRetN, Kdr_ap, w_kDrop, Kif_t, Kif_f, w_kIf, w_kBreak, w_kCont, Kas_ap, w_kAsg, w_gN, w_gNil, Kgc_ap, w_gCons, w_gTup2, w_gTup3, wls_some, Ks2_ap, Ks1_ap, w_gSubL, Kpr_ap, w_kPar, Kau_ap, wau_i, w_kAug, wdp_some, Kd3_ap, Kd2_ap, Kd1_ap, w_kDPut, Kg4_ap, wlk_i, Kg2_ap, Kg1_ap, w_kDAug, w_oNone, Kso_ap, w_oSome, Kl3_ap, Kl2_ap, Kl1_ap, w_eSl, Kfl_1, w_eFld, w_eMeth, Kis_l, w_iSeq, Kit_t, w_iTup, w_iRange1, Ken1_l, w_iEnum, Kfo_ap, w_kFor, turn_nx, turn_ct, turn_rt, turn_bk, turn_rz, turn_ez, Ktn_ap, w_eLc, w_eLcP, Klb_t, Klb_f, Klg_ap, pof_nx, pof_rt, List.getElem?_cons_succ, List.getElem?_cons_zero, List.set_cons_succ, List.set_cons_zero, kl_cons, kl_nil, List.map_cons, List.map_nil, List.replicate_succ, List.replicate_zero, List.cons_append, List.nil_append, Bool.not_true, Bool.not_false, fAdd_i, fSub_i, fLt_i, fLe_i, fGt_i, fGe_i, fEqA_i, fEqA_s, fNe_i, fNe_s, fNe_b, fSl_l, bLenA_l, bMax2_i, bMin2_i, bInt_b, bInt_i, fIs0_n, fNot0_n, fIs0_i, fNot0_i, fNot0_p, $as,*])
/-! KW2: two names, a count, by what must hold. -/
section
variable {M : Mem} {Q : QQ D} {E : XQ} {ns : List Str}
theorem two_wp (h : HM M) (nd : ns.Nodup) (h2 : 2 ≤ ns.length) (h64 : ns.length ≤ 1000) (k : ∀ a b M', a ∈ ns → b ∈ ns → a ≠ b → Fr M M' → Q (.tup [.str a, .str b]) M') :
    wp (g__law_two [.ptr 0, .lst (ns.map D.str)] M) Q E := by
  unfold g__law_two
  refine run_wp rfl ?_
  unfold t__law_two
  simp_arith [List.length_map]
  refine draw_wp h (by omega) (by omega) fun i M1 hi f1 => ?_
  have hi' : i < ns.length := by omega
  have x0 : ∀ N, fIxA (.lst (ns.map D.str)) (.int (i : Nat)) N = .ok (.str ns[i]) N := fun N => ixs hi'
  simp_arith [x0]
  unfold e__law_two_1
  simp_arith []
  refine Klc_filt D.str (fun x => decide (x ≠ ns[i])) D.str (small' (by omega)) (fun x hx => ?_) ?_
  · simp_arith []
    by_cases q : x = ns[i]
    · simp [q, Klb, wp]
    · simp_arith [q, decide_false, decide_true]; simp [q]
  simp_arith [List.length_map]
  have lf : 1 ≤ (ns.filter fun x => decide (x ≠ ns[i])).length := by
    obtain ⟨y, hy, hne⟩ : ∃ y ∈ ns, y ≠ ns[i] := by
      by_cases z : i = 0
      · subst z
        exact ⟨ns[1], List.getElem_mem _, fun e => List.pairwise_iff_getElem.mp nd 0 1 (by omega) (by omega) (by omega) e.symm⟩
      · exact ⟨ns[0], List.getElem_mem _, fun e => List.pairwise_iff_getElem.mp nd 0 i (by omega) (by omega) (by omega) e⟩
    exact List.length_pos_of_mem (List.mem_filter.mpr ⟨hy, by simp [hne]⟩)
  have lg : (ns.filter fun x => decide (x ≠ ns[i])).length ≤ ns.length := List.length_filter_le _ _
  refine draw_wp f1.hm (by omega) (by omega) fun j M2 hj f2 => ?_
  have hj' : j < (ns.filter fun x => decide (x ≠ ns[i])).length := by omega
  have x1 : ∀ N, fIxA (.lst ((ns.filter fun x => decide (x ≠ ns[i])).map D.str)) (.int (j : Nat)) N = .ok (.str (ns.filter fun x => decide (x ≠ ns[i]))[j]) N := fun N => ixs hj'
  simp_arith [x1]
  have m := List.mem_filter.mp (List.getElem_mem hj')
  have f := f1.trans f2
  exact settle_wp h f.ext (fun n => rfl) fun M' f' => k _ _ _ (List.getElem_mem hi') m.1 (fun e => of_decide_eq_true m.2 e.symm) f'
end
end QL
end
section
set_option Elab.async false
set_option linter.all false
set_option maxRecDepth 100000
set_option maxHeartbeats 4000000
set_option autoImplicit false
namespace QL
open PySem PySem.Spec L2
open Classical
local macro_rules | `(tactic| simp_arith [$as,*]) => `(tactic| simp only [wp_ok, wp_rz, sq_nx, sq_rt, sq_bk, sq_ct, sq_rz, sq_ez, swp_nx, swp_rt, swp_bk, swp_ct, swp_rz, wv_some, w_eVar, w_eC, w_aNil, Kc2_ap, Kc1_ap, w_aCons, Kcl_ap, w_eCall, w_eTup, Ktu_0, Ktu_1, Ktu_2, Ktu_3, Ktu_4, w_eLst, Kls_0, Kls_1, Kls_2, Kls_3, Kls_4, Kls_5, Kls_6, Kls_7, Kls_8, Kls_9, w_eLstP, Klp_0, Klp_1, Klp_2, K2c_ap, K2b_ap, w_e2, K3d_t, K3d_f, K3c_ap, K3b_ap, w_e3, KbV_ap, w_bV, Kno_ap, w_bNot, Kan_t, Kan_f, w_bAnd, Kor_t, Kor_f, w_bOr, w_bYes, Ken_ap, w_eNot, Kea_t, Kea_f, w_eAnd, Keo_t, Keo_f, w_eOr, Kei_t, Kei_f, w_eIf, w_kNil, w_kSeq, w_kRet, w_kRetN, Kdr_ap, w_kDrop, Kif_t, Kif_f, w_kIf, w_kBreak, w_kCont, Kas_ap, w_kAsg, w_gN, w_gNil, Kgc_ap, w_gCons, w_gTup2, w_gTup3, wls_some, Ks2_ap, Ks1_ap, w_gSubL, Kpr_ap, w_kPar, Kau_ap, wau_i, w_kAug, wdp_some, Kd3_ap, Kd2_ap, Kd1_ap, w_kDPut, Kg4_ap, wlk_i, Kg2_ap, Kg1_ap, w_kDAug, w_oNone, Kso_ap, w_oSome, Kl3_ap, Kl2_ap, Kl1_ap, w_eSl, Kfl_1, w_eFld, w_eMeth, Kis_l, w_iSeq, Kit_t, w_iTup, w_iRange1, Ken1_l, w_iEnum, Kfo_ap, w_kFor, turn_nx, turn_ct, turn_rt, turn_bk, turn_rz, turn_ez, Ktn_ap, w_eLc, w_eLcP, Klb_t, Klb_f, Klg_ap, pof_nx, pof_rt, List.getElem?_cons_succ, List.getElem?_cons_zero, List.set_cons_succ, List.set_cons_zero, kl_cons, kl_nil, List.map_cons, List.map_nil, List.replicate_succ, List.replicate_zero, List.cons_append, List.nil_append, Bool.not_true, Bool.not_false, fAdd_i, fSub_i, fLt_i, fLe_i, fGt_i, fGe_i, fEqA_i, fEqA_s, fNe_i, fNe_s, fNe_b, fSl_l, bLenA_l, bMax2_i, bMin2_i, bInt_b, bInt_i, fIs0_n, fNot0_n, fIs0_i, fNot0_i, fNot0_p, $as,*])
/-! KW3: counts. -/
section
variable {M : Mem} {Q : QQ D} {E : XQ}
theorem pw21 (M : Mem) : fPow (.int 10) (.int 21) M = .ok (.int 1000000000000000000000) M := rfl
theorem count_wp (h : HM M) (k : ∀ (c : Nat) M', 1 ≤ c → c ≤ 1000000000000000000000 → Fr M M' → Q (.int (c : Nat)) M') : wp (g__law_count [.ptr 0] M) Q E := by
  unfold g__law_count
  refine run_wp rfl ?_
  unfold t__law_count t__law_count_1 t__law_count_2
  simp_arith []
  refine draw_wp h (by decide) (by decide) fun w M1 hw f1 => ?_
  have fin : ∀ (c : Nat) (N : Mem), 1 ≤ c → c ≤ 1000000000000000000000 → Fr M N → wp (settle M.length (.ok (.int (c : Nat)) N)) Q E := fun c N h1 h2 f => settle_wp h f.ext (fun n => rfl) fun M' f' => k c M' h1 h2 f'
  simp_arith []
  refine Kif_dec (fun q => ?_) fun q => ?_
  · simp_arith []
    obtain ⟨t, ht, ix⟩ : ∃ t : Nat, (t = 1 ∨ t = 3) ∧ ∀ N, fIxA (.lst [.int 1, .int 1, .int 3, .int 3]) (.int (w : Nat)) N = .ok (.int (t : Nat)) N := by
      rcases (show w = 0 ∨ w = 1 ∨ w = 2 ∨ w = 3 by omega) with rfl | rfl | rfl | rfl
      · exact ⟨1, by simp, fun N => fIxA_l rfl⟩
      · exact ⟨1, by simp, fun N => fIxA_l rfl⟩
      · exact ⟨3, by simp, fun N => fIxA_l rfl⟩
      · exact ⟨3, by simp, fun N => fIxA_l rfl⟩
    simp_arith [ix]
    refine draw_wp f1.hm (by omega) (by omega) fun r M2 hr f2 => ?_
    simp_arith []
    rw [show (1 : Int) + (r : Nat) = ((1 + r : Nat) : Int) by omega]
    exact fin _ _ (by omega) (by omega) (f1.trans f2)
  · simp_arith []
    refine Kif_dec (fun q => ?_) fun q => ?_
    · simp_arith []
      refine draw_wp f1.hm (by omega) (by omega) fun r M2 hr f2 => ?_
      simp_arith []
      rw [show (1 : Int) + (r : Nat) = ((1 + r : Nat) : Int) by omega]
      exact fin _ _ (by omega) (by omega) (f1.trans f2)
    · simp_arith [pw21]
      refine draw_wp f1.hm (by omega) (by omega) fun r M2 hr f2 => ?_
      simp_arith []
      refine draw_wp f2.hm (by omega) (by omega) fun r2 M3 hr2 f3 => ?_
      obtain ⟨c, h1, h2, ix⟩ : ∃ c : Nat, 1 ≤ c ∧ c ≤ 1000000000000000000000 ∧ ∀ N, fIxA (.lst [.int 1000000000000000000000, .int (1 + (r : Nat))]) (.int (r2 : Nat)) N = .ok (.int (c : Nat)) N := by
        rcases (show r2 = 0 ∨ r2 = 1 by omega) with rfl | rfl
        · exact ⟨1000000000000000000000, by omega, by omega, fun N => fIxA_l rfl⟩
        · exact ⟨1 + r, by omega, by omega, fun N => fIxA_l rfl⟩
      simp_arith [ix]
      exact fin _ _ h1 h2 ((f1.trans f2).trans f3)
end
end QL
end
section
set_option Elab.async false
set_option linter.all false
set_option maxRecDepth 100000
set_option maxHeartbeats 4000000
set_option autoImplicit false
namespace QL
open PySem PySem.Spec L2
open Classical
local macro_rules | `(tactic| simp_arith [$as,*]) => `(tactic| simp only [wp_ok, wp_rz, sq_nx, sq_rt, sq_bk, sq_ct, sq_rz, sq_ez, swp_nx, swp_rt, swp_bk, swp_ct, swp_rz, wv_some, w_eVar, w_eC, w_aNil, Kc2_ap, Kc1_ap, w_aCons, Kcl_ap, w_eCall, w_eTup, Ktu_0, Ktu_1, Ktu_2, Ktu_3, Ktu_4, w_eLst, Kls_0, Kls_1, Kls_2, Kls_3, Kls_4, Kls_5, Kls_6, Kls_7, Kls_8, Kls_9, w_eLstP, Klp_0, Klp_1, Klp_2, K2c_ap, K2b_ap, w_e2, K3d_t, K3d_f, K3c_ap, K3b_ap, w_e3, KbV_ap, w_bV, Kno_ap, w_bNot, Kan_t, Kan_f, w_bAnd, Kor_t, Kor_f, w_bOr, w_bYes, Ken_ap, w_eNot, Kea_t, Kea_f, w_eAnd, Keo_t, Keo_f, w_eOr, Kei_t, Kei_f, w_eIf, w_kNil, w_kSeq, w_kRet, w_kRetN, Kdr_ap, w_kDrop, Kif_t, Kif_f, w_kIf, w_kBreak, w_kCont, Kas_ap, w_kAsg, w_gN, w_gNil, Kgc_ap, w_gCons, w_gTup2, w_gTup3, wls_some, Ks2_ap, Ks1_ap, w_gSubL, Kpr_ap, w_kPar, Kau_ap, wau_i, w_kAug, wdp_some, Kd3_ap, Kd2_ap, Kd1_ap, w_kDPut, Kg4_ap, wlk_i, Kg2_ap, Kg1_ap, w_kDAug, w_oNone, Kso_ap, w_oSome, Kl3_ap, Kl2_ap, Kl1_ap, w_eSl, Kfl_1, w_eFld, w_eMeth, Kis_l, w_iSeq, Kit_t, w_iTup, w_iRange1, Ken1_l, w_iEnum, Kfo_ap, w_kFor, turn_nx, turn_ct, turn_rt, turn_bk, turn_rz, turn_ez, Ktn_ap, w_eLc, w_eLcP, Klb_t, Klb_f, Klg_ap, pof_nx, pof_rt, List.getElem?_cons_succ, List.getElem?_cons_zero, List.set_cons_succ, List.set_cons_zero, kl_cons, kl_nil, List.map_cons, List.map_nil, List.replicate_succ, List.replicate_zero, List.cons_append, List.nil_append, Bool.not_true, Bool.not_false, fAdd_i, fSub_i, fLt_i, fLe_i, fGt_i, fGe_i, fEqA_i, fEqA_s, fNe_i, fNe_s, fNe_b, fSl_l, bLenA_l, bMax2_i, bMin2_i, bInt_b, bInt_i, fIs0_n, fNot0_n, fIs0_i, fNot0_i, fNot0_p, settle_self, settle_selfX, Kf1_ap, w_kFld, w_eFrz, w_eFrzT, KfT_d, KkT_ap, w_iKeysT, KkF_ap, w_iKeysF, Kmk_ap, w_eMake, w_kRz, Krz_1, pof_rz, pof_ez, ez_ap, tr_nx, tr_rt, Kge3_ap, Kge2_ap, w_eGet2, wgl_s, wgl_n, min_s, max_s, Kq3_ap, Kq2_ap, Kq1_ap, w_eSlP, w_gAll, KitT_ap, w_iItemsT, w_eSortIt, w_iItemsF, KiF_ap, w_eRev, w_eIsC, KiC_o, w_kForG, KoG_ap, w_iEnumG, w_eIsT, w_eOrL, w_ePop, w_eSc2, w_eDnewK, w_eFrzK, $as,*])
/-! XT6: what the law draws. -/
open TL (numL)
section
variable {M N B M1 : Mem} {S : Sl} {Q : QQ D} {E : XQ} {P : Po} {x y d : D} {n k K : Nat} {ns ls xs : List Str} {f g : Fn} {rs : List Rn} {b : Int} {o1 o2 o3 o4 o5 o6 : Option D}
theorem nm_cut {z : Str} (h : NmOk z) {i : Nat} (hi : i < z.length) : NmOk (cutS z none (some (1 + (i : Int)))) := by
  have e : (cutS z none (some (1 + (i : Int)))).cps.toList = z.cps.toList.take (1 + i) := by
    rw [cutS_take (by omega)]
    rw [show (1 + (i : Int)).toNat = 1 + i by omega]
  have l : (cutS z none (some (1 + (i : Int)))).length = 1 + i := by
    rw [len_cps] at hi
    rw [len_cps, e, List.length_take]
    omega
  have h1 := h.1
  have h2 := h.2.1
  refine ⟨by rw [l]; omega, by rw [l]; omega, fun c hc => h.2.2 c ?_⟩
  have hc : c ∈ (cutS z none (some (1 + (i : Int)))).cps.toList := hc
  rw [e] at hc
  exact List.mem_of_mem_take hc
theorem pickS {a c : Str} {w : Nat} (hw : w < 2) (k : ∀ v, (v = a ∨ v = c) → Q (.str v) M) : wp (fIxA (.lst [.str a, .str c]) (.int (w : Nat)) M) Q E := by
  rcases (show w = 0 ∨ w = 1 by omega) with rfl | rfl
  · exact wp_of (fIxA_l (n := 0) rfl) (k a (.inl rfl))
  · exact wp_of (fIxA_l (n := 1) rfl) (k c (.inr rfl))
theorem mixed_wp (h : HM M) (kk : ∀ (ns : List Str) M', ns.Nodup → ns.length ≤ 24 → (∀ y ∈ ns, NmOk y) → Fr M M' → Q (.lst (ns.map D.str)) M') : wp (g__law_mixed_names [.ptr 0] M) Q E := by
  unfold g__law_mixed_names
  refine run_wp rfl ?_
  unfold t__law_mixed_names t__law_mixed_names_3
  simp_arith []
  rw [show (24 : Int) = ((24 : Nat) : Int) from rfl]
  refine names_wp h (by omega) fun ns M1 nl nd nm f1 => ?_
  simp_arith []
  refine for_map (enc := D.str) (xs := ns) (fun l S' N => ∃ qs : List Str, Fr M N ∧ qs.Nodup ∧ qs.length ≤ l.length ∧ (∀ y ∈ qs, NmOk y) ∧ S' = [some (.ptr 0), some (.lst (qs.map D.str)), none, none, none]) (fun _ _ _ _ => trivial) (fun l z r S' N e ⟨qs, fr, nq, lq, mq, hS⟩ => ?_) ⟨[], f1, List.nodup_nil, Nat.zero_le _, (fun y hy => nomatch hy), rfl⟩ (fun S' N ⟨qs, fr, nq, lq, mq, hS⟩ => ?_)
  · subst hS
    have zn : NmOk z := nm z (by rw [e]; simp)
    have z1 := zn.1
    have z8 := zn.2.1
    have ll : l.length < 24 := by
      have := congrArg List.length e
      rw [List.length_append, List.length_cons] at this
      omega
    unfold b__law_mixed_names_2
    simp_arith [len_str (M := N) (w := z) (by omega)]
    refine draw_wp fr.hm (by omega) (by omega) fun i N1 hi f2 => ?_
    have sl : ∀ N : Mem, fSl (.str z) none (some (1 + (i : Int))) N = .ok (.str (cutS z none (some (1 + (i : Int))))) N := fun N => if_pos (by rw [sizeLine_eq]; omega)
    have cn := nm_cut zn (i := i) (by omega)
    simp_arith [sl]
    generalize cutS z none (some (1 + (i : Int))) = z2 at cn
    unfold e__law_mixed_names_1
    simp_arith []
    refine draw_wp (fr.trans f2).hm (by decide) (by decide) fun w N2 hw f3 => ?_
    refine pickS (by omega) fun v hv => ?_
    have vn : NmOk v := by rcases hv with rfl | rfl <;> assumption
    have fr3 := (fr.trans f2).trans f3
    simp_arith []
    refine Klc_filt D.str (fun y => decide (y ∉ qs)) D.str (xs := [v]) (small' (by simp)) (fun y hy => ?_) ?_
    · simp_arith [notin_l (M := N2) (x := y) (ns := qs) (y := .lst (qs.map D.str)) asL_l]
      by_cases h : y ∈ qs
      · simp_arith [decide_eq_false (not_not_intro h), and_self]
      · simp_arith [decide_eq_true h, and_self]
    · refine wp_of (add_l (by rw [List.length_map, List.length_map]; have : ([v].filter fun y => decide (y ∉ qs)).length ≤ 1 := List.length_filter_le _ _; omega)) ?_
      simp_arith []
      by_cases hv2 : v ∈ qs
      · have e1 : ([v].filter fun y => decide (y ∉ qs)) = [] := by rw [List.filter_cons_of_neg (by simp [hv2]), List.filter_nil]
        rw [e1]
        exact ⟨qs, fr3, nq, by rw [List.length_append]; omega, mq, by rw [List.map_nil, List.append_nil] <;> first | rfl | trivial⟩
      · have e1 : ([v].filter fun y => decide (y ∉ qs)) = [v] := by rw [List.filter_cons_of_pos (by simp [hv2]), List.filter_nil]
        rw [e1]
        refine ⟨qs ++ [v], fr3, ?_, by rw [List.length_append, List.length_append]; simp only [List.length_singleton]; omega, fun y hy => ?_, by rw [List.map_append] <;> first | rfl | trivial⟩
        · exact List.nodup_append.mpr ⟨nq, by simp, fun a ha c hc e => hv2 (by rw [← List.mem_singleton.mp hc, ← e]; exact ha)⟩
        · rcases List.mem_append.mp hy with w | w
          · exact mq y w
          · rw [List.mem_singleton.mp w]; exact vn
  · subst hS
    simp_arith []
    exact settle_wp h fr.ext (fun n => lowDs_map (fun _ => rfl) qs) fun M4 f4 => kk qs M4 nq (by omega) mq f4
theorem dput_new {i : Int} {y : Str} (h : M[k]? = some (.dK (TI ls f))) (hy : y ∉ ls) (hl : ls.length ≤ 1000) : dput k (.str y) (.int i) M = some (M.set k (.dK (TI (ls ++ [y]) (fu f y i)))) := by
  rw [dput_at' h (by rw [TI, te_len, sizeLine_eq]; omega), ti_new hy]
abbrev SA (sc o2 : Option D) (ns : List Str) (K : Nat) (o5 o7 : Option D) : Sl := [sc, some (.ptr 0), o2, some (.lst (ns.map D.str)), some (.ptr K), o5, none, o7, none, none, none, none, none, none, none, none, none, none, none, none]
theorem tick_wp {sc o2 : Option D} (d0 : Ds B M K [] f) (nd : ns.Nodup) (n24 : ns.length ≤ 24)
    (kk : ∀ (ts : List Str) (g : Fn) (o5 : Option D) N, Ds B N K ts g → ts.Nodup → ts.length ≤ 24 → (∀ y ∈ ts, y ∈ ns) → (∀ y ∈ ts, 0 ≤ g y ∧ g y ≤ 1000000000000000000000000000000) → P.nx (SA sc o2 ns K o5 none) N) :
    swp (t_law_2 (SA sc o2 ns K none none) M) P := by
  have p6 : ∀ M : Mem, fPow (.int 10) (.int 6) M = .ok (.int 1000000) M := fun _ => rfl
  have p15 : ∀ M : Mem, fPow (.int 10) (.int 15) M = .ok (.int 1000000000000000) M := fun _ => rfl
  have p25 : ∀ M : Mem, fPow (.int 10) (.int 25) M = .ok (.int 10000000000000000000000000) M := fun _ => rfl
  have p30 : ∀ M : Mem, fPow (.int 10) (.int 30) M = .ok (.int 1000000000000000000000000000000) M := fun _ => rfl
  unfold t_law_2
  simp_arith [List.length_map]
  refine draw_wp d0.ext.hm (by omega) (by omega) fun i M1 hi f1 => ?_
  have cj : cutD (ns.map D.str) none (some ((i : Nat) : Int)) = (ns.take i).map D.str := by
    rw [cutD_take (by omega), Int.toNat_natCast, List.map_take]
  simp_arith [cj]
  refine for_map (enc := D.str) (xs := ns.take i) (fun l S' N => ∃ g : Fn, Ds B N K l g ∧ (∀ y ∈ l, 0 ≤ g y ∧ g y ≤ 1000000000000000000000000000000) ∧ ∃ o5, S' = SA sc o2 ns K o5 none) (fun _ _ _ _ => trivial) (fun l y r S' N e ⟨g, hd, hb, o5, hS⟩ => ?_) ⟨f, d0.fr f1, (fun y hy => nomatch hy), _, rfl⟩ (fun S' N ⟨g, hd, hb, o5, hS⟩ => ?_)
  · subst hS
    have ndT : (l ++ y :: r).Nodup := by rw [← e]; exact nd.sublist (List.take_sublist _ _)
    have yl : y ∉ l := fun z => (List.nodup_append.mp ndT).2.2 y z y (List.mem_cons_self ..) rfl
    have ll : l.length ≤ 24 := by
      have := congrArg List.length e
      rw [List.length_take, List.length_append, List.length_cons] at this
      omega
    unfold b_law_1
    simp_arith [p6, p15, p25, p30]
    refine draw_wp hd.ext.hm (by decide) (by decide) fun w N1 hw f2 => ?_
    obtain ⟨z, ez, z0, z1⟩ : ∃ z : Int, (∀ N : Mem, fIxA (.lst [.int 10, .int 1000000, .int 1000000000000000, .int 10000000000000000000000000, .int 1000000000000000000000000000000]) (.int (w : Nat)) N = .ok (.int z) N) ∧ 1 ≤ z ∧ z ≤ 1000000000000000000000000000000 := by
      rcases (show w = 0 ∨ w = 1 ∨ w = 2 ∨ w = 3 ∨ w = 4 by omega) with rfl | rfl | rfl | rfl | rfl
      · exact ⟨_, fun N => fIxA_l (n := 0) rfl, by decide, by decide⟩
      · exact ⟨_, fun N => fIxA_l (n := 1) rfl, by decide, by decide⟩
      · exact ⟨_, fun N => fIxA_l (n := 2) rfl, by decide, by decide⟩
      · exact ⟨_, fun N => fIxA_l (n := 3) rfl, by decide, by decide⟩
      · exact ⟨_, fun N => fIxA_l (n := 4) rfl, by decide, by decide⟩
    have h1 := hd.fr f2
    simp_arith [ez]
    refine draw_wp h1.ext.hm (by omega) (by omega) fun v N2 hv f3 => ?_
    simp_arith []
    refine draw_wp (h1.fr f3).ext.hm (by decide) (by decide) fun w2 N3 hw2 f4 => ?_
    have h3 := (h1.fr f3).fr f4
    obtain ⟨u, eu, u0, u1⟩ : ∃ u : Int, (∀ N : Mem, fIxA (.lst [.int 0, .int 1, .int (v : Nat), .int z]) (.int (w2 : Nat)) N = .ok (.int u) N) ∧ 0 ≤ u ∧ u ≤ 1000000000000000000000000000000 := by
      rcases (show w2 = 0 ∨ w2 = 1 ∨ w2 = 2 ∨ w2 = 3 by omega) with rfl | rfl | rfl | rfl
      · exact ⟨_, fun N => fIxA_l (n := 0) rfl, by decide, by decide⟩
      · exact ⟨_, fun N => fIxA_l (n := 1) rfl, by decide, by decide⟩
      · exact ⟨_, fun N => fIxA_l (n := 2) rfl, by omega, by omega⟩
      · exact ⟨_, fun N => fIxA_l (n := 3) rfl, by omega, by omega⟩
    simp_arith [eu, dput_new h3.at' yl (by omega)]
    refine ⟨fu g y u, ⟨h3.ext.set h3.k0 h3.lo low_dK, List.getElem?_set_self (List.getElem?_eq_some_iff.mp h3.at').1, h3.lo, h3.k0⟩, fun q hq => ?_, _, by first | rfl | trivial⟩
    by_cases e2 : q = y
    · rw [e2, fu_same]; omega
    · rw [fu_ne e2]
      rcases List.mem_append.mp hq with w' | w'
      · exact hb q w'
      · exact absurd (List.mem_singleton.mp w') e2
  · subst hS
    have tl : (ns.take i).length ≤ 24 := by rw [List.length_take]; omega
    exact kk (ns.take i) g o5 N hd (nd.sublist (List.take_sublist _ _)) tl (fun y hy => List.mem_of_mem_take hy) hb
theorem runs_wp {sc o2 : Option D} {L : Nat} (r0 : Rs B M L []) (nd : ns.Nodup) (n24 : ns.length ≤ 24)
    (kk : ∀ (rs : List Rn) N, Rs B N L rs → (∀ j, j ≠ 0 → j ≠ L → N[j]? = M[j]?) → (∀ r ∈ rs, RO ns 10000000000000000000000 r) → rs.length ≤ 40 → P.nx (SA sc o2 ns K o5 (some (.ptr L))) N) :
    swp (t_law_4 (SA sc o2 ns K o5 (some (.ptr L))) M) P := by
  have p22 : ∀ M : Mem, fPow (.int 10) (.int 22) M = .ok (.int 10000000000000000000000) M := fun _ => rfl
  unfold t_law_4
  simp_arith [List.length_map]
  refine draw_wp r0.ext.hm (by decide) (by decide) fun i M1 hi f1 => ?_
  obtain ⟨m, em, m40, m2⟩ : ∃ m : Nat, (∀ N : Mem, fMul (.int (i : Nat)) (.int (if decide ((1 : Int) < (ns.length : Int)) = true then 1 else 0)) N = .ok (.int (m : Nat)) N) ∧ m ≤ 40 ∧ (0 < m → 2 ≤ ns.length) := by
    by_cases q : (1 : Int) < (ns.length : Int)
    · refine ⟨i, fun N => ?_, by omega, fun _ => by omega⟩
      rw [if_pos (decide_eq_true q)]
      have := mul_s (M := N) (i := i) (j := 1) (by omega) (by omega)
      rw [Nat.mul_one] at this
      exact this
    · refine ⟨0, fun N => ?_, by omega, fun z => absurd z (by omega)⟩
      rw [if_neg (by simp only [decide_eq_true_eq]; exact q)]
      have := mul_s (M := N) (i := i) (j := 0) (by omega) (by omega)
      rw [Nat.mul_zero] at this
      exact this
  simp_arith [List.length_map, em]
  rw [Kr1_n (by omega)]
  simp_arith []
  refine for_rng (fun j S' N => ∃ rs : List Rn, Rs B N L rs ∧ (∀ q, q ≠ 0 → q ≠ L → N[q]? = M[q]?) ∧ (∀ r ∈ rs, RO ns 10000000000000000000000 r) ∧ rs.length = j ∧ S' = SA sc o2 ns K o5 (some (.ptr L))) (fun _ _ _ _ => trivial) (fun j S' N hj ⟨rs, hr, oth, ho, hl, hS⟩ => ?_) ⟨[], r0.fr f1, fun q q0 _ => f1.at' q q0, (fun r hr => nomatch hr), rfl, rfl⟩ (fun S' N ⟨rs, hr, oth, ho, hl, hS⟩ => ?_)
  · subst hS
    unfold b_law_3
    simp_arith []
    refine two_wp hr.ext.hm nd (m2 (by omega)) (by omega) fun a c N1 ha hc ne g1 => ?_
    have h1 := hr.fr g1
    simp_arith []
    refine app_wp ?_
    simp_arith [Kap_at h1.at']
    refine count_wp h1.ext.hm fun c1 N2 c1a c1b g2 => ?_
    simp_arith [p22]
    refine draw_wp (h1.fr g2).ext.hm (by decide) (by decide) fun w N3 hw g3 => ?_
    refine pick3 (by omega) fun v hv => ?_
    have h3 := (h1.fr g2).fr g3
    simp_arith [Kap2_at h3.at' (show (rs.map eR).length < sizeLine by rw [List.length_map, sizeLine_eq]; omega)]
    refine ⟨rs ++ [(a, c, v)], h3.app (a, c, v), fun q q0 qL => ?_, fun r hr' => ?_, by rw [List.length_append, hl]; rfl, by first | rfl | trivial⟩
    · have e1 : N3[q]? = M[q]? := by rw [g3.at' q q0, g2.at' q q0, g1.at' q q0]; exact oth q q0 qL
      rw [← e1]
      exact List.getElem?_set_ne (fun z => qL z.symm)
    · rcases List.mem_append.mp hr' with w' | w'
      · exact ho r w'
      · rw [List.mem_singleton.mp w']
        exact ⟨ha, hc, ne, by show 1 ≤ v; omega, by show v ≤ _; omega⟩
  · subst hS
    exact kk rs N hr oth ho (by omega)
end
end QL
end
section
set_option Elab.async false
set_option linter.all false
set_option maxRecDepth 100000
set_option maxHeartbeats 4000000
set_option autoImplicit false
namespace QL
open PySem PySem.Spec L2
open Classical
local macro_rules | `(tactic| simp_arith [$as,*]) => `(tactic| simp only [wp_ok, wp_rz, sq_nx, sq_rt, sq_bk, sq_ct, sq_rz, sq_ez, swp_nx, swp_rt, swp_bk, swp_ct, swp_rz, wv_some, w_eVar, w_eC, w_aNil, Kc2_ap, Kc1_ap, w_aCons, Kcl_ap, w_eCall, w_eTup, Ktu_0, Ktu_1, Ktu_2, Ktu_3, Ktu_4, w_eLst, Kls_0, Kls_1, Kls_2, Kls_3, Kls_4, Kls_5, Kls_6, Kls_7, Kls_8, Kls_9, w_eLstP, Klp_0, Klp_1, Klp_2, K2c_ap, K2b_ap, w_e2, K3d_t, K3d_f, K3c_ap, K3b_ap, w_e3, KbV_ap, w_bV, Kno_ap, w_bNot, Kan_t, Kan_f, w_bAnd, Kor_t, Kor_f, w_bOr, w_bYes, Ken_ap, w_eNot, Kea_t, Kea_f, w_eAnd, Keo_t, Keo_f, w_eOr, Kei_t, Kei_f, w_eIf, w_kNil, w_kSeq, w_kRet, w_kRetN, Kdr_ap, w_kDrop, Kif_t, Kif_f, w_kIf, w_kBreak, w_kCont, Kas_ap, w_kAsg, w_gN, w_gNil, Kgc_ap, w_gCons, w_gTup2, w_gTup3, wls_some, Ks2_ap, Ks1_ap, w_gSubL, Kpr_ap, w_kPar, Kau_ap, wau_i, w_kAug, wdp_some, Kd3_ap, Kd2_ap, Kd1_ap, w_kDPut, Kg4_ap, wlk_i, Kg2_ap, Kg1_ap, w_kDAug, w_oNone, Kso_ap, w_oSome, Kl3_ap, Kl2_ap, Kl1_ap, w_eSl, Kfl_1, w_eFld, w_eMeth, Kis_l, w_iSeq, Kit_t, w_iTup, w_iRange1, Ken1_l, w_iEnum, Kfo_ap, w_kFor, turn_nx, turn_ct, turn_rt, turn_bk, turn_rz, turn_ez, Ktn_ap, w_eLc, w_eLcP, Klb_t, Klb_f, Klg_ap, pof_nx, pof_rt, List.getElem?_cons_succ, List.getElem?_cons_zero, List.set_cons_succ, List.set_cons_zero, kl_cons, kl_nil, List.map_cons, List.map_nil, List.replicate_succ, List.replicate_zero, List.cons_append, List.nil_append, Bool.not_true, Bool.not_false, fAdd_i, fSub_i, fLt_i, fLe_i, fGt_i, fGe_i, fEqA_i, fEqA_s, fNe_i, fNe_s, fNe_b, fSl_l, bLenA_l, bMax2_i, bMin2_i, bInt_b, bInt_i, fIs0_n, fNot0_n, fIs0_i, fNot0_i, fNot0_p, settle_self, settle_selfX, Kf1_ap, w_kFld, w_eFrz, w_eFrzT, KfT_d, KkT_ap, w_iKeysT, KkF_ap, w_iKeysF, Kmk_ap, w_eMake, w_kRz, Krz_1, pof_rz, pof_ez, ez_ap, tr_nx, tr_rt, Kge3_ap, Kge2_ap, w_eGet2, wgl_s, wgl_n, min_s, max_s, Kq3_ap, Kq2_ap, Kq1_ap, w_eSlP, w_gAll, KitT_ap, w_iItemsT, w_eSortIt, w_iItemsF, KiF_ap, w_eRev, w_eIsC, KiC_o, w_kForG, KoG_ap, w_iEnumG, w_eIsT, w_eOrL, w_ePop, w_eSc2, w_eDnewK, w_eFrzK, $as,*])
/-! XT7: data that can be shown (from FJ). -/
/-! ### data that can be shown -/
mutual
theorem okD_der (M : Mem) : ∀ (m n : Nat) (d : D), okD n d = true → derN M m d = d
  | 0, _, _, _ => rfl
  | _ + 1, _, .non, _ => rfl
  | _ + 1, _, .bl _, _ => rfl
  | _ + 1, _, .int _, _ => rfl
  | _ + 1, _, .str _, _ => rfl
  | m + 1, 0, .tup ds, h => by simp [okD] at h
  | m + 1, n + 1, .tup ds, h => by
    show D.tup (ds.map (derN M m)) = .tup ds
    rw [okDs_der M m n ds (by simpa [okD] using h)]
  | m + 1, 0, .lst ds, h => by simp [okD] at h
  | m + 1, n + 1, .lst ds, h => by
    show D.lst (ds.map (derN M m)) = .lst ds
    rw [okDs_der M m n ds (by simpa [okD] using h)]
  | _ + 1, _, .ptr _, h => by simp [okD] at h
  | _ + 1, _, .raw _, h => by simp [okD] at h
  | _ + 1, _, .dK _, h => by simp [okD] at h
  | _ + 1, _, .dT _, h => by simp [okD] at h
  | _ + 1, _, .obj _ _, h => by simp [okD] at h
  | _ + 1, _, .exc _ _ _ _, h => by simp [okD] at h
theorem okDs_der (M : Mem) : ∀ (m n : Nat) (ds : List D), okDs n ds = true → ds.map (derN M m) = ds
  | _, _, [], _ => rfl
  | m, n, d :: r, h => by
    simp only [okDs, Bool.and_eq_true] at h
    rw [List.map_cons, okD_der M m n d h.1, okDs_der M m n r h.2]
end
mutual
theorem shD_of : ∀ (n m : Nat) (d : D), okK n d = true → okD m d = true → shD d = true ∧ wtD d ≤ wtK d
  | _, _, .non, _, _ => ⟨rfl, by simp [wtD, wtK]⟩
  | _, _, .bl _, _, _ => ⟨rfl, by simp [wtD, wtK]⟩
  | _, _, .int i, h, _ => ⟨by simpa [okK, shD] using h, by simp [wtD, wtK]⟩
  | _, _, .str _, _, _ => ⟨rfl, by simp [wtD, wtK]⟩
  | 0, _, .tup ds, h, _ => by simp [okK] at h
  | n + 1, 0, .tup ds, _, h => by simp [okD] at h
  | n + 1, m + 1, .tup ds, h, h2 => by
    obtain ⟨a, b⟩ := shDs_of n m ds (by simpa [okK] using h) (by simpa [okD] using h2)
    exact ⟨by simpa [shD] using a, by simp only [wtD, wtK]; omega⟩
  | 0, _, .lst ds, h, _ => by simp [okK] at h
  | n + 1, 0, .lst ds, _, h => by simp [okD] at h
  | n + 1, m + 1, .lst ds, h, h2 => by
    obtain ⟨a, b⟩ := shDs_of n m ds (by simpa [okK] using h) (by simpa [okD] using h2)
    exact ⟨by simpa [shD] using a, by simp only [wtD, wtK]; omega⟩
  | _, _, .ptr _, _, h => by simp [okD] at h
  | _, _, .raw _, _, h => by simp [okD] at h
  | _, _, .dK _, _, h => by simp [okD] at h
  | _, _, .dT _, _, h => by simp [okD] at h
  | _, _, .obj _ _, _, h => by simp [okD] at h
  | _, _, .exc _ _ _ _, _, h => by simp [okD] at h
theorem shDs_of : ∀ (n m : Nat) (ds : List D), okKs n ds = true → okDs m ds = true → shDs ds = true ∧ wtDs ds ≤ wtKs ds
  | _, _, [], _, _ => ⟨rfl, Nat.le_refl _⟩
  | n, m, d :: r, h, h2 => by
    simp only [okKs, Bool.and_eq_true] at h
    simp only [okDs, Bool.and_eq_true] at h2
    obtain ⟨a, b⟩ := shD_of n m d h.1 h2.1
    obtain ⟨a2, b2⟩ := shDs_of n m r h.2 h2.2
    exact ⟨by simp only [shDs, a, a2, Bool.and_self], by simp only [wtDs, wtKs]; omega⟩
end
section
variable {M M1 N : Mem} {S : Sl} {Q : QQ D} {E : XQ} {P : Po} {d x y z : D} {k n w : Nat} {ds : List D} {xs ks ls al : List Str} {f g lf : Fn} {ps ud rs : List Rn} {a' : Str} {T : Tab} {r : Rn} {s : List Str × List Rn}
/-! ### runs and names that can be shown -/
theorem nm_sx' {x : Str} (h : NmOk x) : Sx 8 x := ⟨h.2.1, ok_iff.mpr fun c hc => by have := (h.2.2 c hc).2; omega⟩
theorem sh_runD (n : Nat) (hn : ∀ y ∈ ks, NmOk y) (h : RO ks 1000000000000000000000000 r) : Shw (n + 1) 255 (eR r) := (sh_tup (n := n) (w := 82) (ds := [.str r.1, .str r.2.1, .int r.2.2]) fun z hz => by
  simp only [List.mem_cons, List.not_mem_nil, or_false] at hz
  rcases hz with rfl | rfl | rfl
  · exact sh_str (nm_sx' (hn _ h.pa))
  · exact sh_str (nm_sx' (hn _ h.ot))
  · exact sh_int (b := 80) (by have := h.lo; have := h.hi; omega) (by decide)).mono (show (82 + 2) * 3 + 3 ≤ 255 by decide)
theorem sh_runs (n : Nat) (hn : ∀ y ∈ ks, NmOk y) (h : ∀ r ∈ rs, RO ks 1000000000000000000000000 r) (hl : rs.length ≤ 1000) : Shw (n + 2) 300000 (.lst (rs.map eR)) :=
  (sh_lst (n := n + 1) (w := 255) (ds := rs.map eR) fun d hd => by
    obtain ⟨r, hr, rfl⟩ := List.mem_map.mp hd
    exact sh_runD n hn (h r hr)).mono (by rw [List.length_map]; omega)
end
end QL
end
section
set_option Elab.async false
set_option linter.all false
set_option maxRecDepth 100000
set_option maxHeartbeats 4000000
set_option autoImplicit false
namespace QL
open PySem PySem.Spec L2
open Classical
local macro_rules | `(tactic| simp_arith [$as,*]) => `(tactic| simp only [wp_ok, wp_rz, sq_nx, sq_rt, sq_bk, sq_ct, sq_rz, sq_ez, swp_nx, swp_rt, swp_bk, swp_ct, swp_rz, wv_some, w_eVar, w_eC, w_aNil, Kc2_ap, Kc1_ap, w_aCons, Kcl_ap, w_eCall, w_eTup, Ktu_0, Ktu_1, Ktu_2, Ktu_3, Ktu_4, w_eLst, Kls_0, Kls_1, Kls_2, Kls_3, Kls_4, Kls_5, Kls_6, Kls_7, Kls_8, Kls_9, w_eLstP, Klp_0, Klp_1, Klp_2, K2c_ap, K2b_ap, w_e2, K3d_t, K3d_f, K3c_ap, K3b_ap, w_e3, KbV_ap, w_bV, Kno_ap, w_bNot, Kan_t, Kan_f, w_bAnd, Kor_t, Kor_f, w_bOr, w_bYes, Ken_ap, w_eNot, Kea_t, Kea_f, w_eAnd, Keo_t, Keo_f, w_eOr, Kei_t, Kei_f, w_eIf, w_kNil, w_kSeq, w_kRet, w_kRetN, Kdr_ap, w_kDrop, Kif_t, Kif_f, w_kIf, w_kBreak, w_kCont, Kas_ap, w_kAsg, w_gN, w_gNil, Kgc_ap, w_gCons, w_gTup2, w_gTup3, wls_some, Ks2_ap, Ks1_ap, w_gSubL, Kpr_ap, w_kPar, Kau_ap, wau_i, w_kAug, wdp_some, Kd3_ap, Kd2_ap, Kd1_ap, w_kDPut, Kg4_ap, wlk_i, Kg2_ap, Kg1_ap, w_kDAug, w_oNone, Kso_ap, w_oSome, Kl3_ap, Kl2_ap, Kl1_ap, w_eSl, Kfl_1, w_eFld, w_eMeth, Kis_l, w_iSeq, Kit_t, w_iTup, w_iRange1, Ken1_l, w_iEnum, Kfo_ap, w_kFor, turn_nx, turn_ct, turn_rt, turn_bk, turn_rz, turn_ez, Ktn_ap, w_eLc, w_eLcP, Klb_t, Klb_f, Klg_ap, pof_nx, pof_rt, List.getElem?_cons_succ, List.getElem?_cons_zero, List.set_cons_succ, List.set_cons_zero, kl_cons, kl_nil, List.map_cons, List.map_nil, List.replicate_succ, List.replicate_zero, List.cons_append, List.nil_append, Bool.not_true, Bool.not_false, fAdd_i, fSub_i, fLt_i, fLe_i, fGt_i, fGe_i, fEqA_i, fEqA_s, fNe_i, fNe_s, fNe_b, fSl_l, bLenA_l, bMax2_i, bMin2_i, bInt_b, bInt_i, fIs0_n, fNot0_n, fIs0_i, fNot0_i, fNot0_p, settle_self, settle_selfX, Kf1_ap, w_kFld, w_eFrz, w_eFrzT, KfT_d, KkT_ap, w_iKeysT, KkF_ap, w_iKeysF, Kmk_ap, w_eMake, w_kRz, Krz_1, pof_rz, pof_ez, ez_ap, tr_nx, tr_rt, Kge3_ap, Kge2_ap, w_eGet2, wgl_s, wgl_n, min_s, max_s, Kq3_ap, Kq2_ap, Kq1_ap, w_eSlP, w_gAll, KitT_ap, w_iItemsT, w_eSortIt, w_iItemsF, KiF_ap, w_eRev, w_eIsC, KiC_o, w_kForG, KoG_ap, w_iEnumG, w_eIsT, w_eOrL, w_ePop, w_eSc2, w_eDnewK, w_eFrzK, $as,*])
/-! XT8: the lot's table, texts shown alike. -/
open TL (numL numL_digits)
section
variable {M N B M1 : Mem} {S : Sl} {Q : QQ D} {E : XQ} {P : Po} {x y d : D} {n k K L X c w : Nat} {ns ls ts xs : List Str} {f g : Fn} {rs rs' : List Rn} {b : Int} {T U : Tab} {r : Rw} {rws : List Rw} {o1 o2 o3 o4 o5 o6 sc : Option D} {t1 t2 t3 : Str}
theorem alike_sh (sh : Shw 56 3000000 d) (sq : isSeqD d = true) (h1 : derN M 4 x = d) (h2 : derN M 4 y = d) : g__law_alike [x, y] M = .ok (.bl true) M := by
  obtain ⟨a1, a2⟩ := shD_of 56 60 _ sh.k sh.e
  have wt := sh.wt
  exact alike_eq h1 h2 sh.e a1 (by omega) sq
theorem txT_sx (h : ∀ r ∈ rws, RwOk w r) (w3 : w ≤ 3) (hl : rws.length ≤ 40) : Sx 4000 (txT rws) := by
  have l := joinL_len (S := ("\n" : Str).cps.toList) (b := 96) (ps := (rws.map rwT).map fun p => p.cps.toList) fun p hp => by
    obtain ⟨q, hq, rfl⟩ := List.mem_map.mp hp
    obtain ⟨r, hr, rfl⟩ := List.mem_map.mp hq
    rw [← len_cps]
    exact (h r hr).tlen w3
  rw [← join_tl, List.length_map, List.length_map] at l
  have e : ("\n" : Str).cps.toList.length = 1 := by decide +kernel
  rw [e] at l
  have l' : (txT rws).cps.toList.length ≤ rws.length * 97 := l
  refine ⟨by rw [len_cps]; omega, ok_iff.mpr fun c hc => ?_⟩
  have up : ∀ p ∈ rws.map rwT, ∀ c ∈ p.cps.toList, c < 1000 := fun p hp c hc => by
    obtain ⟨r, hr, rfl⟩ := List.mem_map.mp hp
    unfold rwT at hc
    rw [join_tl] at hc
    rcases joinL_mem hc with z | ⟨p, hp, z⟩
    · have z' : c ∈ [32] := z
      rw [List.mem_singleton.mp z']; decide
    · obtain ⟨q, hq, rfl⟩ := List.mem_map.mp hp
      rcases List.mem_append.mp hq with hq | hq
      · have := nm_sign ((h r hr).nm q hq) z
        omega
      · rw [List.mem_singleton.mp hq, nt_tl] at z
        have := (numL_digits _ c z).2
        omega
  unfold txT at hc
  rw [join_tl] at hc
  rcases joinL_mem hc with z | ⟨p, hp, z⟩
  · have z' : c ∈ [10] := z
    rw [List.mem_singleton.mp z']; decide
  · obtain ⟨q, hq, rfl⟩ := List.mem_map.mp hp
    have := up q hq c z
    omega
theorem sortB_lk (h : M[k]? = some (.lkK (TI ls f))) (hl : ls.length < 64) : bSortB [.ptr k] M = .ok (.lst ((srt ls).map D.str)) M := by
  have e0 : bSortS [.ptr k] M = .bad := by simp [bSortS, asL, h]
  have e : bSortD [.ptr k] M = .ok (.lst ((srt ls).map D.str)) M := by
    have a : asK M (.ptr k) = some (TI ls f) := by simp [asK, h]
    show (match asK M (.ptr k) with | some kvs => (match txts kvs with | some ns => if ns.length < 64 then Res.ok (D.lst ((srt ns).map D.str)) M else .bad | none => .bad) | none => .bad) = _
    rw [a]
    show (match txts (TI ls f) with | some ns => if ns.length < 64 then Res.ok (D.lst ((srt ns).map D.str)) M else .bad | none => .bad) = _
    rw [txts_ti]
    exact if_pos hl
  show orR (orR (bSortS [.ptr k] M) (bSortD [.ptr k] M)) _ = _
  rw [e0, e]
  rfl
theorem ix_lk {a : Str} (h : M[k]? = some (.lkK (TI ls f))) (ha : a ∈ ls) : fIxA (.ptr k) (.str a) M = .ok (.int (f a)) M := by
  have lo : look M (.ptr k) (.str a) = some (some (.int (f a))) := by
    have z : asK M (.ptr k) = some (TI ls f) := by simp [asK, h]
    have v : valD (TI ls f) (.inr a) = some (.int (f a)) := by
      show valD (TE ls fun x => D.int (f x)) (.inr a) = _
      rw [te_val ha]
    unfold look
    rw [z]
    show some (valD (TI ls f) (.inr a)) = _
    rw [v]
  have e : fDIx (.ptr k) (.str a) M = .ok (.int (f a)) M := by unfold fDIx; rw [lo]
  unfold fIxA or2
  rw [e]
  rfl
/-- the lot's table -/
theorem loOk_tab (nm : ∀ y ∈ ns, NmOk y) (ro : ∀ r ∈ rs, RO ns 10000000000000000000000 r) (hl : rs.length ≤ 40) : LoOk (tabG kS rs) := by
  have ok := tabG_ok (κ := kS) kS_or (by decide) ro
  have ln := tabG_len (κ := kS) rs
  refine ⟨ln.2, fun p hp => ⟨nm _ (ok p hp).1, nm _ (ok p hp).2.1⟩, fun p hp => ?_, fun p hp => ⟨(ok p hp).2.2.2.1, ?_⟩, by omega⟩
  · obtain ⟨r, hr, rfl⟩ := kS_norm p hp
    have ne := (ro r hr).ne
    show (minS r.1 r.2.1).cps.toList < (maxS r.1 r.2.1).cps.toList
    unfold minS maxS
    by_cases h : r.1.cps.toList < r.2.1.cps.toList
    · have h2 : ¬ r.2.1.cps.toList < r.1.cps.toList := fun z => absurd (List.lt_trans h z) (List.lt_irrefl _)
      rw [if_neg h2, if_pos h]
      exact h
    · by_cases h2 : r.2.1.cps.toList < r.1.cps.toList
      · rw [if_pos h2, if_neg h]
        exact h2
      · exact absurd (lt_total h h2) ne
  · have := (ok p hp).2.2.2.2
    have : (10000000000000000000000 : Int) * (rs.length : Int) ≤ 10000000000000000000000 * 40 := by omega
    omega
theorem lotR_alk (a : Alk T U) (nU : U.1.Nodup) : lotR U = lotR T := by
  unfold lotR
  have e : srt2 U.1 = srt2 T.1 := srt2_eq ((srt2_perm U.1).trans a.pm.symm.symm |>.trans (List.Perm.refl _)) (srt2_pw U.1)
  rw [e]
  refine List.map_congr_left fun p hp => ?_
  rw [a.vl p (srt2_mem hp)]
theorem LoOk.alk (h : LoOk T) (a : Alk T U) (nU : U.1.Nodup) : LoOk U := by
  have mm : ∀ p, p ∈ U.1 → p ∈ T.1 := fun p hp => a.pm.mem_iff.mp hp
  exact ⟨nU, fun p hp => h.nm p (mm p hp), fun p hp => h.lt p (mm p hp), fun p hp => by rw [a.vl p (mm p hp)]; exact h.one p (mm p hp), by rw [a.pm.length_eq]; exact h.len⟩
theorem purR_perm (pm : ls.Perm ts) : purR ls f = purR ts f := by
  unfold purR
  rw [srt_of_perm pm]
end
end QL
end
section
set_option Elab.async false
set_option linter.all false
set_option maxRecDepth 100000
set_option maxHeartbeats 4000000
set_option autoImplicit false
namespace QL
open PySem PySem.Spec L2
open Classical
local macro_rules | `(tactic| simp_arith [$as,*]) => `(tactic| simp only [wp_ok, wp_rz, sq_nx, sq_rt, sq_bk, sq_ct, sq_rz, sq_ez, swp_nx, swp_rt, swp_bk, swp_ct, swp_rz, wv_some, w_eVar, w_eC, w_aNil, Kc2_ap, Kc1_ap, w_aCons, Kcl_ap, w_eCall, w_eTup, Ktu_0, Ktu_1, Ktu_2, Ktu_3, Ktu_4, w_eLst, Kls_0, Kls_1, Kls_2, Kls_3, Kls_4, Kls_5, Kls_6, Kls_7, Kls_8, Kls_9, w_eLstP, Klp_0, Klp_1, Klp_2, K2c_ap, K2b_ap, w_e2, K3d_t, K3d_f, K3c_ap, K3b_ap, w_e3, KbV_ap, w_bV, Kno_ap, w_bNot, Kan_t, Kan_f, w_bAnd, Kor_t, Kor_f, w_bOr, w_bYes, Ken_ap, w_eNot, Kea_t, Kea_f, w_eAnd, Keo_t, Keo_f, w_eOr, Kei_t, Kei_f, w_eIf, w_kNil, w_kSeq, w_kRet, w_kRetN, Kdr_ap, w_kDrop, Kif_t, Kif_f, w_kIf, w_kBreak, w_kCont, Kas_ap, w_kAsg, w_gN, w_gNil, Kgc_ap, w_gCons, w_gTup2, w_gTup3, wls_some, Ks2_ap, Ks1_ap, w_gSubL, Kpr_ap, w_kPar, Kau_ap, wau_i, w_kAug, wdp_some, Kd3_ap, Kd2_ap, Kd1_ap, w_kDPut, Kg4_ap, wlk_i, Kg2_ap, Kg1_ap, w_kDAug, w_oNone, Kso_ap, w_oSome, Kl3_ap, Kl2_ap, Kl1_ap, w_eSl, Kfl_1, w_eFld, w_eMeth, Kis_l, w_iSeq, Kit_t, w_iTup, w_iRange1, Ken1_l, w_iEnum, Kfo_ap, w_kFor, turn_nx, turn_ct, turn_rt, turn_bk, turn_rz, turn_ez, Ktn_ap, w_eLc, w_eLcP, Klb_t, Klb_f, Klg_ap, pof_nx, pof_rt, List.getElem?_cons_succ, List.getElem?_cons_zero, List.set_cons_succ, List.set_cons_zero, kl_cons, kl_nil, List.map_cons, List.map_nil, List.replicate_succ, List.replicate_zero, List.cons_append, List.nil_append, Bool.not_true, Bool.not_false, fAdd_i, fSub_i, fLt_i, fLe_i, fGt_i, fGe_i, fEqA_i, fEqA_s, fNe_i, fNe_s, fNe_b, fSl_l, bLenA_l, bMax2_i, bMin2_i, bInt_b, bInt_i, fIs0_n, fNot0_n, fIs0_i, fNot0_i, fNot0_p, settle_self, settle_selfX, Kf1_ap, w_kFld, w_eFrz, w_eFrzT, KfT_d, KkT_ap, w_iKeysT, KkF_ap, w_iKeysF, Kmk_ap, w_eMake, w_kRz, Krz_1, pof_rz, pof_ez, ez_ap, tr_nx, tr_rt, Kge3_ap, Kge2_ap, w_eGet2, wgl_s, wgl_n, min_s, max_s, Kq3_ap, Kq2_ap, Kq1_ap, w_eSlP, w_gAll, KitT_ap, w_iItemsT, w_eSortIt, w_iItemsF, KiF_ap, w_eRev, w_eIsC, KiC_o, w_kForG, KoG_ap, w_iEnumG, w_eIsT, w_eOrL, w_ePop, w_eSc2, w_eDnewK, w_eFrzK, $as,*])
/-! XT9: the law. -/
section
variable {M N B M1 : Mem} {S : Sl} {Q : QQ D} {E : XQ} {P : Po} {x y d : D} {n k K L X c w : Nat} {ns ls ts xs : List Str} {f g : Fn} {rs rs' : List Rn} {b : Int} {T U : Tab} {o2 o4 o5 sc : Option D} {t1 t2 t3 : Str}
/-- the slots while texts are read -/
abbrev SD (sc o2 : Option D) (ns : List Str) (K : Nat) (o5 : Option D) (L : Nat) (T : Tab) (ls : List Str) (g : Fn) (U : Tab) (X : Nat) (ss : List Str) (o16 o17 : Option D) : Sl :=
  [sc, some (.ptr 0), o2, some (.lst (ns.map D.str)), some (.ptr K), o5, none, some (.ptr L), none, none, none, some (.dT (TT T)), some (PO ls g), some (LO U), some (.ptr X), some (.lst (ss.map D.str)), o16, o17, none, none]
theorem get_srt2 (p : PR) : Tab.get (srt2 T.1, T.2) p = T.get p := by
  unfold Tab.get
  have : p ∈ srt2 T.1 ↔ p ∈ T.1 := (srt2_perm T.1).mem_iff
  by_cases h : p ∈ T.1
  · rw [if_pos h, if_pos (this.mpr h)]
  · rw [if_neg h, if_neg fun z => h (this.mp z)]
theorem alk_get (a : Alk T U) (p : PR) : U.get p = T.get p := by
  unfold Tab.get
  by_cases h : p ∈ T.1
  · rw [if_pos h, if_pos (a.pm.mem_iff.mpr h), a.vl p h]
  · rw [if_neg h, if_neg fun z => h (a.pm.mem_iff.mp z)]
/-- texts read, twice -/
theorem reads_wp (hM : HM M) (pu : Pu ts g) (pm : ls.Perm ts) (lo : LoOk T) (al : Alk T U) (nU : U.1.Nodup) (nm : ∀ y ∈ ns, NmOk y) (ro : ∀ r ∈ rs, RO ns 10000000000000000000000 r) (rl : rs.length ≤ 40)
    (atX : M[X]? = some (.lst ([txT (purR ts g), txT (lotR T), txT (runR rs)].map D.str))) (atL : M[L]? = some (.lst (rs.map eR))) (L0 : L ≠ 0) (X0 : X ≠ 0) {ss : List Str}
    (kk : ∀ N, HM N → P.nx (SD sc o2 ns K o5 L T ls g U X ss none none) N) : swp (t_law_11 (SD sc o2 ns K o5 L T ls g U X ss none none) M) P := by
  have ro24 : ∀ r ∈ rs, RO ns 1000000000000000000000000 r := fun r hr => (ro r hr).mono (by decide)
  have loU := lo.alk al nU
  unfold t_law_11
  simp_arith []
  rw [show (2 : Int) = ((2 : Nat) : Int) from rfl, Kr1_n (by omega)]
  simp_arith []
  refine for_rng (fun j S' N => HM N ∧ N[X]? = some (.lst ([txT (purR ts g), txT (lotR T), txT (runR rs)].map D.str)) ∧ N[L]? = some (.lst (rs.map eR)) ∧ S' = SD sc o2 ns K o5 L T ls g U X ss none none) (fun _ _ _ _ => trivial) (fun j S' N hj ⟨hN, aX, aL, hS⟩ => ?_) ⟨hM, atX, atL, rfl⟩ (fun S' N ⟨hN, aX, aL, hS⟩ => ?_)
  · subst hS
    have x0 : fIxA (.ptr X) (.int 0) N = .ok (.str (txT (purR ts g))) N := ix_l (n := 0) (asL_p aX) rfl
    have x1 : fIxA (.ptr X) (.int 1) N = .ok (.str (txT (lotR T))) N := ix_l (n := 1) (asL_p aX) rfl
    have x2 : ∀ N : Mem, N[X]? = some (.lst ([txT (purR ts g), txT (lotR T), txT (runR rs)].map D.str)) → fIxA (.ptr X) (.int 2) N = .ok (.str (txT (runR rs))) N := fun N aX => ix_l (n := 2) (asL_p aX) rfl
    unfold b_law_10 t_law_8
    simp_arith []
    refine eqO_wp ?_
    simp_arith [x0, read_purses_eq (M := N) hN.low pu]
    refine ⟨⟨_, rfl⟩, rfl, true, N, peq_same (((srt_perm ts).trans pm.symm)) (fun _ _ => rfl), ?_⟩
    simp_arith []
    refine eqO_wp ?_
    simp_arith [x1, read_lot_eq (M := N) hN.low lo]
    refine ⟨⟨_, rfl⟩, rfl, true, N, lot_eq_same (T := (srt2 T.1, T.2)) (U := U) ((srt2_perm T.1).nodup_iff.mpr lo.nd) nU (fun p hp => (lo.one p (srt2_mem hp)).1) (fun p hp => (loU.one p hp).1) (fun p => by rw [get_srt2, alk_get al]), ?_⟩
    have rt := read_tt_eq (M := N) nm ro24 (by omega)
    have hN2 : HM (N ++ [MO.lst (rs.map eR)]) := hN.app fun n => lowDs_map (fun _ => rfl) rs
    have lX := (List.getElem?_eq_some_iff.mp aX).1
    have lL := (List.getElem?_eq_some_iff.mp aL).1
    have aX2 : (N ++ [MO.lst (rs.map eR)])[X]? = some (.lst ([txT (purR ts g), txT (lotR T), txT (runR rs)].map D.str)) := by rw [List.getElem?_append_left lX]; exact aX
    have aL2 : (N ++ [MO.lst (rs.map eR)])[L]? = some (.lst (rs.map eR)) := by rw [List.getElem?_append_left lL]; exact aL
    have aN : (N ++ [MO.lst (rs.map eR)])[N.length]? = some (.lst (rs.map eR)) := g0 (l := [])
    simp_arith [x2 N aX, rt]
    unfold t_law_9
    have sh : Shw 56 3000000 (.lst (rs.map eR)) := (sh_runs 54 nm ro24 (by omega)).mono (by omega)
    have dr : ∀ q : Nat, (N ++ [MO.lst (rs.map eR)])[q]? = some (.lst (rs.map eR)) → derN (N ++ [MO.lst (rs.map eR)]) 4 (.ptr q) = .lst (rs.map eR) := fun q h => by
      have h1 : derN (N ++ [MO.lst (rs.map eR)]) 4 (.ptr q) = .lst ((rs.map eR).map (derN (N ++ [MO.lst (rs.map eR)]) 3)) := by simp [derN, h]
      have z : D.lst ((rs.map eR).map (derN (N ++ [MO.lst (rs.map eR)]) 3)) = .lst (rs.map eR) := okD_der _ 4 _ (.lst (rs.map eR)) sh.e
      rw [h1, z]
    have ak := alike_sh (M := N ++ [MO.lst (rs.map eR)]) sh rfl (dr N.length aN) (dr L aL2)
    have st := show_tt_eq (M := N ++ [MO.lst (rs.map eR)]) (x := .ptr N.length) (asL_p aN) nm ro24 (by omega)
    have ne : ∀ N : Mem, fNe (.str (txT (runR rs))) (.str (txT (runR rs))) N = .ok (.bl false) N := fun N => by
      rw [fNe_s, decide_eq_true rfl]
      rfl
    simp_arith [ak, st, x2 _ aX2, ne]
    refine app_wp ?_
    simp_arith [Kap_at aN, Kap2_at aN (show (rs.map eR).length < sizeLine by rw [List.length_map, sizeLine_eq]; omega)]
    have pos := hN.pos
    refine ⟨hN2.set (by omega) fun n => ?_, ?_, ?_, by first | rfl | trivial⟩
    · have e : rs.map eR ++ [D.non] = (rs.map some ++ [none]).map fun o : Option Rn => match o with | some r => eR r | none => D.non := by
        rw [List.map_append, List.map_map]
        rfl
      rw [e]
      exact lowDs_map (fun o => by cases o <;> rfl) _
    · rw [List.getElem?_set_ne (by omega)]; exact aX2
    · rw [List.getElem?_set_ne (by omega)]; exact aL2
  · subst hS
    exact kk N hN
noncomputable def rest9 : TF := kSeq (kAsg (eCall g__law_table (aCons (eVar 7) aNil)) (gN 11))
    (kSeq (kPar 12 13 (aCons (eCall g__law_purses (aCons (eVar 1) (aCons (eFrzK (eVar 4)) aNil))) (aCons (eCall g__law_lot (aCons (eVar 1) (aCons (eVar 7) aNil))) aNil)))
    (kSeq (kAsg (eLstP (aCons (eCall g__law_lines (aCons e_law_5 aNil)) aNil)) (gN 14))
    (kSeq (kDrop (eApp (eVar 14) (eCall g__law_lines (aCons e_law_6 aNil))))
    (kSeq (kDrop (eApp (eVar 14) (eCall g__law_lines (aCons (eVar 7) aNil))))
    (kSeq (kAsg (eLst (aCons (eCall g_show_purses (aCons (eVar 12) aNil)) (aCons (eCall g_show_lot (aCons (eVar 13) aNil)) (aCons (eCall g_show_timetable (aCons (eVar 7) aNil)) aNil)))) (gN 15))
    (kSeq t_law_7
    t_law_11))))))
theorem b12_r : b_law_12 = kSeq (kAsg (eCall g__law_mixed_names (aCons (eVar 1) aNil)) (gN 3))
    (kSeq (kAsg eDnewKP (gN 4))
    (kSeq t_law_2
    (kSeq (kAsg (eLstP aNil) (gN 7))
    (kSeq t_law_4 rest9)))) := rfl
theorem rest_wp (hM : HM M) (nd : ts.Nodup) (t24 : ts.length ≤ 24) (tin : ∀ y ∈ ts, y ∈ ns) (gb : ∀ y ∈ ts, 0 ≤ g y ∧ g y ≤ 1000000000000000000000000000000) (nm : ∀ y ∈ ns, NmOk y)
    (atK : M[K]? = some (.dK (TI ts g))) (K0 : K ≠ 0) (atL : M[L]? = some (.lst (rs.map eR))) (L0 : L ≠ 0) (ro : ∀ r ∈ rs, RO ns 10000000000000000000000 r) (rl : rs.length ≤ 40)
    (kk : ∀ T ls g U X ss N, HM N → P.nx (SD sc o2 ns K o5 L T ls g U X ss none none) N) : swp (rest9 (SA sc o2 ns K o5 (some (.ptr L))) M) P := by
  have pu : Pu ts g := ⟨nd, t24, fun y hy => nm y (tin y hy), fun y hy => (gb y hy).1, fun y hy => (gb y hy).2⟩
  have lo := loOk_tab nm ro rl
  have ro24 : ∀ r ∈ rs, RO ns 1000000000000000000000000 r := fun r hr => (ro r hr).mono (by decide)
  have KL : K ≠ L := by
    rintro rfl
    rw [atK] at atL
    cases atL
  have tl := (tabG_len (κ := kS) rs).1
  unfold rest9
  have te := table_eq (M := M) (x := .ptr L) (rs := rs) hM.low (asL_p atL) (by omega)
  simp_arith [te, KzK_p atK]
  have h1 : HM (M.set K (.lkK (TI ts g))) := hM.set K0 fun n => (show lowK n (TI ts g) = true from lowK_ti)
  have k1 : (M.set K (.lkK (TI ts g)))[K]? = some (.lkK (TI ts g)) := List.getElem?_set_self (List.getElem?_eq_some_iff.mp atK).1
  have l1 : (M.set K (.lkK (TI ts g)))[L]? = some (.lst (rs.map eR)) := by rw [List.getElem?_set_ne KL]; exact atL
  generalize M.set K (.lkK (TI ts g)) = M0 at h1 k1 l1
  refine purses_wp h1 pu fun ls M1 pm f1 => ?_
  have l2 : M1[L]? = some (.lst (rs.map eR)) := by rw [f1.at' L L0]; exact l1
  have k2 : M1[K]? = some (.lkK (TI ts g)) := by rw [f1.at' K K0]; exact k1
  simp_arith []
  refine lot_wp f1.hm l2 L0 ro nm (by omega) (by decide) (by decide) fun rs' M2 al f2 => ?_
  have l3 : M2[L]? = some (.lst (rs.map eR)) := by rw [f2.at' L L0]; exact l2
  have k3 : M2[K]? = some (.lkK (TI ts g)) := by rw [f2.at' K K0]; exact k2
  have nU := (tabG_len (κ := kS) rs').2
  have loU := lo.alk al nU
  generalize tabG kS rs' = U at al nU loU
  simp_arith []
  unfold e_law_5
  simp_arith [sortB_lk k3 (show ts.length < 64 by omega)]
  refine Klc_map D.str (pe g) (xs := srt ts) (small' (by rw [srt_len]; omega)) (fun y hy => ?_) ?_
  · simp_arith [ix_lk k3 (srt_mem.mp hy), pe, and_self]
  rw [show (srt ts).map (pe g) = PL (srt ts) g from rfl, purR_D pu.lo, lines_show]
  simp_arith [show_eq (M := M2) (x := .lst ((purR ts g).map rwD)) (w := 2) asL_l (purR_ok pu) (by decide) (purR_len pu)]
  have hm2 := f2.hm
  have pos := hm2.pos
  have e3 : HM (M2 ++ [MO.lst [.str (txT (purR ts g))]]) := hm2.app fun n => rfl
  have x3 : (M2 ++ [MO.lst [.str (txT (purR ts g))]])[M2.length]? = some (.lst [.str (txT (purR ts g))]) := g0 (l := [])
  have l4 : (M2 ++ [MO.lst [.str (txT (purR ts g))]])[L]? = some (.lst (rs.map eR)) := by rw [List.getElem?_append_left (List.getElem?_eq_some_iff.mp l3).1]; exact l3
  have LX : L ≠ M2.length := by have := (List.getElem?_eq_some_iff.mp l3).1; omega
  generalize M2 ++ [MO.lst [.str (txT (purR ts g))]] = M3 at e3 x3 l4
  generalize M2.length = X at x3 LX pos
  refine app_wp ?_
  unfold e_law_6
  simp_arith [Kap_at x3, tt_sort]
  refine Klc_map kT2 (fun p => eR (p.1, p.2, (tabG kS rs).2 p)) (xs := srt2 (tabG kS rs).1) (small' (by rw [srt2_len]; omega)) (fun p hp => ?_) ?_
  · have ix : ∀ M, fIxA (.dT (TT (tabG kS rs))) (.tup [.str p.1, .str p.2]) M = .ok (.int ((tabG kS rs).2 p)) M := fun M => tt_ixF (srt2_mem hp)
    rw [show kT2 p = D.tup [.str p.1, .str p.2] from rfl]
    simp_arith [ix, eR, and_self]
  rw [← lotR_E lo]
  simp_arith [show_eq (M := M3) (x := .lst ((lotR (tabG kS rs)).map rwD)) (w := 3) asL_l (lotR_ok lo) (by decide) (lotR_len lo), Kap2_at x3 (show ([D.str (txT (purR ts g))] : List D).length < sizeLine by rw [sizeLine_eq]; simp)]
  have e4 : HM (M3.set X (.lst [.str (txT (purR ts g)), .str (txT (lotR (tabG kS rs)))])) := e3.set (by omega) fun n => rfl
  have x4 : (M3.set X (.lst [.str (txT (purR ts g)), .str (txT (lotR (tabG kS rs)))]))[X]? = some (.lst [.str (txT (purR ts g)), .str (txT (lotR (tabG kS rs)))]) := List.getElem?_set_self (List.getElem?_eq_some_iff.mp x3).1
  have l5 : (M3.set X (.lst [.str (txT (purR ts g)), .str (txT (lotR (tabG kS rs)))]))[L]? = some (.lst (rs.map eR)) := by rw [List.getElem?_set_ne (fun z => LX z.symm)]; exact l4
  generalize M3.set X (.lst [.str (txT (purR ts g)), .str (txT (lotR (tabG kS rs)))]) = M4 at e4 x4 l5
  refine app_wp ?_
  have sr : g_show_rows [.ptr L] M4 = .ok (.str (txT (runR rs))) M4 := show_eq (M := M4) (x := .ptr L) (w := 3) (by rw [asL_p l5, runR_D fun r hr => by have := (ro r hr).lo; omega]) (runR_ok nm ro24) (by decide) (by unfold runR; rw [List.length_map]; omega)
  simp_arith [Kap_at x4, sr, Kap2_at x4 (show ([D.str (txT (purR ts g)), D.str (txT (lotR (tabG kS rs)))] : List D).length < sizeLine by rw [sizeLine_eq]; simp)]
  have e5 : HM (M4.set X (.lst [.str (txT (purR ts g)), .str (txT (lotR (tabG kS rs))), .str (txT (runR rs))])) := e4.set (by omega) fun n => rfl
  have x5 : (M4.set X (.lst [.str (txT (purR ts g)), .str (txT (lotR (tabG kS rs))), .str (txT (runR rs))]))[X]? = some (.lst ([txT (purR ts g), txT (lotR (tabG kS rs)), txT (runR rs)].map D.str)) := List.getElem?_set_self (List.getElem?_eq_some_iff.mp x4).1
  have l6 : (M4.set X (.lst [.str (txT (purR ts g)), .str (txT (lotR (tabG kS rs))), .str (txT (runR rs))]))[L]? = some (.lst (rs.map eR)) := by rw [List.getElem?_set_ne (fun z => LX z.symm)]; exact l5
  generalize M4.set X (.lst [.str (txT (purR ts g)), .str (txT (lotR (tabG kS rs))), .str (txT (runR rs))]) = M5 at e5 x5 l6
  have puL : Pu ls g := ⟨pm.nodup_iff.mpr nd, by rw [pm.length_eq]; exact t24, fun y hy => pu.nm y (pm.mem_iff.mp hy), fun y hy => pu.lo y (pm.mem_iff.mp hy), fun y hy => pu.hi y (pm.mem_iff.mp hy)⟩
  have sp : g_show_purses [PO ls g] M5 = .ok (.str (txT (purR ts g))) M5 := by
    rw [← purR_perm pm]
    exact show_purses_eq puL
  have sl : g_show_lot [LO U] M5 = .ok (.str (txT (lotR (tabG kS rs)))) M5 := by
    rw [← lotR_alk al nU]
    exact show_lot_eq loU
  have st : g_show_timetable [.ptr L] M5 = .ok (.str (txT (runR rs))) M5 := show_tt_eq (M := M5) (x := .ptr L) (asL_p l6) nm ro24 (by omega)
  simp_arith [sp, sl, st]
  have s1 : Sx 4000 (txT (purR ts g)) := txT_sx (purR_ok pu) (by decide) (by unfold purR; rw [List.length_map, srt_len]; omega)
  have s2 : Sx 4000 (txT (lotR (tabG kS rs))) := txT_sx (lotR_ok lo) (by decide) (by unfold lotR; rw [List.length_map, srt2_len]; omega)
  have s3 : Sx 4000 (txT (runR rs)) := txT_sx (runR_ok nm ro24) (by decide) (by unfold runR; rw [List.length_map]; omega)
  have sh : Shw 56 3000000 (.lst [.str (txT (purR ts g)), .str (txT (lotR (tabG kS rs))), .str (txT (runR rs))]) := (sh_lst (n := 55) (w := 40002) (ds := [.str (txT (purR ts g)), .str (txT (lotR (tabG kS rs))), .str (txT (runR rs))]) fun z hz => by
    simp only [List.mem_cons, List.not_mem_nil, or_false] at hz
    rcases hz with rfl | rfl | rfl
    · exact sh_str s1
    · exact sh_str s2
    · exact sh_str s3).mono (by simp only [List.length_cons, List.length_nil]; omega)
  have d1 : derN M5 4 (.lst [.str (txT (purR ts g)), .str (txT (lotR (tabG kS rs))), .str (txT (runR rs))]) = .lst [.str (txT (purR ts g)), .str (txT (lotR (tabG kS rs))), .str (txT (runR rs))] := okD_der _ 4 _ _ sh.e
  have d2 : derN M5 4 (.ptr X) = .lst [.str (txT (purR ts g)), .str (txT (lotR (tabG kS rs))), .str (txT (runR rs))] := by
    have h1 : derN M5 4 (.ptr X) = .lst (([txT (purR ts g), txT (lotR (tabG kS rs)), txT (runR rs)].map D.str).map (derN M5 3)) := by simp [derN, x5]
    rw [h1]
    exact d1
  have ak := alike_sh (M := M5) sh rfl d1 d2
  unfold t_law_7
  simp_arith [ak]
  exact reads_wp (ss := [txT (purR ts g), txT (lotR (tabG kS rs)), txT (runR rs)]) e5 pu pm lo al nU nm ro rl x5 l6 L0 (by omega) fun N hN => kk _ _ _ _ _ _ N hN
theorem turn_wp (h : HM M) (kk : ∀ ns K o5 L T ls g U X ss N, HM N → P.nx (SD sc o2 ns K o5 L T ls g U X ss none none) N) :
    swp (b_law_12 [sc, some (.ptr 0), o2, none, none, none, none, none, none, none, none, none, none, none, none, none, none, none, none, none] M) P := by
  rw [b12_r]
  simp_arith []
  refine mixed_wp h fun ns M1 nd n24 nm f1 => ?_
  have nk : ∀ S (M : Mem), eDnewKP S M = .ok (.ptr M.length) (M ++ [MO.dK (TI [] fun _ => 0)]) := fun _ _ => rfl
  simp_arith [nk]
  have pos := f1.hm.pos
  have d0 : Ds M1 (M1 ++ [MO.dK (TI [] fun _ => 0)]) M1.length [] (fun _ => 0) := ⟨Ext.app f1.hm low_dK, g0 (l := []), Nat.le_refl _, by omega⟩
  refine tick_wp d0 nd n24 fun ts g o5 N hd ndT t24 tin gb => ?_
  simp_arith []
  have lN := (List.getElem?_eq_some_iff.mp hd.at').1
  have r0 : Rs N (N ++ [MO.lst []]) N.length [] := ⟨Ext.app hd.ext.hm fun _ => rfl, g0 (l := []), Nat.le_refl _, by omega⟩
  refine runs_wp r0 nd n24 fun rs N2 hr oth ro rl => ?_
  have aK : N2[M1.length]? = some (.dK (TI ts g)) := by
    rw [oth M1.length (by omega) (by omega), List.getElem?_append_left lN]
    exact hd.at'
  exact rest_wp hr.ext.hm ndT t24 tin gb nm aK (by omega) hr.at' (by omega) ro rl fun T ls g U X ss N hN => kk _ _ _ _ _ _ _ _ _ _ N hN
theorem lenO_eq {cl : Str} {gg : List D → Mem → Res D} {e : EF} {n : Int} (h1 : e S M = .ok d M) (h2 : (isObj cl d M).isSome = true) (h3 : gg [d] M = .ok (.int n) M) (h4 : 0 ≤ n ∧ n < 2 ^ 63) : eLenO cl gg e S M = .ok (.int n) M := by
  obtain ⟨fs, e2⟩ := Option.isSome_iff_exists.mp h2
  unfold eLenO
  simp only [h1, Res.bind, e2, h3]
  rw [if_pos h4]
theorem main_law (ns0 : List Int) (h : ns0.length ≤ 63) : ∃ M, g_law [.lst (ns0.map D.int)] [] = .ok (.bl true) M := by
  have em : srt ([] : List Str) = [] := List.length_eq_zero_iff.mp srt_len
  have p0 : purR [] (fun _ => 0) = [] := by unfold purR; rw [em]; rfl
  have em2 : srt2 (T0 : Tab).1 = [] := List.length_eq_zero_iff.mp srt2_len
  have l0 : lotR T0 = [] := by unfold lotR; rw [em2]; rfl
  have pu : Pu [] (fun _ => 0) := ⟨List.nodup_nil, Nat.zero_le _, (fun x hx => nomatch hx), (fun x hx => nomatch hx), (fun x hx => nomatch hx)⟩
  have lo : LoOk T0 := ⟨List.nodup_nil, (fun p hp => nomatch hp), (fun p hp => nomatch hp), (fun p hp => nomatch hp), Nat.zero_le _⟩
  refine main_of ?_
  unfold g_law
  refine run_wp rfl ?_
  unfold t_law
  simp_arith []
  refine hand_wp ns0 h fun M hM => ?_
  simp_arith []
  unfold t_law_13
  simp_arith []
  rw [show (3 : Int) = ((3 : Nat) : Int) from rfl, Kr1_n (by omega)]
  simp_arith []
  refine for_rng (fun n S' M' => S' = [some (.lst (ns0.map D.int)), some (.ptr 0), none, none, none, none, none, none, none, none, none, none, none, none, none, none, none, none, none, none] ∧ HM M') (fun _ _ _ _ => trivial) (fun n S' M' hn' ⟨hS, hA⟩ => ?_) ⟨rfl, hM⟩ (fun S' M' ⟨hS, hA⟩ => ?_)
  · subst hS
    simp_arith []
    refine turn_wp hA fun ns K o5 L T ls g U X ss N hN => ?_
    simp_arith []
    exact ⟨by first | rfl | trivial, hN⟩
  · subst hS
    have rp : g_read_purses [.str ""] M' = .ok (PO (srt []) fun _ => 0) M' := by
      have := read_purses_eq (M := M') hA.low pu
      rw [p0, txT_nil] at this
      exact this
    have rl : g_read_lot [.str ""] M' = .ok (LO (srt2 (T0 : Tab).1, T0.2)) M' := by
      have := read_lot_eq (M := M') hA.low lo
      rw [l0, txT_nil] at this
      exact this
    have rt : g_read_timetable [.str ""] M' = .ok (.ptr M'.length) (M' ++ [.lst []]) := by
      have := read_tt_eq (M := M') (ns := []) (rs := []) (fun y hy => nomatch hy) (fun r hr => nomatch hr) (Nat.zero_le _)
      have e : runR [] = [] := rfl
      rw [e, txT_nil] at this
      exact this
    have g1 : g_Purses___len__ [PO (srt []) fun _ => 0] M' = .ok (.int 0) M' := by
      rw [em]
      refine wp_eq ?_
      unfold g_Purses___len__
      refine run_wp rfl ?_
      unfold t_Purses___len__
      have lk : bLenA [.dK (TI [] fun _ => 0)] M' = .ok (.int 0) M' := rfl
      simp_arith [lk, and_self]
    have g2 : g_Lot___len__ [LO (srt2 (T0 : Tab).1, T0.2)] M' = .ok (.int 0) M' := by
      rw [em2]
      refine wp_eq ?_
      unfold g_Lot___len__
      refine run_wp rfl ?_
      unfold t_Lot___len__
      have lk : bLenT [.dT (TT ([], T0.2))] M' = .ok (.int 0) M' := rfl
      simp_arith [lk, and_self]
    have q1 : ∀ S, eLenO "Purses" g_Purses___len__ (eCall g_read_purses (aCons (eC (.str "")) aNil)) S M' = .ok (.int 0) M' := fun S => lenO_eq (d := PO (srt []) fun _ => 0) (by
      show g_read_purses [.str ""] M' = _
      exact rp) rfl g1 (by decide)
    have q2 : ∀ S, eLenO "Lot" g_Lot___len__ (eCall g_read_lot (aCons (eC (.str "")) aNil)) S M' = .ok (.int 0) M' := fun S => lenO_eq (d := LO (srt2 (T0 : Tab).1, T0.2)) (by
      show g_read_lot [.str ""] M' = _
      exact rl) rfl g2 (by decide)
    have q3 : fEqA (.ptr M'.length) (.lst []) (M' ++ [.lst []]) = .ok (.bl ([] : List D).isEmpty) (M' ++ [.lst []]) := eq_nil_l (asL_p (g0 (l := [])))
    simp_arith [q1, q2, rt, q3, decide_true]
    exact settle_true
end
end QL
end
section
set_option Elab.async false
set_option linter.all false
set_option maxRecDepth 100000
set_option maxHeartbeats 4000000
set_option autoImplicit false
namespace QL
open PySem PySem.Spec L2
open Classical
theorem ok_law {P : Program} {w : World} {K : PySem.W.Frag} {mg : Str → Option Value} {base : Heap} {f : Addr} {fd : FuncData} (T : Tx K mg) (F : Fun K "law" "law" s_law f fd) : FnOkG P w K mg base 8 f fd ["_law_script"] (spF ⟨K, mg⟩ g_law) :=
  okQ F sc_law rfl fun cdv A outer s H E hr => (qs_cons (qset (i := 1) sc_law.nd rfl (qcall (q__law_hand T) (hr.mono (by decide)) takesQ (by rfl) (qa_cons (qv 0) qa_nil)))
    (qs_cons (qfor (vs := [2, 3, 4, 5, 6, 7, 8, 9, 10, 11, 12, 13, 14, 15, 16, 17]) passesQ rfl (qi_range1 (by rfl) T.b_range (qa_cons qint qa_nil)) (qg_name (i := 2) sc_law.nd rfl) (qs_cons (qset (i := 3) sc_law.nd rfl (qcall (q__law_mixed_names T) (hr.mono (by decide)) takesQ (by rfl) (qa_cons (qv 1) qa_nil)))
    (qs_cons (qset (i := 4) sc_law.nd rfl qdnewKP)
    (qs_cons (qfor (vs := [6]) passesQ rfl (qi_list (qsl (qv 3) qo_none (qo_some (qcall (q__law_draw T) (hr.mono (by decide)) takesQ (by rfl) (qa_cons (qv 1) (qa_cons (qadd (qlenA (by rfl) T.b_len (qa_cons (qv 3) qa_nil)) qint) qa_nil)))))) (qg_name (i := 5) sc_law.nd rfl) (qs_cons (qset (i := 6) sc_law.nd rfl (qixA hr.units (qlst (qa_cons qint (qa_cons (qpow qint qint) (qa_cons (qpow qint qint) (qa_cons (qpow qint qint) (qa_cons (qpow qint qint) qa_nil)))))) (qcall (q__law_draw T) (hr.mono (by decide)) takesQ (by rfl) (qa_cons (qv 1) (qa_cons qint qa_nil)))))
    (qs_one (qdput (un1 hr.units) (qv 4) (qv 5) (qixA hr.units (qlst (qa_cons qint (qa_cons qint (qa_cons (qcall (q__law_draw T) (hr.mono (by decide)) takesQ (by rfl) (qa_cons (qv 1) (qa_cons (qv 6) qa_nil))) (qa_cons (qv 6) qa_nil))))) (qcall (q__law_draw T) (hr.mono (by decide)) takesQ (by rfl) (qa_cons (qv 1) (qa_cons qint qa_nil))))))))
    (qs_cons (qset (i := 7) sc_law.nd rfl (qlstP qa_nil))
    (qs_cons (qfor (vs := [8, 9, 10]) passesQ rfl (qi_range1 (by rfl) T.b_range (qa_cons (qmul (qcall (q__law_draw T) (hr.mono (by decide)) takesQ (by rfl) (qa_cons (qv 1) (qa_cons qint qa_nil))) (qint1 (by rfl) T.b_int (qa_cons (qgt (qlenA (by rfl) T.b_len (qa_cons (qv 3) qa_nil)) qint) qa_nil))) qa_nil)) (qg_name (i := 8) sc_law.nd rfl) (qs_cons (qasg (qcall (q__law_two T) (hr.mono (by decide)) takesQ (by rfl) (qa_cons (qv 1) (qa_cons (qv 3) qa_nil))) (qg_tup rfl (qgs_cons (qg_name (i := 9) sc_law.nd rfl) (qgs_cons (qg_name (i := 10) sc_law.nd rfl) qgs_nil))))
    (qs_one (qexpr (qapp (qv 7) (qtup (qa_cons (qv 9) (qa_cons (qv 10) (qa_cons (qixA hr.units (qlst (qa_cons qint (qa_cons (qcall (q__law_count T) (hr.mono (by decide)) takesQ (by rfl) (qa_cons (qv 1) qa_nil)) (qa_cons (qpow qint qint) qa_nil)))) (qcall (q__law_draw T) (hr.mono (by decide)) takesQ (by rfl) (qa_cons (qv 1) (qa_cons qint qa_nil)))) qa_nil)))))))))
    (qs_cons (qset (i := 11) sc_law.nd rfl (qcall (q__law_table T) (hr.mono (by decide)) takesQ (by rfl) (qa_cons (qv 7) qa_nil)))
    (qs_cons (qpar (i := 12) (j := 13) rfl sc_law.nd rfl rfl (by decide) (qa_cons (qcall (q__law_purses T) (hr.mono (by decide)) takesQ (by rfl) (qa_cons (qv 1) (qa_cons (qfrzK (qv 4)) qa_nil))) (qa_cons (qcall (q__law_lot T) (hr.mono (by decide)) takesQ (by rfl) (qa_cons (qv 1) (qa_cons (qv 7) qa_nil))) qa_nil)))
    (qs_cons (qset (i := 14) sc_law.nd rfl (qlstP (qa_cons (qcall (q__law_lines T) (hr.mono (by decide)) takesQ (by rfl) (qa_cons (qlc (own := [("_law_name", 5)]) rfl sc_law.nd (qi_list (qsortB rfl (by rfl) T.b_sorted (qa_cons (qv 4) qa_nil))) (blkOk_by (own := [("_law_name", 5)]) (N := N_law) (sc := defScope s_law) (by decide +kernel)) (fun _ _ _ _ _ => (qv_name (i := 5) sc_law.nd rfl (by decide))) (fun _ _ _ _ _ => qts_nil) (fun _ _ _ _ _ => (qtup (qa_cons (qv 5) (qa_cons (qixA hr.units (qv 4) (qv 5)) qa_nil))))) qa_nil)) qa_nil)))
    (qs_cons (qexpr (qapp (qv 14) (qcall (q__law_lines T) (hr.mono (by decide)) takesQ (by rfl) (qa_cons (qlc (own := [("_law_a", 18), ("_law_b", 19)]) rfl sc_law.nd (qi_list (qsortB rfl (by rfl) T.b_sorted (qa_cons (qv 11) qa_nil))) (blkOk_by (own := [("_law_a", 18), ("_law_b", 19)]) (N := N_law) (sc := defScope s_law) (by decide +kernel)) (fun _ _ _ _ _ => (qv_tup rfl (qvs_cons (qv_name (i := 18) sc_law.nd rfl (by decide)) (qvs_cons (qv_name (i := 19) sc_law.nd rfl (by decide)) qvs_nil)))) (fun _ _ _ _ _ => qts_nil) (fun _ _ _ _ _ => (qtup (qa_cons (qv 18) (qa_cons (qv 19) (qa_cons (qixA hr.units (qv 11) (qtup (qa_cons (qv 18) (qa_cons (qv 19) qa_nil)))) qa_nil)))))) qa_nil))))
    (qs_cons (qexpr (qapp (qv 14) (qcall (q__law_lines T) (hr.mono (by decide)) takesQ (by rfl) (qa_cons (qv 7) qa_nil))))
    (qs_cons (qset (i := 15) sc_law.nd rfl (qlst (qa_cons (qcall (q_show_purses T) (hr.mono (by decide)) takesQ (by rfl) (qa_cons (qv 12) qa_nil)) (qa_cons (qcall (q_show_lot T) (hr.mono (by decide)) takesQ (by rfl) (qa_cons (qv 13) qa_nil)) (qa_cons (qcall (q_show_timetable T) (hr.mono (by decide)) takesQ (by rfl) (qa_cons (qv 7) qa_nil)) qa_nil)))))
    (qs_cons (qif (qt_not (qt_val (qcall (q__law_alike T) (hr.mono (by decide)) takesQ (by rfl) (qa_cons (qv 15) (qa_cons (qv 14) qa_nil))))) (qs_one (qret qbl)) qs_nil)
    (qs_one (qfor (vs := [16, 17]) passesQ rfl (qi_range1 (by rfl) T.b_range (qa_cons qint qa_nil)) (qg_name (i := 16) sc_law.nd rfl) (qs_cons (qif (qt_w (qw_or (qt_not (teqO (q_Purses___eq__ T) T.m_Purses T.o_Purses (hr.mono (by decide)) (qcall (q_read_purses T) (hr.mono (by decide)) takesQ (by rfl) (qa_cons (qixA hr.units (qv 14) qint) qa_nil)) (qv 12))) (qw_or1 (qt_not (teqO (q_Lot___eq__ T) T.m_Lot T.o_Lot (hr.mono (by decide)) (qcall (q_read_lot T) (hr.mono (by decide)) takesQ (by rfl) (qa_cons (qixA hr.units (qv 14) qint) qa_nil)) (qv 13)))))) (qs_one (qret qbl)) qs_nil)
    (qs_cons (qset (i := 17) sc_law.nd rfl (qcall (q_read_timetable T) (hr.mono (by decide)) takesQ (by rfl) (qa_cons (qixA hr.units (qv 14) qint) qa_nil)))
    (qs_cons (qif (qt_w (qw_or (qt_not (qt_val (qcall (q__law_alike T) (hr.mono (by decide)) takesQ (by rfl) (qa_cons (qv 17) (qa_cons (qv 7) qa_nil))))) (qw_or1 (tNe hr.units (qcall (q_show_timetable T) (hr.mono (by decide)) takesQ (by rfl) (qa_cons (qv 17) qa_nil)) (qixA hr.units (qv 14) qint))))) (qs_one (qret qbl)) qs_nil)
    (qs_one (qexpr (qapp (qv 17) qnon)))))))))))))))))))))
    (qs_one (qret (q_and (qeqA hr.units (qlenO (q_Purses___len__ T) T.m_Purses (hr.mono (by decide)) (by rfl) T.b_len (qcall (q_read_purses T) (hr.mono (by decide)) takesQ (by rfl) (qa_cons qstr qa_nil))) qint) (q_and (qeqA hr.units (qlenO (q_Lot___len__ T) T.m_Lot (hr.mono (by decide)) (by rfl) T.b_len (qcall (q_read_lot T) (hr.mono (by decide)) takesQ (by rfl) (qa_cons qstr qa_nil))) qint) (q_one (qeqA hr.units (qcall (q_read_timetable T) (hr.mono (by decide)) takesQ (by rfl) (qa_cons qstr qa_nil)) (qlst qa_nil)))))))))
theorem all_mk {l : PySem.W.OpenLaw} {w : World} {K : PySem.W.Frag} {h : Heap} {mg : Str → Option Value} {fa f0 f1 f2 f3 f4 f5 f6 f7 f8 f9 f10 f11 f12 f13 f14 f15 f16 f17 f18 f19 f20 f21 f22 f23 f24 f25 f26 f27 f28 f29 f30 f31 f32 f33 f34 f35 f36 f37 f38 z_Lot z_Purses : Addr} (X : K.In h) (G : h.Ns mainGlobals mg) (hfa : mg "law" = some (.ref fa))
    {od0 an0 od1 an1 od2 an2 od3 an3 od4 an4 od5 an5 od6 an6 od7 an7 od8 an8 od9 an9 od10 an10 od11 an11 od12 an12 od13 an13 od14 an14 od15 an15 od16 an16 od17 an17 od18 an18 od19 an19 od20 an20 od21 an21 od22 an22 od23 an23 od24 an24 od25 an25 od26 an26 od27 an27 od28 an28 od29 an29 od30 an30 od31 an31 od32 an32 od33 an33 od34 an34 od35 an35 od36 an36 od37 an37 od38 an38 : Option Addr} {sl0 sl1 sl2 sl3 sl4 sl5 sl6 sl7 sl8 sl9 sl10 sl11 sl12 sl13 sl14 sl15 sl16 sl17 sl18 sl19 sl20 sl21 sl22 sl23 sl24 sl25 sl26 sl27 sl28 sl29 sl30 sl31 sl32 sl33 sl34 sl35 sl36 sl37 sl38 : Array (Option Value)} {oc0 kV0 dc0 pm0 cd0 ct0 oc1 kV1 dc1 pm1 cd1 ct1 oc2 kV2 dc2 pm2 cd2 ct2 oc3 kV3 dc3 pm3 cd3 ct3 oc4 kV4 dc4 pm4 cd4 ct4 oc5 kV5 dc5 pm5 cd5 ct5 oc6 kV6 dc6 pm6 cd6 ct6 oc7 kV7 dc7 pm7 cd7 ct7 oc8 kV8 dc8 pm8 cd8 ct8 oc9 kV9 dc9 pm9 cd9 ct9 oc10 kV10 dc10 pm10 cd10 ct10 oc11 kV11 dc11 pm11 cd11 ct11 oc12 kV12 dc12 pm12 cd12 ct12 oc13 kV13 dc13 pm13 cd13 ct13 oc14 kV14 dc14 pm14 cd14 ct14 oc15 kV15 dc15 pm15 cd15 ct15 oc16 kV16 dc16 pm16 cd16 ct16 oc17 kV17 dc17 pm17 cd17 ct17 oc18 kV18 dc18 pm18 cd18 ct18 oc19 kV19 dc19 pm19 cd19 ct19 oc20 kV20 dc20 pm20 cd20 ct20 oc21 kV21 dc21 pm21 cd21 ct21 oc22 kV22 dc22 pm22 cd22 ct22 oc23 kV23 dc23 pm23 cd23 ct23 oc24 kV24 dc24 pm24 cd24 ct24 oc25 kV25 dc25 pm25 cd25 ct25 oc26 kV26 dc26 pm26 cd26 ct26 oc27 kV27 dc27 pm27 cd27 ct27 oc28 kV28 dc28 pm28 cd28 ct28 oc29 kV29 dc29 pm29 cd29 ct29 oc30 kV30 dc30 pm30 cd30 ct30 oc31 kV31 dc31 pm31 cd31 ct31 oc32 kV32 dc32 pm32 cd32 ct32 oc33 kV33 dc33 pm33 cd33 ct33 oc34 kV34 dc34 pm34 cd34 ct34 oc35 kV35 dc35 pm35 cd35 ct35 oc36 kV36 dc36 pm36 cd36 ct36 oc37 kV37 dc37 pm37 cd37 ct37 oc38 kV38 dc38 pm38 cd38 ct38 : Value}
    (y_Lot : PySem.W.nsIn K mainGlobals "Lot" = some (some (.ref z_Lot)))
    (y_Purses : PySem.W.nsIn K mainGlobals "Purses" = some (some (.ref z_Purses)))
    (pg_Lot : PySem.W.plainGet K z_Lot Str.empty = true)
    (hd_Lot : PySem.W.hasDictIn K z_Lot = true)
    (po_Lot : PySem.W.plainOver K z_Lot = true)
    (sa_Lot : PySem.W.findIn K (.ref z_Lot) "__setattr__" = some (some (.builtin "object.__setattr__")))
    (mk_Lot : PySem.W.makesIn K z_Lot = true)
    (kc_Lot : PySem.W.keepIn K (.ref z_Lot) = true)
    (pg_Purses : PySem.W.plainGet K z_Purses Str.empty = true)
    (hd_Purses : PySem.W.hasDictIn K z_Purses = true)
    (po_Purses : PySem.W.plainOver K z_Purses = true)
    (sa_Purses : PySem.W.findIn K (.ref z_Purses) "__setattr__" = some (some (.builtin "object.__setattr__")))
    (mk_Purses : PySem.W.makesIn K z_Purses = true)
    (kc_Purses : PySem.W.keepIn K (.ref z_Purses) = true)
    (cl_Lot : PySem.W.findIn K (.ref z_Lot) "__class__" = some (some (.builtin "object.__class__")))
    (mr_Lot : PySem.W.mroIn K z_Lot (.type "object") = some true)
    (os_Lot : PySem.W.kitOne K (.ref z_Lot) (.ref z_Lot) = some true)
    (od_Lot : PySem.W.kitOne K (.type "dict") (.ref z_Lot) = some false)
    (ob_Lot : PySem.W.subIn K (.type "dict") (.ref z_Lot) = some false)
    (cl_Purses : PySem.W.findIn K (.ref z_Purses) "__class__" = some (some (.builtin "object.__class__")))
    (mr_Purses : PySem.W.mroIn K z_Purses (.type "object") = some true)
    (os_Purses : PySem.W.kitOne K (.ref z_Purses) (.ref z_Purses) = some true)
    (od_Purses : PySem.W.kitOne K (.type "dict") (.ref z_Purses) = some false)
    (ob_Purses : PySem.W.subIn K (.type "dict") (.ref z_Purses) = some false)
    (na_Lot_table : PySem.W.findIn K (.ref z_Lot) "table" = some none)
    (na_Purses_table : PySem.W.findIn K (.ref z_Purses) "table" = some none)
    (a0 : PySem.W.nsIn K mainGlobals "_law_hand" = some (some (.ref f0)))
    (l0 : K.lookup f0 = some ⟨oc0, od0, .func (PySem.W.fnOf "_law_hand" "_law_hand" (defArgs s__law_hand) (defBody s__law_hand) (defScope s__law_hand) .none kV0 dc0 pm0 an0 cd0 ct0), sl0⟩)
    (c0 : PySem.W.codeIn K cd0 "_law_hand" = true)
    (k0 : PySem.W.keepIn K (.ref f0) = true)
    (a1 : PySem.W.nsIn K mainGlobals "_law_step" = some (some (.ref f1)))
    (l1 : K.lookup f1 = some ⟨oc1, od1, .func (PySem.W.fnOf "_law_step" "_law_step" (defArgs s__law_step) (defBody s__law_step) (defScope s__law_step) .none kV1 dc1 pm1 an1 cd1 ct1), sl1⟩)
    (c1 : PySem.W.codeIn K cd1 "_law_step" = true)
    (k1 : PySem.W.keepIn K (.ref f1) = true)
    (a2 : PySem.W.nsIn K mainGlobals "_law_take" = some (some (.ref f2)))
    (l2 : K.lookup f2 = some ⟨oc2, od2, .func (PySem.W.fnOf "_law_take" "_law_take" (defArgs s__law_take) (defBody s__law_take) (defScope s__law_take) .none kV2 dc2 pm2 an2 cd2 ct2), sl2⟩)
    (c2 : PySem.W.codeIn K cd2 "_law_take" = true)
    (k2 : PySem.W.keepIn K (.ref f2) = true)
    (a3 : PySem.W.nsIn K mainGlobals "_law_draw" = some (some (.ref f3)))
    (l3 : K.lookup f3 = some ⟨oc3, od3, .func (PySem.W.fnOf "_law_draw" "_law_draw" (defArgs s__law_draw) (defBody s__law_draw) (defScope s__law_draw) .none kV3 dc3 pm3 an3 cd3 ct3), sl3⟩)
    (c3 : PySem.W.codeIn K cd3 "_law_draw" = true)
    (k3 : PySem.W.keepIn K (.ref f3) = true)
    (a4 : PySem.W.nsIn K mainGlobals "_law_names" = some (some (.ref f4)))
    (l4 : K.lookup f4 = some ⟨oc4, od4, .func (PySem.W.fnOf "_law_names" "_law_names" (defArgs s__law_names) (defBody s__law_names) (defScope s__law_names) .none kV4 dc4 pm4 an4 cd4 ct4), sl4⟩)
    (c4 : PySem.W.codeIn K cd4 "_law_names" = true)
    (k4 : PySem.W.keepIn K (.ref f4) = true)
    (a5 : PySem.W.nsIn K mainGlobals "_law_mixed_names" = some (some (.ref f5)))
    (l5 : K.lookup f5 = some ⟨oc5, od5, .func (PySem.W.fnOf "_law_mixed_names" "_law_mixed_names" (defArgs s__law_mixed_names) (defBody s__law_mixed_names) (defScope s__law_mixed_names) .none kV5 dc5 pm5 an5 cd5 ct5), sl5⟩)
    (c5 : PySem.W.codeIn K cd5 "_law_mixed_names" = true)
    (k5 : PySem.W.keepIn K (.ref f5) = true)
    (a6 : PySem.W.nsIn K mainGlobals "_law_table" = some (some (.ref f6)))
    (l6 : K.lookup f6 = some ⟨oc6, od6, .func (PySem.W.fnOf "_law_table" "_law_table" (defArgs s__law_table) (defBody s__law_table) (defScope s__law_table) .none kV6 dc6 pm6 an6 cd6 ct6), sl6⟩)
    (c6 : PySem.W.codeIn K cd6 "_law_table" = true)
    (k6 : PySem.W.keepIn K (.ref f6) = true)
    (a7 : PySem.W.findIn K (.ref z_Purses) "__len__" = some (some (.ref f7)))
    (i7 : PySem.W.isFn K (.ref f7) = true)
    (l7 : K.lookup f7 = some ⟨oc7, od7, .func (PySem.W.fnOf "__len__" "Purses.__len__" (defArgs s_Purses___len__) (defBody s_Purses___len__) (defScope s_Purses___len__) .none kV7 dc7 pm7 an7 cd7 ct7), sl7⟩)
    (c7 : PySem.W.codeIn K cd7 "Purses.__len__" = true)
    (k7 : PySem.W.keepIn K (.ref f7) = true)
    (a8 : PySem.W.findIn K (.ref z_Lot) "__len__" = some (some (.ref f8)))
    (i8 : PySem.W.isFn K (.ref f8) = true)
    (l8 : K.lookup f8 = some ⟨oc8, od8, .func (PySem.W.fnOf "__len__" "Lot.__len__" (defArgs s_Lot___len__) (defBody s_Lot___len__) (defScope s_Lot___len__) .none kV8 dc8 pm8 an8 cd8 ct8), sl8⟩)
    (c8 : PySem.W.codeIn K cd8 "Lot.__len__" = true)
    (k8 : PySem.W.keepIn K (.ref f8) = true)
    (a9 : PySem.W.nsIn K mainGlobals "_law_two" = some (some (.ref f9)))
    (l9 : K.lookup f9 = some ⟨oc9, od9, .func (PySem.W.fnOf "_law_two" "_law_two" (defArgs s__law_two) (defBody s__law_two) (defScope s__law_two) .none kV9 dc9 pm9 an9 cd9 ct9), sl9⟩)
    (c9 : PySem.W.codeIn K cd9 "_law_two" = true)
    (k9 : PySem.W.keepIn K (.ref f9) = true)
    (a10 : PySem.W.nsIn K mainGlobals "is_name" = some (some (.ref f10)))
    (l10 : K.lookup f10 = some ⟨oc10, od10, .func (PySem.W.fnOf "is_name" "is_name" (defArgs s_is_name) (defBody s_is_name) (defScope s_is_name) .none kV10 dc10 pm10 an10 cd10 ct10), sl10⟩)
    (c10 : PySem.W.codeIn K cd10 "is_name" = true)
    (k10 : PySem.W.keepIn K (.ref f10) = true)
    (a11 : PySem.W.nsIn K mainGlobals "is_integer" = some (some (.ref f11)))
    (l11 : K.lookup f11 = some ⟨oc11, od11, .func (PySem.W.fnOf "is_integer" "is_integer" (defArgs s_is_integer) (defBody s_is_integer) (defScope s_is_integer) .none kV11 dc11 pm11 an11 cd11 ct11), sl11⟩)
    (c11 : PySem.W.codeIn K cd11 "is_integer" = true)
    (k11 : PySem.W.keepIn K (.ref f11) = true)
    (a12 : PySem.W.nsIn K mainGlobals "is_amount" = some (some (.ref f12)))
    (l12 : K.lookup f12 = some ⟨oc12, od12, .func (PySem.W.fnOf "is_amount" "is_amount" (defArgs s_is_amount) (defBody s_is_amount) (defScope s_is_amount) .none kV12 dc12 pm12 an12 cd12 ct12), sl12⟩)
    (c12 : PySem.W.codeIn K cd12 "is_amount" = true)
    (k12 : PySem.W.keepIn K (.ref f12) = true)
    (a13 : PySem.W.findIn K (.ref z_Purses) "__init__" = some (some (.ref f13)))
    (i13 : PySem.W.isFn K (.ref f13) = true)
    (l13 : K.lookup f13 = some ⟨oc13, od13, .func (PySem.W.fnOf "__init__" "Purses.__init__" (defArgs s_Purses___init__) (defBody s_Purses___init__) (defScope s_Purses___init__) .none kV13 dc13 pm13 an13 cd13 ct13), sl13⟩)
    (c13 : PySem.W.codeIn K cd13 "Purses.__init__" = true)
    (k13 : PySem.W.keepIn K (.ref f13) = true)
    (a14 : PySem.W.nsIn K mainGlobals "_law_shuffled" = some (some (.ref f14)))
    (l14 : K.lookup f14 = some ⟨oc14, od14, .func (PySem.W.fnOf "_law_shuffled" "_law_shuffled" (defArgs s__law_shuffled) (defBody s__law_shuffled) (defScope s__law_shuffled) .none kV14 dc14 pm14 an14 cd14 ct14), sl14⟩)
    (c14 : PySem.W.codeIn K cd14 "_law_shuffled" = true)
    (k14 : PySem.W.keepIn K (.ref f14) = true)
    (a15 : PySem.W.nsIn K mainGlobals "_law_purses" = some (some (.ref f15)))
    (l15 : K.lookup f15 = some ⟨oc15, od15, .func (PySem.W.fnOf "_law_purses" "_law_purses" (defArgs s__law_purses) (defBody s__law_purses) (defScope s__law_purses) .none kV15 dc15 pm15 an15 cd15 ct15), sl15⟩)
    (c15 : PySem.W.codeIn K cd15 "_law_purses" = true)
    (k15 : PySem.W.keepIn K (.ref f15) = true)
    (a16 : PySem.W.nsIn K mainGlobals "pair_of" = some (some (.ref f16)))
    (l16 : K.lookup f16 = some ⟨oc16, od16, .func (PySem.W.fnOf "pair_of" "pair_of" (defArgs s_pair_of) (defBody s_pair_of) (defScope s_pair_of) .none kV16 dc16 pm16 an16 cd16 ct16), sl16⟩)
    (c16 : PySem.W.codeIn K cd16 "pair_of" = true)
    (k16 : PySem.W.keepIn K (.ref f16) = true)
    (a17 : PySem.W.nsIn K mainGlobals "is_count" = some (some (.ref f17)))
    (l17 : K.lookup f17 = some ⟨oc17, od17, .func (PySem.W.fnOf "is_count" "is_count" (defArgs s_is_count) (defBody s_is_count) (defScope s_is_count) .none kV17 dc17 pm17 an17 cd17 ct17), sl17⟩)
    (c17 : PySem.W.codeIn K cd17 "is_count" = true)
    (k17 : PySem.W.keepIn K (.ref f17) = true)
    (a18 : PySem.W.nsIn K mainGlobals "is_run" = some (some (.ref f18)))
    (l18 : K.lookup f18 = some ⟨oc18, od18, .func (PySem.W.fnOf "is_run" "is_run" (defArgs s_is_run) (defBody s_is_run) (defScope s_is_run) .none kV18 dc18 pm18 an18 cd18 ct18), sl18⟩)
    (c18 : PySem.W.codeIn K cd18 "is_run" = true)
    (k18 : PySem.W.keepIn K (.ref f18) = true)
    (a19 : PySem.W.findIn K (.ref z_Lot) "__init__" = some (some (.ref f19)))
    (i19 : PySem.W.isFn K (.ref f19) = true)
    (l19 : K.lookup f19 = some ⟨oc19, od19, .func (PySem.W.fnOf "__init__" "Lot.__init__" (defArgs s_Lot___init__) (defBody s_Lot___init__) (defScope s_Lot___init__) .none kV19 dc19 pm19 an19 cd19 ct19), sl19⟩)
    (c19 : PySem.W.codeIn K cd19 "Lot.__init__" = true)
    (k19 : PySem.W.keepIn K (.ref f19) = true)
    (a20 : PySem.W.nsIn K mainGlobals "_law_lot" = some (some (.ref f20)))
    (l20 : K.lookup f20 = some ⟨oc20, od20, .func (PySem.W.fnOf "_law_lot" "_law_lot" (defArgs s__law_lot) (defBody s__law_lot) (defScope s__law_lot) .none kV20 dc20 pm20 an20 cd20 ct20), sl20⟩)
    (c20 : PySem.W.codeIn K cd20 "_law_lot" = true)
    (k20 : PySem.W.keepIn K (.ref f20) = true)
    (a21 : PySem.W.nsIn K mainGlobals "_law_lines" = some (some (.ref f21)))
    (l21 : K.lookup f21 = some ⟨oc21, od21, .func (PySem.W.fnOf "_law_lines" "_law_lines" (defArgs s__law_lines) (defBody s__law_lines) (defScope s__law_lines) .none kV21 dc21 pm21 an21 cd21 ct21), sl21⟩)
    (c21 : PySem.W.codeIn K cd21 "_law_lines" = true)
    (k21 : PySem.W.keepIn K (.ref f21) = true)
    (a22 : PySem.W.nsIn K mainGlobals "show_rows" = some (some (.ref f22)))
    (l22 : K.lookup f22 = some ⟨oc22, od22, .func (PySem.W.fnOf "show_rows" "show_rows" (defArgs s_show_rows) (defBody s_show_rows) (defScope s_show_rows) .none kV22 dc22 pm22 an22 cd22 ct22), sl22⟩)
    (c22 : PySem.W.codeIn K cd22 "show_rows" = true)
    (k22 : PySem.W.keepIn K (.ref f22) = true)
    (a23 : PySem.W.findIn K (.ref z_Purses) "entries" = some (some (.ref f23)))
    (i23 : PySem.W.isFn K (.ref f23) = true)
    (l23 : K.lookup f23 = some ⟨oc23, od23, .func (PySem.W.fnOf "entries" "Purses.entries" (defArgs s_Purses_entries) (defBody s_Purses_entries) (defScope s_Purses_entries) .none kV23 dc23 pm23 an23 cd23 ct23), sl23⟩)
    (c23 : PySem.W.codeIn K cd23 "Purses.entries" = true)
    (k23 : PySem.W.keepIn K (.ref f23) = true)
    (a24 : PySem.W.nsIn K mainGlobals "show_purses" = some (some (.ref f24)))
    (l24 : K.lookup f24 = some ⟨oc24, od24, .func (PySem.W.fnOf "show_purses" "show_purses" (defArgs s_show_purses) (defBody s_show_purses) (defScope s_show_purses) .none kV24 dc24 pm24 an24 cd24 ct24), sl24⟩)
    (c24 : PySem.W.codeIn K cd24 "show_purses" = true)
    (k24 : PySem.W.keepIn K (.ref f24) = true)
    (a25 : PySem.W.findIn K (.ref z_Lot) "entries" = some (some (.ref f25)))
    (i25 : PySem.W.isFn K (.ref f25) = true)
    (l25 : K.lookup f25 = some ⟨oc25, od25, .func (PySem.W.fnOf "entries" "Lot.entries" (defArgs s_Lot_entries) (defBody s_Lot_entries) (defScope s_Lot_entries) .none kV25 dc25 pm25 an25 cd25 ct25), sl25⟩)
    (c25 : PySem.W.codeIn K cd25 "Lot.entries" = true)
    (k25 : PySem.W.keepIn K (.ref f25) = true)
    (a26 : PySem.W.nsIn K mainGlobals "show_lot" = some (some (.ref f26)))
    (l26 : K.lookup f26 = some ⟨oc26, od26, .func (PySem.W.fnOf "show_lot" "show_lot" (defArgs s_show_lot) (defBody s_show_lot) (defScope s_show_lot) .none kV26 dc26 pm26 an26 cd26 ct26), sl26⟩)
    (c26 : PySem.W.codeIn K cd26 "show_lot" = true)
    (k26 : PySem.W.keepIn K (.ref f26) = true)
    (a27 : PySem.W.nsIn K mainGlobals "show_timetable" = some (some (.ref f27)))
    (l27 : K.lookup f27 = some ⟨oc27, od27, .func (PySem.W.fnOf "show_timetable" "show_timetable" (defArgs s_show_timetable) (defBody s_show_timetable) (defScope s_show_timetable) .none kV27 dc27 pm27 an27 cd27 ct27), sl27⟩)
    (c27 : PySem.W.codeIn K cd27 "show_timetable" = true)
    (k27 : PySem.W.keepIn K (.ref f27) = true)
    (a28 : PySem.W.nsIn K mainGlobals "_law_alike" = some (some (.ref f28)))
    (l28 : K.lookup f28 = some ⟨oc28, od28, .func (PySem.W.fnOf "_law_alike" "_law_alike" (defArgs s__law_alike) (defBody s__law_alike) (defScope s__law_alike) .none kV28 dc28 pm28 an28 cd28 ct28), sl28⟩)
    (c28 : PySem.W.codeIn K cd28 "_law_alike" = true)
    (k28 : PySem.W.keepIn K (.ref f28) = true)
    (a29 : PySem.W.nsIn K mainGlobals "read_number" = some (some (.ref f29)))
    (l29 : K.lookup f29 = some ⟨oc29, od29, .func (PySem.W.fnOf "read_number" "read_number" (defArgs s_read_number) (defBody s_read_number) (defScope s_read_number) .none kV29 dc29 pm29 an29 cd29 ct29), sl29⟩)
    (c29 : PySem.W.codeIn K cd29 "read_number" = true)
    (k29 : PySem.W.keepIn K (.ref f29) = true)
    (a30 : PySem.W.nsIn K mainGlobals "read_rows" = some (some (.ref f30)))
    (l30 : K.lookup f30 = some ⟨oc30, od30, .func (PySem.W.fnOf "read_rows" "read_rows" (defArgs s_read_rows) (defBody s_read_rows) (defScope s_read_rows) .none kV30 dc30 pm30 an30 cd30 ct30), sl30⟩)
    (c30 : PySem.W.codeIn K cd30 "read_rows" = true)
    (k30 : PySem.W.keepIn K (.ref f30) = true)
    (a31 : PySem.W.nsIn K mainGlobals "read_timetable" = some (some (.ref f31)))
    (l31 : K.lookup f31 = some ⟨oc31, od31, .func (PySem.W.fnOf "read_timetable" "read_timetable" (defArgs s_read_timetable) (defBody s_read_timetable) (defScope s_read_timetable) .none kV31 dc31 pm31 an31 cd31 ct31), sl31⟩)
    (c31 : PySem.W.codeIn K cd31 "read_timetable" = true)
    (k31 : PySem.W.keepIn K (.ref f31) = true)
    (a32 : PySem.W.nsIn K mainGlobals "read_purses" = some (some (.ref f32)))
    (l32 : K.lookup f32 = some ⟨oc32, od32, .func (PySem.W.fnOf "read_purses" "read_purses" (defArgs s_read_purses) (defBody s_read_purses) (defScope s_read_purses) .none kV32 dc32 pm32 an32 cd32 ct32), sl32⟩)
    (c32 : PySem.W.codeIn K cd32 "read_purses" = true)
    (k32 : PySem.W.keepIn K (.ref f32) = true)
    (a33 : PySem.W.nsIn K mainGlobals "with_table" = some (some (.ref f33)))
    (l33 : K.lookup f33 = some ⟨oc33, od33, .func (PySem.W.fnOf "with_table" "with_table" (defArgs s_with_table) (defBody s_with_table) (defScope s_with_table) .none kV33 dc33 pm33 an33 cd33 ct33), sl33⟩)
    (c33 : PySem.W.codeIn K cd33 "with_table" = true)
    (k33 : PySem.W.keepIn K (.ref f33) = true)
    (a34 : PySem.W.nsIn K mainGlobals "read_lot" = some (some (.ref f34)))
    (l34 : K.lookup f34 = some ⟨oc34, od34, .func (PySem.W.fnOf "read_lot" "read_lot" (defArgs s_read_lot) (defBody s_read_lot) (defScope s_read_lot) .none kV34 dc34 pm34 an34 cd34 ct34), sl34⟩)
    (c34 : PySem.W.codeIn K cd34 "read_lot" = true)
    (k34 : PySem.W.keepIn K (.ref f34) = true)
    (a35 : PySem.W.nsIn K mainGlobals "_law_count" = some (some (.ref f35)))
    (l35 : K.lookup f35 = some ⟨oc35, od35, .func (PySem.W.fnOf "_law_count" "_law_count" (defArgs s__law_count) (defBody s__law_count) (defScope s__law_count) .none kV35 dc35 pm35 an35 cd35 ct35), sl35⟩)
    (c35 : PySem.W.codeIn K cd35 "_law_count" = true)
    (k35 : PySem.W.keepIn K (.ref f35) = true)
    (a36 : PySem.W.findIn K (.ref z_Purses) "__eq__" = some (some (.ref f36)))
    (i36 : PySem.W.isFn K (.ref f36) = true)
    (l36 : K.lookup f36 = some ⟨oc36, od36, .func (PySem.W.fnOf "__eq__" "Purses.__eq__" (defArgs s_Purses___eq__) (defBody s_Purses___eq__) (defScope s_Purses___eq__) .none kV36 dc36 pm36 an36 cd36 ct36), sl36⟩)
    (c36 : PySem.W.codeIn K cd36 "Purses.__eq__" = true)
    (k36 : PySem.W.keepIn K (.ref f36) = true)
    (a37 : PySem.W.findIn K (.ref z_Lot) "__eq__" = some (some (.ref f37)))
    (i37 : PySem.W.isFn K (.ref f37) = true)
    (l37 : K.lookup f37 = some ⟨oc37, od37, .func (PySem.W.fnOf "__eq__" "Lot.__eq__" (defArgs s_Lot___eq__) (defBody s_Lot___eq__) (defScope s_Lot___eq__) .none kV37 dc37 pm37 an37 cd37 ct37), sl37⟩)
    (c37 : PySem.W.codeIn K cd37 "Lot.__eq__" = true)
    (k37 : PySem.W.keepIn K (.ref f37) = true)
    (a38 : PySem.W.nsIn K mainGlobals "law" = some (some (.ref f38)))
    (l38 : K.lookup f38 = some ⟨oc38, od38, .func (PySem.W.fnOf "law" "law" (defArgs s_law) (defBody s_law) (defScope s_law) .none kV38 dc38 pm38 an38 cd38 ct38), sl38⟩)
    (c38 : PySem.W.codeIn K cd38 "law" = true)
    (k38 : PySem.W.keepIn K (.ref f38) = true)
    (cg_ : PySem.W.specialIn K (.builtin "object.__class__") "__get__" = some (some (.builtin "getset_descriptor.__get__")))
    (tk_ : PySem.W.takesIn K (.builtin "object.__class__") = some true)
    {tk_DIGITS : Tok}
    (v_DIGITS : PySem.W.nsIn K mainGlobals "DIGITS" = some (some (.str "0123456789" tk_DIGITS)))
    {tk_LETTERS : Tok}
    (v_LETTERS : PySem.W.nsIn K mainGlobals "LETTERS" = some (some (.str "abcdefghijklmnopqrstuvwxyz" tk_LETTERS)))
    {tk_LONGEST_NAME : Tok}
    (v_LONGEST_NAME : PySem.W.nsIn K mainGlobals "LONGEST_NAME" = some (some (.int 8 tk_LONGEST_NAME)))
    {tk_MOST_DIGITS : Tok}
    (v_MOST_DIGITS : PySem.W.nsIn K mainGlobals "MOST_DIGITS" = some (some (.int 40 tk_MOST_DIGITS)))
    {tk_MOST_ITEMS : Tok}
    (v_MOST_ITEMS : PySem.W.nsIn K mainGlobals "MOST_ITEMS" = some (some (.int 500 tk_MOST_ITEMS)))
    {tk_MOST_PLAYERS : Tok}
    (v_MOST_PLAYERS : PySem.W.nsIn K mainGlobals "MOST_PLAYERS" = some (some (.int 24 tk_MOST_PLAYERS)))
    {tk_MOST_RUNS : Tok}
    (v_MOST_RUNS : PySem.W.nsIn K mainGlobals "MOST_RUNS" = some (some (.int 1000 tk_MOST_RUNS)))
    {tk_MOST_TICKETS : Tok}
    (v_MOST_TICKETS : PySem.W.nsIn K mainGlobals "MOST_TICKETS" = some (some (.int 1000000000000000000000000000000 tk_MOST_TICKETS)))
    {tk_MOST_TIMES : Tok}
    (v_MOST_TIMES : PySem.W.nsIn K mainGlobals "MOST_TIMES" = some (some (.int 1000000000000000000000000 tk_MOST_TIMES)))
    (z_abs : PySem.W.nsIn K mainGlobals "abs" = some none)
    (z_all : PySem.W.nsIn K mainGlobals "all" = some none)
    (z_bool : PySem.W.nsIn K mainGlobals "bool" = some none)
    (z_enumerate : PySem.W.nsIn K mainGlobals "enumerate" = some none)
    (z_int : PySem.W.nsIn K mainGlobals "int" = some none)
    (z_isinstance : PySem.W.nsIn K mainGlobals "isinstance" = some none)
    (z_len : PySem.W.nsIn K mainGlobals "len" = some none)
    (z_list : PySem.W.nsIn K mainGlobals "list" = some none)
    (z_max : PySem.W.nsIn K mainGlobals "max" = some none)
    (z_min : PySem.W.nsIn K mainGlobals "min" = some none)
    (z_range : PySem.W.nsIn K mainGlobals "range" = some none)
    (z_repr : PySem.W.nsIn K mainGlobals "repr" = some none)
    (z_sorted : PySem.W.nsIn K mainGlobals "sorted" = some none)
    (z_str : PySem.W.nsIn K mainGlobals "str" = some none)
    (z_tuple : PySem.W.nsIn K mainGlobals "tuple" = some none)
    : ∃ fd : FuncData, (∀ (s : Shared) (v : Value), BindsTo s fd ⟨[v], []⟩ [("_law_script", v)]) ∧ ∀ base : Heap, K.In base → base.Ns mainGlobals mg → FnOkG l.prog w K mg base 8 fa fd ["_law_script"] (spF ⟨K, mg⟩ g_law) := by
  have e := hfa.symm.trans (PySem.W.mg_of X G a38)
  have e2 : f38 = fa := by cases e; rfl
  subst e2
  have h_Lot := PySem.W.mg_of X G y_Lot
  have g_Lot : adr mg "Lot" = z_Lot := adr_eq h_Lot
  have h_Purses := PySem.W.mg_of X G y_Purses
  have g_Purses : adr mg "Purses" = z_Purses := adr_eq h_Purses
  have T : Tx K mg := ⟨PySem.W.mg_none_of X G z_abs,
    PySem.W.mg_none_of X G z_all,
    PySem.W.mg_none_of X G z_bool,
    PySem.W.mg_none_of X G z_enumerate,
    PySem.W.mg_none_of X G z_int,
    PySem.W.mg_none_of X G z_isinstance,
    PySem.W.mg_none_of X G z_len,
    PySem.W.mg_none_of X G z_list,
    PySem.W.mg_none_of X G z_max,
    PySem.W.mg_none_of X G z_min,
    PySem.W.mg_none_of X G z_range,
    PySem.W.mg_none_of X G z_repr,
    PySem.W.mg_none_of X G z_sorted,
    PySem.W.mg_none_of X G z_str,
    PySem.W.mg_none_of X G z_tuple,
    ⟨_, PySem.W.mg_of X G v_DIGITS⟩,
    ⟨_, PySem.W.mg_of X G v_LETTERS⟩,
    ⟨_, PySem.W.mg_of X G v_LONGEST_NAME⟩,
    ⟨_, PySem.W.mg_of X G v_MOST_DIGITS⟩,
    ⟨_, PySem.W.mg_of X G v_MOST_ITEMS⟩,
    ⟨_, PySem.W.mg_of X G v_MOST_PLAYERS⟩,
    ⟨_, PySem.W.mg_of X G v_MOST_RUNS⟩,
    ⟨_, PySem.W.mg_of X G v_MOST_TICKETS⟩,
    ⟨_, PySem.W.mg_of X G v_MOST_TIMES⟩,
    adr_at h_Lot,
    adr_at h_Purses,
    by rw [g_Lot]; exact ⟨pg_Lot, hd_Lot, po_Lot, sa_Lot⟩,
    by rw [g_Purses]; exact ⟨pg_Purses, hd_Purses, po_Purses, sa_Purses⟩,
    by rw [g_Lot]; exact ⟨⟨pg_Lot, hd_Lot, po_Lot, sa_Lot⟩, cl_Lot, cg_, tk_, mr_Lot, os_Lot, od_Lot, ob_Lot⟩,
    by rw [g_Purses]; exact ⟨⟨pg_Purses, hd_Purses, po_Purses, sa_Purses⟩, cl_Purses, cg_, tk_, mr_Purses, os_Purses, od_Purses, ob_Purses⟩,
    by rw [g_Lot]; exact na_Lot_table,
    by rw [g_Purses]; exact na_Purses_table,
    ⟨f0, _, PySem.W.mg_of X G a0, fun_mk (st := s__law_hand) l0 c0 k0, (fun_mk (st := s__law_hand) l0 c0 k0).binds (ps := ["_law_script"]) fun _ _ _ _ _ _ us hl => match us, hl with | [_], _ => rfl⟩,
    ⟨f1, _, PySem.W.mg_of X G a1, fun_mk (st := s__law_step) l1 c1 k1, (fun_mk (st := s__law_step) l1 c1 k1).binds (ps := ["_law_hand_here"]) fun _ _ _ _ _ _ us hl => match us, hl with | [_], _ => rfl⟩,
    ⟨f2, _, PySem.W.mg_of X G a2, fun_mk (st := s__law_take) l2 c2 k2, (fun_mk (st := s__law_take) l2 c2 k2).binds (ps := ["_law_hand_here"]) fun _ _ _ _ _ _ us hl => match us, hl with | [_], _ => rfl⟩,
    ⟨f3, _, PySem.W.mg_of X G a3, fun_mk (st := s__law_draw) l3 c3 k3, (fun_mk (st := s__law_draw) l3 c3 k3).binds (ps := ["_law_hand_here", "_law_tally"]) fun _ _ _ _ _ _ us hl => match us, hl with | [_, _], _ => rfl⟩,
    ⟨f4, _, PySem.W.mg_of X G a4, fun_mk (st := s__law_names) l4 c4 k4, (fun_mk (st := s__law_names) l4 c4 k4).binds (ps := ["_law_hand_here", "_law_many"]) fun _ _ _ _ _ _ us hl => match us, hl with | [_, _], _ => rfl⟩,
    ⟨f5, _, PySem.W.mg_of X G a5, fun_mk (st := s__law_mixed_names) l5 c5 k5, (fun_mk (st := s__law_mixed_names) l5 c5 k5).binds (ps := ["_law_hand_here"]) fun _ _ _ _ _ _ us hl => match us, hl with | [_], _ => rfl⟩,
    ⟨f6, _, PySem.W.mg_of X G a6, fun_mk (st := s__law_table) l6 c6 k6, (fun_mk (st := s__law_table) l6 c6 k6).binds (ps := ["_law_items"]) fun _ _ _ _ _ _ us hl => match us, hl with | [_], _ => rfl⟩,
    ⟨z_Purses, f7, _, h_Purses, ⟨a7, i7, k7⟩, fun_mk (st := s_Purses___len__) l7 c7 k7, (fun_mk (st := s_Purses___len__) l7 c7 k7).binds (ps := ["self"]) fun _ _ _ _ _ _ us hl => match us, hl with | [_], _ => rfl⟩,
    ⟨z_Lot, f8, _, h_Lot, ⟨a8, i8, k8⟩, fun_mk (st := s_Lot___len__) l8 c8 k8, (fun_mk (st := s_Lot___len__) l8 c8 k8).binds (ps := ["self"]) fun _ _ _ _ _ _ us hl => match us, hl with | [_], _ => rfl⟩,
    ⟨f9, _, PySem.W.mg_of X G a9, fun_mk (st := s__law_two) l9 c9 k9, (fun_mk (st := s__law_two) l9 c9 k9).binds (ps := ["_law_hand_here", "_law_names_here"]) fun _ _ _ _ _ _ us hl => match us, hl with | [_, _], _ => rfl⟩,
    ⟨f10, _, PySem.W.mg_of X G a10, fun_mk (st := s_is_name) l10 c10 k10, (fun_mk (st := s_is_name) l10 c10 k10).binds (ps := ["thing"]) fun _ _ _ _ _ _ us hl => match us, hl with | [_], _ => rfl⟩,
    ⟨f11, _, PySem.W.mg_of X G a11, fun_mk (st := s_is_integer) l11 c11 k11, (fun_mk (st := s_is_integer) l11 c11 k11).binds (ps := ["thing"]) fun _ _ _ _ _ _ us hl => match us, hl with | [_], _ => rfl⟩,
    ⟨f12, _, PySem.W.mg_of X G a12, fun_mk (st := s_is_amount) l12 c12 k12, (fun_mk (st := s_is_amount) l12 c12 k12).binds (ps := ["thing"]) fun _ _ _ _ _ _ us hl => match us, hl with | [_], _ => rfl⟩,
    ⟨z_Purses, f13, _, h_Purses, ⟨mk_Purses, a13, i13, kc_Purses⟩, fun_mk (st := s_Purses___init__) l13 c13 k13, (fun_mk (st := s_Purses___init__) l13 c13 k13).binds (ps := ["self", "items"]) fun _ _ _ _ _ _ us hl => match us, hl with | [_, _], _ => rfl⟩,
    ⟨f14, _, PySem.W.mg_of X G a14, fun_mk (st := s__law_shuffled) l14 c14 k14, (fun_mk (st := s__law_shuffled) l14 c14 k14).binds (ps := ["_law_hand_here", "_law_some"]) fun _ _ _ _ _ _ us hl => match us, hl with | [_, _], _ => rfl⟩,
    ⟨f15, _, PySem.W.mg_of X G a15, fun_mk (st := s__law_purses) l15 c15 k15, (fun_mk (st := s__law_purses) l15 c15 k15).binds (ps := ["_law_hand_here", "_law_tickets"]) fun _ _ _ _ _ _ us hl => match us, hl with | [_, _], _ => rfl⟩,
    ⟨f16, _, PySem.W.mg_of X G a16, fun_mk (st := s_pair_of) l16 c16 k16, (fun_mk (st := s_pair_of) l16 c16 k16).binds (ps := ["one", "other"]) fun _ _ _ _ _ _ us hl => match us, hl with | [_, _], _ => rfl⟩,
    ⟨f17, _, PySem.W.mg_of X G a17, fun_mk (st := s_is_count) l17 c17 k17, (fun_mk (st := s_is_count) l17 c17 k17).binds (ps := ["thing"]) fun _ _ _ _ _ _ us hl => match us, hl with | [_], _ => rfl⟩,
    ⟨f18, _, PySem.W.mg_of X G a18, fun_mk (st := s_is_run) l18 c18 k18, (fun_mk (st := s_is_run) l18 c18 k18).binds (ps := ["thing"]) fun _ _ _ _ _ _ us hl => match us, hl with | [_], _ => rfl⟩,
    ⟨z_Lot, f19, _, h_Lot, ⟨mk_Lot, a19, i19, kc_Lot⟩, fun_mk (st := s_Lot___init__) l19 c19 k19, (fun_mk (st := s_Lot___init__) l19 c19 k19).binds (ps := ["self", "items"]) fun _ _ _ _ _ _ us hl => match us, hl with | [_, _], _ => rfl⟩,
    ⟨f20, _, PySem.W.mg_of X G a20, fun_mk (st := s__law_lot) l20 c20 k20, (fun_mk (st := s__law_lot) l20 c20 k20).binds (ps := ["_law_hand_here", "_law_items"]) fun _ _ _ _ _ _ us hl => match us, hl with | [_, _], _ => rfl⟩,
    ⟨f21, _, PySem.W.mg_of X G a21, fun_mk (st := s__law_lines) l21 c21 k21, (fun_mk (st := s__law_lines) l21 c21 k21).binds (ps := ["_law_rows"]) fun _ _ _ _ _ _ us hl => match us, hl with | [_], _ => rfl⟩,
    ⟨f22, _, PySem.W.mg_of X G a22, fun_mk (st := s_show_rows) l22 c22 k22, (fun_mk (st := s_show_rows) l22 c22 k22).binds (ps := ["rows"]) fun _ _ _ _ _ _ us hl => match us, hl with | [_], _ => rfl⟩,
    ⟨z_Purses, f23, _, h_Purses, ⟨a23, i23, k23⟩, fun_mk (st := s_Purses_entries) l23 c23 k23, (fun_mk (st := s_Purses_entries) l23 c23 k23).binds (ps := ["self"]) fun _ _ _ _ _ _ us hl => match us, hl with | [_], _ => rfl⟩,
    ⟨f24, _, PySem.W.mg_of X G a24, fun_mk (st := s_show_purses) l24 c24 k24, (fun_mk (st := s_show_purses) l24 c24 k24).binds (ps := ["purses"]) fun _ _ _ _ _ _ us hl => match us, hl with | [_], _ => rfl⟩,
    ⟨z_Lot, f25, _, h_Lot, ⟨a25, i25, k25⟩, fun_mk (st := s_Lot_entries) l25 c25 k25, (fun_mk (st := s_Lot_entries) l25 c25 k25).binds (ps := ["self"]) fun _ _ _ _ _ _ us hl => match us, hl with | [_], _ => rfl⟩,
    ⟨f26, _, PySem.W.mg_of X G a26, fun_mk (st := s_show_lot) l26 c26 k26, (fun_mk (st := s_show_lot) l26 c26 k26).binds (ps := ["lot"]) fun _ _ _ _ _ _ us hl => match us, hl with | [_], _ => rfl⟩,
    ⟨f27, _, PySem.W.mg_of X G a27, fun_mk (st := s_show_timetable) l27 c27 k27, (fun_mk (st := s_show_timetable) l27 c27 k27).binds (ps := ["timetable"]) fun _ _ _ _ _ _ us hl => match us, hl with | [_], _ => rfl⟩,
    ⟨f28, _, PySem.W.mg_of X G a28, fun_mk (st := s__law_alike) l28 c28 k28, (fun_mk (st := s__law_alike) l28 c28 k28).binds (ps := ["_law_found", "_law_due"]) fun _ _ _ _ _ _ us hl => match us, hl with | [_, _], _ => rfl⟩,
    ⟨f29, _, PySem.W.mg_of X G a29, fun_mk (st := s_read_number) l29 c29 k29, (fun_mk (st := s_read_number) l29 c29 k29).binds (ps := ["word"]) fun _ _ _ _ _ _ us hl => match us, hl with | [_], _ => rfl⟩,
    ⟨f30, _, PySem.W.mg_of X G a30, fun_mk (st := s_read_rows) l30 c30 k30, (fun_mk (st := s_read_rows) l30 c30 k30).binds (ps := ["text", "width"]) fun _ _ _ _ _ _ us hl => match us, hl with | [_, _], _ => rfl⟩,
    ⟨f31, _, PySem.W.mg_of X G a31, fun_mk (st := s_read_timetable) l31 c31 k31, (fun_mk (st := s_read_timetable) l31 c31 k31).binds (ps := ["text"]) fun _ _ _ _ _ _ us hl => match us, hl with | [_], _ => rfl⟩,
    ⟨f32, _, PySem.W.mg_of X G a32, fun_mk (st := s_read_purses) l32 c32 k32, (fun_mk (st := s_read_purses) l32 c32 k32).binds (ps := ["text"]) fun _ _ _ _ _ _ us hl => match us, hl with | [_], _ => rfl⟩,
    ⟨f33, _, PySem.W.mg_of X G a33, fun_mk (st := s_with_table) l33 c33 k33, (fun_mk (st := s_with_table) l33 c33 k33).binds (ps := ["table"]) fun _ _ _ _ _ _ us hl => match us, hl with | [_], _ => rfl⟩,
    ⟨f34, _, PySem.W.mg_of X G a34, fun_mk (st := s_read_lot) l34 c34 k34, (fun_mk (st := s_read_lot) l34 c34 k34).binds (ps := ["text"]) fun _ _ _ _ _ _ us hl => match us, hl with | [_], _ => rfl⟩,
    ⟨f35, _, PySem.W.mg_of X G a35, fun_mk (st := s__law_count) l35 c35 k35, (fun_mk (st := s__law_count) l35 c35 k35).binds (ps := ["_law_hand_here"]) fun _ _ _ _ _ _ us hl => match us, hl with | [_], _ => rfl⟩,
    ⟨z_Purses, f36, _, h_Purses, ⟨a36, i36, k36⟩, fun_mk (st := s_Purses___eq__) l36 c36 k36, (fun_mk (st := s_Purses___eq__) l36 c36 k36).binds (ps := ["self", "other"]) fun _ _ _ _ _ _ us hl => match us, hl with | [_, _], _ => rfl⟩,
    ⟨z_Lot, f37, _, h_Lot, ⟨a37, i37, k37⟩, fun_mk (st := s_Lot___eq__) l37 c37 k37, (fun_mk (st := s_Lot___eq__) l37 c37 k37).binds (ps := ["self", "other"]) fun _ _ _ _ _ _ us hl => match us, hl with | [_, _], _ => rfl⟩,
    ⟨f38, _, PySem.W.mg_of X G a38, fun_mk (st := s_law) l38 c38 k38, (fun_mk (st := s_law) l38 c38 k38).binds (ps := ["_law_script"]) fun _ _ _ _ _ _ us hl => match us, hl with | [_], _ => rfl⟩⟩
  exact ⟨PySem.W.fnOf "law" "law" (defArgs s_law) (defBody s_law) (defScope s_law) .none kV38 dc38 pm38 an38 cd38 ct38, fun s v => .of_eq rfl, fun base _ _ => ok_law T (fun_mk (st := s_law) l38 c38 k38)⟩
/-- the start: the script stands in the heap, nothing else is known -/
theorem start_ok {K : PySem.W.Frag} {mg : Str → Option Value} {H : Hp} {a : Addr} {ns : List Int} (hS : SqL K H a (ns.map V.int)) {M : Mem} (e : g_law [.lst (ns.map D.int)] [] = .ok (.bl true) M) : spF ⟨K, mg⟩ g_law [.ref a] H (fun v _ => v = .bl true) fun _ _ _ => False := by
  have q : ∀ ms : List Int, DVs ⟨K, mg⟩ ⟨H, [], []⟩ (ms.map D.int) (ms.map V.int) := fun ms => by
    induction ms with
    | nil => exact rfl
    | cons m r ih => exact ⟨_, _, rfl, rfl, ih⟩
  refine ⟨⟨H, [], []⟩, [.lst (ns.map D.int)], [], ⟨fun _ _ h => .inl h, rfl, List.nodup_nil, fun k mo b h => by simp at h, fun k mo b h => by simp at h, fun b h => by simp at h, fun p h => by simp at h⟩, DVs.one ⟨a, _, rfl, hS, q ns⟩, ?_⟩
  rw [e]
  exact fun G v H2 _ _ z => z
theorem walk_law (main : ∀ ns : List Int, ns.length ≤ 63 → ∃ M, g_law [.lst (ns.map D.int)] [] = .ok (.bl true) M) {l : PySem.W.OpenLaw} {q : Program} {loose : List Str} {XP : (Str → Option Value) → Heap → Prop} {YP : World → Heap → Prop} {d : DefRec} {K : Params → PySem.W.Frag} (hn : l.most = some 63) (hdf : d.params.defaults = [])
    (hY : ∀ (w : World) (h : Heap), YP w h → (K w.params).In h)
    (F : ∀ (w : World) (mg : Str → Option Value) (fa : Addr) (h : Heap), (K w.params).In h → h.Ns mainGlobals mg → mg d.name = some (.ref fa) → ∃ fd : FuncData, (∀ (s : Shared) (u : Value), BindsTo s fd ⟨[u], []⟩ [("_law_script", u)]) ∧ ∀ base : Heap, (K w.params).In base → base.Ns mainGlobals mg → FnOkG l.prog w (K w.params) mg base 8 fa fd ["_law_script"] (spF ⟨K w.params, mg⟩ g_law)) :
    PySem.W.WalkO q loose XP YP l.row.toRowW d [] (fun f vs => PySem.call f vs) := by
  refine Att.attach_call hn hdf fun w s0 s1 mg mb fa o pm cd doc a vs ns G Y ho hd hcd hmg hobj hints hlen hg => ?_
  have KX := hY w _ Y
  obtain ⟨fd, hb, hF⟩ := F w mg fa _ KX G.T.g hmg
  obtain ⟨M, e⟩ := main ns hlen
  exact law_callG KX G.T.g G.T.b G.T.builtins G.T.nolimit hg hobj hints (Nat.le_trans hlen (by decide)) (⟨⟨rfl, by decide, by decide⟩, rfl⟩ : RoomG 8 callerA) hF hb (fun H hO hS => start_ok hS e) fun H u s2 ⟨_, _, _, _, _, _, _, _, _, _, _, _, z⟩ => z
end QL
open PySem PySem.W PyProof.Rows in
set_option maxRecDepth 100000 in
set_option maxHeartbeats 0 in
theorem PySem.Challenge.cw_eitherpays_k95_texts_there_and_back_holds : PySem.Challenge.rw_eitherpays_k95_texts_there_and_back.Holds := by
  w_on; o_law; k_head; (case hw => w_witness2)
  k_fill
  refine QL.walk_law QL.main_law (l := PySem.Challenge.rw_eitherpays_k95_texts_there_and_back) rfl rfl (fun w h Y => PySem.W.kIn_of Y) ?F
  case F =>
    intro w mg fa h KX G hmg
    refine' QL.all_mk KX G hmg ?y_Lot ?y_Purses ?pg_Lot ?hd_Lot ?po_Lot ?sa_Lot ?mk_Lot ?kc_Lot ?pg_Purses ?hd_Purses ?po_Purses ?sa_Purses ?mk_Purses ?kc_Purses ?cl_Lot ?mr_Lot ?os_Lot ?od_Lot ?ob_Lot ?cl_Purses ?mr_Purses ?os_Purses ?od_Purses ?ob_Purses ?na_Lot_table ?na_Purses_table ?a0 ?l0 ?c0 ?k0 ?a1 ?l1 ?c1 ?k1 ?a2 ?l2 ?c2 ?k2 ?a3 ?l3 ?c3 ?k3 ?a4 ?l4 ?c4 ?k4 ?a5 ?l5 ?c5 ?k5 ?a6 ?l6 ?c6 ?k6 ?a7 ?i7 ?l7 ?c7 ?k7 ?a8 ?i8 ?l8 ?c8 ?k8 ?a9 ?l9 ?c9 ?k9 ?a10 ?l10 ?c10 ?k10 ?a11 ?l11 ?c11 ?k11 ?a12 ?l12 ?c12 ?k12 ?a13 ?i13 ?l13 ?c13 ?k13 ?a14 ?l14 ?c14 ?k14 ?a15 ?l15 ?c15 ?k15 ?a16 ?l16 ?c16 ?k16 ?a17 ?l17 ?c17 ?k17 ?a18 ?l18 ?c18 ?k18 ?a19 ?i19 ?l19 ?c19 ?k19 ?a20 ?l20 ?c20 ?k20 ?a21 ?l21 ?c21 ?k21 ?a22 ?l22 ?c22 ?k22 ?a23 ?i23 ?l23 ?c23 ?k23 ?a24 ?l24 ?c24 ?k24 ?a25 ?i25 ?l25 ?c25 ?k25 ?a26 ?l26 ?c26 ?k26 ?a27 ?l27 ?c27 ?k27 ?a28 ?l28 ?c28 ?k28 ?a29 ?l29 ?c29 ?k29 ?a30 ?l30 ?c30 ?k30 ?a31 ?l31 ?c31 ?k31 ?a32 ?l32 ?c32 ?k32 ?a33 ?l33 ?c33 ?k33 ?a34 ?l34 ?c34 ?k34 ?a35 ?l35 ?c35 ?k35 ?a36 ?i36 ?l36 ?c36 ?k36 ?a37 ?i37 ?l37 ?c37 ?k37 ?a38 ?l38 ?c38 ?k38 ?cg_ ?tk_ ?v_DIGITS ?v_LETTERS ?v_LONGEST_NAME ?v_MOST_DIGITS ?v_MOST_ITEMS ?v_MOST_PLAYERS ?v_MOST_RUNS ?v_MOST_TICKETS ?v_MOST_TIMES ?z_abs ?z_all ?z_bool ?z_enumerate ?z_int ?z_isinstance ?z_len ?z_list ?z_max ?z_min ?z_range ?z_repr ?z_sorted ?z_str ?z_tuple
    (case y_Lot => k_is)
    (case y_Purses => k_is)
    (case pg_Lot => k_is)
    (case hd_Lot => k_is)
    (case po_Lot => k_is)
    (case sa_Lot => k_is)
    (case mk_Lot => k_is)
    (case kc_Lot => k_is)
    (case pg_Purses => k_is)
    (case hd_Purses => k_is)
    (case po_Purses => k_is)
    (case sa_Purses => k_is)
    (case mk_Purses => k_is)
    (case kc_Purses => k_is)
    (case cl_Lot => k_is)
    (case mr_Lot => k_is)
    (case os_Lot => first | kit_is | k_is)
    (case od_Lot => first | kit_is | k_is)
    (case ob_Lot => k_is)
    (case cl_Purses => k_is)
    (case mr_Purses => k_is)
    (case os_Purses => first | kit_is | k_is)
    (case od_Purses => first | kit_is | k_is)
    (case ob_Purses => k_is)
    (case na_Lot_table => k_is)
    (case na_Purses_table => k_is)
    (case a0 => k_is)
    (case l0 => k_is)
    (case c0 => k_is)
    (case k0 => k_is)
    (case a1 => k_is)
    (case l1 => k_is)
    (case c1 => k_is)
    (case k1 => k_is)
    (case a2 => k_is)
    (case l2 => k_is)
    (case c2 => k_is)
    (case k2 => k_is)
    (case a3 => k_is)
    (case l3 => k_is)
    (case c3 => k_is)
    (case k3 => k_is)
    (case a4 => k_is)
    (case l4 => k_is)
    (case c4 => k_is)
    (case k4 => k_is)
    (case a5 => k_is)
    (case l5 => k_is)
    (case c5 => k_is)
    (case k5 => k_is)
    (case a6 => k_is)
    (case l6 => k_is)
    (case c6 => k_is)
    (case k6 => k_is)
    (case a7 => k_is)
    (case i7 => k_is)
    (case l7 => k_is)
    (case c7 => k_is)
    (case k7 => k_is)
    (case a8 => k_is)
    (case i8 => k_is)
    (case l8 => k_is)
    (case c8 => k_is)
    (case k8 => k_is)
    (case a9 => k_is)
    (case l9 => k_is)
    (case c9 => k_is)
    (case k9 => k_is)
    (case a10 => k_is)
    (case l10 => k_is)
    (case c10 => k_is)
    (case k10 => k_is)
    (case a11 => k_is)
    (case l11 => k_is)
    (case c11 => k_is)
    (case k11 => k_is)
    (case a12 => k_is)
    (case l12 => k_is)
    (case c12 => k_is)
    (case k12 => k_is)
    (case a13 => k_is)
    (case i13 => k_is)
    (case l13 => k_is)
    (case c13 => k_is)
    (case k13 => k_is)
    (case a14 => k_is)
    (case l14 => k_is)
    (case c14 => k_is)
    (case k14 => k_is)
    (case a15 => k_is)
    (case l15 => k_is)
    (case c15 => k_is)
    (case k15 => k_is)
    (case a16 => k_is)
    (case l16 => k_is)
    (case c16 => k_is)
    (case k16 => k_is)
    (case a17 => k_is)
    (case l17 => k_is)
    (case c17 => k_is)
    (case k17 => k_is)
    (case a18 => k_is)
    (case l18 => k_is)
    (case c18 => k_is)
    (case k18 => k_is)
    (case a19 => k_is)
    (case i19 => k_is)
    (case l19 => k_is)
    (case c19 => k_is)
    (case k19 => k_is)
    (case a20 => k_is)
    (case l20 => k_is)
    (case c20 => k_is)
    (case k20 => k_is)
    (case a21 => k_is)
    (case l21 => k_is)
    (case c21 => k_is)
    (case k21 => k_is)
    (case a22 => k_is)
    (case l22 => k_is)
    (case c22 => k_is)
    (case k22 => k_is)
    (case a23 => k_is)
    (case i23 => k_is)
    (case l23 => k_is)
    (case c23 => k_is)
    (case k23 => k_is)
    (case a24 => k_is)
    (case l24 => k_is)
    (case c24 => k_is)
    (case k24 => k_is)
    (case a25 => k_is)
    (case i25 => k_is)
    (case l25 => k_is)
    (case c25 => k_is)
    (case k25 => k_is)
    (case a26 => k_is)
    (case l26 => k_is)
    (case c26 => k_is)
    (case k26 => k_is)
    (case a27 => k_is)
    (case l27 => k_is)
    (case c27 => k_is)
    (case k27 => k_is)
    (case a28 => k_is)
    (case l28 => k_is)
    (case c28 => k_is)
    (case k28 => k_is)
    (case a29 => k_is)
    (case l29 => k_is)
    (case c29 => k_is)
    (case k29 => k_is)
    (case a30 => k_is)
    (case l30 => k_is)
    (case c30 => k_is)
    (case k30 => k_is)
    (case a31 => k_is)
    (case l31 => k_is)
    (case c31 => k_is)
    (case k31 => k_is)
    (case a32 => k_is)
    (case l32 => k_is)
    (case c32 => k_is)
    (case k32 => k_is)
    (case a33 => k_is)
    (case l33 => k_is)
    (case c33 => k_is)
    (case k33 => k_is)
    (case a34 => k_is)
    (case l34 => k_is)
    (case c34 => k_is)
    (case k34 => k_is)
    (case a35 => k_is)
    (case l35 => k_is)
    (case c35 => k_is)
    (case k35 => k_is)
    (case a36 => k_is)
    (case i36 => k_is)
    (case l36 => k_is)
    (case c36 => k_is)
    (case k36 => k_is)
    (case a37 => k_is)
    (case i37 => k_is)
    (case l37 => k_is)
    (case c37 => k_is)
    (case k37 => k_is)
    (case a38 => k_is)
    (case l38 => k_is)
    (case c38 => k_is)
    (case k38 => k_is)
    (case cg_ => k_is)
    (case tk_ => k_is)
    (case v_DIGITS => k_is)
    (case v_LETTERS => k_is)
    (case v_LONGEST_NAME => k_is)
    (case v_MOST_DIGITS => k_is)
    (case v_MOST_ITEMS => k_is)
    (case v_MOST_PLAYERS => k_is)
    (case v_MOST_RUNS => k_is)
    (case v_MOST_TICKETS => k_is)
    (case v_MOST_TIMES => k_is)
    (case z_abs => k_is)
    (case z_all => k_is)
    (case z_bool => k_is)
    (case z_enumerate => k_is)
    (case z_int => k_is)
    (case z_isinstance => k_is)
    (case z_len => k_is)
    (case z_list => k_is)
    (case z_max => k_is)
    (case z_min => k_is)
    (case z_range => k_is)
    (case z_repr => k_is)
    (case z_sorted => k_is)
    (case z_str => k_is)
    (case z_tuple => k_is)
end
