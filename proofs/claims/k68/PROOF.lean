import PyProof.Rows.All
import Wide.All
import OpenK.AllK
import Wide.FinOn
import HandS.ForMost
import HandS.Exc
import HandS.TryOnly
import HandS.ExcOwn
import HandS.WordsExc
import HandS.IsInst
import HandS.Wide
import HandS.WideBits
import HandS.Sort
import HandS.SortOrd
import HandS.SortRule
import HandS.SortInts
import HandS.Deep
import HandS.Flow
import KE.KRevSl
import HandS.Zip
import HandS.Defaults
import HandS.SetFor
import HandS.Conv
import KE.SortData
import KE.KDictZip
import PyProof.Rows.Range3
import PyProof.ListRange
import HandS.Ends
import HandS.Head0
import HandS.Head1
import HandS.Head2
import HandS.HeadEnd
import HandS.HeadHook1
import HandS.HeadHook2
import PySem.Challenge.RW_spreadstates_k68_counts_of_blocks
set_option Elab.async false
set_option linter.all false
set_option maxRecDepth 100000
namespace DL
open PySem PySem.Spec PyProof.Rows L2
/-! ## data -/
inductive D where
  | non
  | bl (b : Bool)
  | int (i : Int)
  | str (s : Str)
  | lst (xs : List D)
  | tup (xs : List D)
  | dic (kvs : List (Key × D))
  | obj (c : Str) (fs : List (Str × D))
  /-- ints that are read only (the script) -/
  | con (ns : List Int)
/-- where the text's classes stand -/
structure GC where
  K : PySem.W.Frag
  cls : Str → Addr
mutual
def Rep (G : GC) (H : Hp) : D → V → Prop
  | .non, v => v = V.non
  | .bl b, v => v = V.bl b
  | .int i, v => v = V.int i
  | .str s, v => v = V.str s
  | .lst ds, v => ∃ a vs, v = V.ref a ∧ H a = some (.lst vs) ∧ Reps G H ds vs
  | .tup ds, v => ∃ a vs, v = V.ref a ∧ SqT G.K H a vs ∧ Reps G H ds vs
  | .dic ks, v => ∃ a vs, v = V.ref a ∧ Rd H a (.dK vs) ∧ RepK G H ks vs
  | .obj c fs, v => ∃ a dx vs, v = V.ref a ∧ Rd H a (.ins (G.cls c) dx vs) ∧ RepF G H fs vs
  | .con ns, v => ∃ a, v = V.ref a ∧ SqL G.K H a (ns.map V.int)
def Reps (G : GC) (H : Hp) : List D → List V → Prop
  | [], vs => vs = []
  | d :: ds, vs => ∃ w ws, vs = w :: ws ∧ Rep G H d w ∧ Reps G H ds ws
def RepK (G : GC) (H : Hp) : List (Key × D) → List (Key × V) → Prop
  | [], vs => vs = []
  | (k, d) :: ds, vs => ∃ w ws, vs = (k, w) :: ws ∧ Rep G H d w ∧ RepK G H ds ws
def RepF (G : GC) (H : Hp) : List (Str × D) → List (Str × V) → Prop
  | [], vs => vs = []
  | (k, d) :: ds, vs => ∃ w ws, vs = (k, w) :: ws ∧ Rep G H d w ∧ RepF G H ds ws
end
/-- the object at the top, its items in the shared part -/
def Top (G : GC) (H : Hp) (o : HO) : D → Prop
  | .lst ds => ∃ vs, o = .lst vs ∧ Reps G H ds vs
  | .tup ds => ∃ vs, o = .tup vs ∧ Reps G H ds vs
  | .dic ks => ∃ vs, o = .dK vs ∧ RepK G H ks vs
  | .obj c fs => ∃ dx vs, o = .ins (G.cls c) dx vs ∧ RepF G H fs vs
  | _ => False
section
variable {G : GC} {H H' : Hp}
theorem Rd.same {a : Addr} {o : HO} (s : Same H H') (h : Rd H a o) : Rd H' a o := by
  rcases h with h | ⟨q, h⟩
  · exact .inl (s _ _ h)
  · exact .inr ⟨q, s _ _ h⟩
theorem Same.seqT {K : PySem.W.Frag} {a : Addr} {xs : List V} (e : Same H H') (h : SqT K H a xs) : SqT K H' a xs := by
  rcases h with (h | ⟨o, h⟩) | h
  · exact .inl (.inl (e _ _ h))
  · exact .inl (.inr ⟨o, e _ _ h⟩)
  · exact .inr h
mutual
theorem Rep.mono (s : Same H H') : ∀ {d : D} {v : V}, Rep G H d v → Rep G H' d v
  | .non, v, h => by unfold Rep at *; exact h
  | .bl _, v, h => by unfold Rep at *; exact h
  | .int _, v, h => by unfold Rep at *; exact h
  | .str _, v, h => by unfold Rep at *; exact h
  | .lst ds, v, h => by
    unfold Rep at *
    obtain ⟨a, vs, e, r, q⟩ := h
    exact ⟨a, vs, e, s _ _ r, Reps.mono s q⟩
  | .tup ds, v, h => by
    unfold Rep at *
    obtain ⟨a, vs, e, r, q⟩ := h
    exact ⟨a, vs, e, Same.seqT s r, Reps.mono s q⟩
  | .dic ds, v, h => by
    unfold Rep at *
    obtain ⟨a, vs, e, r, q⟩ := h
    exact ⟨a, vs, e, Rd.same s r, RepK.mono s q⟩
  | .obj c ds, v, h => by
    unfold Rep at *
    obtain ⟨a, dx, vs, e, r, q⟩ := h
    exact ⟨a, dx, vs, e, Rd.same s r, RepF.mono s q⟩
  | .con ns, v, h => by
    unfold Rep at *
    obtain ⟨a, e, r⟩ := h
    exact ⟨a, e, s.seq r⟩
theorem Reps.mono (s : Same H H') : ∀ {ds : List D} {vs : List V}, Reps G H ds vs → Reps G H' ds vs
  | [], vs, h => by unfold Reps at *; exact h
  | d :: ds, vs, h => by
    unfold Reps at *
    obtain ⟨w, ws, e, r, q⟩ := h
    exact ⟨w, ws, e, Rep.mono s r, Reps.mono s q⟩
theorem RepK.mono (s : Same H H') : ∀ {ds : List (Key × D)} {vs : List (Key × V)}, RepK G H ds vs → RepK G H' ds vs
  | [], vs, h => by unfold RepK at *; exact h
  | (k, d) :: ds, vs, h => by
    unfold RepK at *
    obtain ⟨w, ws, e, r, q⟩ := h
    exact ⟨w, ws, e, Rep.mono s r, RepK.mono s q⟩
theorem RepF.mono (s : Same H H') : ∀ {ds : List (Str × D)} {vs : List (Str × V)}, RepF G H ds vs → RepF G H' ds vs
  | [], vs, h => by unfold RepF at *; exact h
  | (k, d) :: ds, vs, h => by
    unfold RepF at *
    obtain ⟨w, ws, e, r, q⟩ := h
    exact ⟨w, ws, e, Rep.mono s r, RepF.mono s q⟩
end
theorem Top.mono (s : Same H H') {o : HO} {d : D} (h : Top G H o d) : Top G H' o d := by
  cases d with
  | lst ds => obtain ⟨vs, e, r⟩ := h; exact ⟨vs, e, r.mono s⟩
  | tup ds => obtain ⟨vs, e, r⟩ := h; exact ⟨vs, e, r.mono s⟩
  | dic ds => obtain ⟨vs, e, r⟩ := h; exact ⟨vs, e, r.mono s⟩
  | obj c ds => obtain ⟨dx, vs, e, r⟩ := h; exact ⟨dx, vs, e, r.mono s⟩
  | _ => exact h.elim
theorem Top.rep {o : HO} {d : D} {p : Addr} (h : Top G H o d) (q : H p = some o) : Rep G H d (.ref p) := by
  cases d with
  | lst ds => obtain ⟨vs, e, r⟩ := h; subst e; unfold Rep; exact ⟨p, vs, rfl, q, r⟩
  | tup ds => obtain ⟨vs, e, r⟩ := h; subst e; unfold Rep; exact ⟨p, vs, rfl, .inl (.inl q), r⟩
  | dic ds => obtain ⟨vs, e, r⟩ := h; subst e; unfold Rep; exact ⟨p, vs, rfl, .inl q, r⟩
  | obj c ds => obtain ⟨dx, vs, e, r⟩ := h; subst e; unfold Rep; exact ⟨p, dx, vs, rfl, .inl q, r⟩
  | _ => exact h.elim
theorem Same.upd {p : Addr} {o : HO} (h : H p = none) : Same H (upd H p o) := fun b x e => by
  rw [upd_ne (ne_of_none e h)]
  exact e
end
/-! ## states -/
inductive S where
  | un
  | val (d : D)
  | own (d : D)
def isOwn : S → Bool
  | .own _ => true
  | _ => false
/-- a value, and whether it is a new object that nothing else holds -/
structure R where
  d : D
  fr : Bool
inductive O where
  | v (d : D)
  | r (i : Nat)
inductive Res (α : Type) where
  | ok (a : α) (ρ : List S)
  | exc (c : Str) (d : D) (ρ : List S)
  | bad
def M (α : Type) : Type := List S → Res α
def Res.bind {α β : Type} (x : Res α) (k : α → M β) : Res β := match x with
  | .ok a ρ => k a ρ
  | .exc c d ρ => .exc c d ρ
  | .bad => .bad
def M.bind {α β : Type} (m : M α) (k : α → M β) : M β := fun ρ => (m ρ).bind k
def M.pure {α : Type} (a : α) : M α := fun ρ => .ok a ρ
instance : Monad M := { bind := M.bind, pure := M.pure }
/-- the entry of a def -/
structure Ent where
  H0 : Hp
  M0 : Hp
  IO : List Addr
  s0 : L2.St
  fx : List Nat
def SlotOk (G : GC) (E : Ent) (Hm H : Hp) (x : Option (Option V)) : S → Prop
  | .un => True
  | .val d => ∃ v, x = some (some v) ∧ Rep G Hm d v
  | .own d => ∃ (p : Addr) (o : HO), x = some (some (V.ref p)) ∧ Hm p = none ∧ H p = some o ∧ Top G Hm o d ∧ (E.H0 p = none ∨ p ∈ E.IO)
structure RE (G : GC) (E : Ent) (σ : L2.St) (ρ : List S) (Hm H : Hp) : Prop where
  sub : Same Hm H
  len : ρ.length = σ.length
  sl : ∀ (i : Nat) (s : S), ρ[i]? = some s → SlotOk G E Hm H σ[i]? s
  sep : ∀ (i j : Nat) (s t : S) (p : Addr), i ≠ j → ρ[i]? = some s → ρ[j]? = some t → isOwn s = true → isOwn t = true → σ[i]? = some (some (V.ref p)) → σ[j]? = some (some (V.ref p)) → False
  fix : ∀ i ∈ E.fx, σ[i]? = E.s0[i]?
  pres : ∀ (a : Addr) (o : HO), E.H0 a = some o → a ∉ E.IO → H a = some o
  mono : Same E.M0 Hm
  frsh : ∀ (a : Addr) (o : HO), Hm a = some o → E.M0 a = some o ∨ E.H0 a = none ∨ a ∈ E.IO
/-- the field of an own error -/
def fieldOf (c : Str) : Str :=
  if c = "InvalidSymbol" then "symbol" else if c = "InvalidBound" then "argument" else if c = "InvalidCall" then "call" else if c = "LimitExceeded" then "limit" else "at"
def XOk (G : GC) (Hm H : Hp) (dx : Addr) (c : Str) (d : D) : Prop := ∃ v, H dx = some (.xd [(fieldOf c, v)]) ∧ Rep G Hm d v
def ROk (G : GC) (E : Ent) (σ : L2.St) (ρ : List S) (Hm H : Hp) (v : V) (r : R) : Prop :=
  match r.fr with
  | false => Rep G Hm r.d v
  | true => ∃ (p : Addr) (o : HO), v = V.ref p ∧ Hm p = none ∧ H p = some o ∧ Top G Hm o r.d ∧ (E.H0 p = none ∨ p ∈ E.IO) ∧ ∀ (i : Nat) (s : S), ρ[i]? = some s → isOwn s = true → σ[i]? ≠ some (some (V.ref p))
def OOk (G : GC) (σ : L2.St) (Hm : Hp) (v : V) : O → Prop
  | .v d => Rep G Hm d v
  | .r i => σ[i]? = some (some v)
/-- several operands -/
abbrev OOks (G : GC) (σ : L2.St) (Hm : Hp) : List V → List O → Prop := Paired (OOk G σ Hm)
def Sat {α β : Type} (G : GC) (E : Ent) (W : WX) (σ : L2.St) (Hm : Hp) (rel : α → List S → Hp → Hp → β → Prop) (Q : β → Hp → Prop) : Res α → Prop
  | .ok a ρ' => ∀ b Hm' H', RE G E σ ρ' Hm' H' → Same Hm Hm' → rel a ρ' Hm' H' b → Q b H'
  | .exc c d ρ' => ∀ dx Hm' H', RE G E σ ρ' Hm' H' → Same Hm Hm' → XOk G Hm' H' dx c d → W (.ref (G.cls c)) (some dx) σ H'
  | .bad => False
section
variable {G : GC} {E : Ent} {W : WX} {σ : L2.St} {Hm Hm' H : Hp} {α β γ δ : Type} {rel : α → List S → Hp → Hp → β → Prop} {rel1 : γ → List S → Hp → Hp → δ → Prop} {Q : β → Hp → Prop} {Q1 : δ → Hp → Prop}
theorem Sat.mono (s : Same Hm Hm') {x : Res α} (h : Sat G E W σ Hm rel Q x) : Sat G E W σ Hm' rel Q x := by
  cases x with
  | ok a ρ => exact fun b Hm2 H2 re s2 r => h b Hm2 H2 re (s.trans s2) r
  | exc c d ρ => exact fun dx Hm2 H2 re s2 r => h dx Hm2 H2 re (s.trans s2) r
  | bad => exact h
theorem Sat.bind {m : M γ} {k : γ → M α} {ρ : List S} (h : Sat G E W σ Hm rel Q (M.bind m k ρ))
    (hk : ∀ a ρ1 b Hm1 H1, m ρ = .ok a ρ1 → RE G E σ ρ1 Hm1 H1 → Same Hm Hm1 → rel1 a ρ1 Hm1 H1 b → Sat G E W σ Hm1 rel Q (k a ρ1) → Q1 b H1) : Sat G E W σ Hm rel1 Q1 (m ρ) := by
  unfold M.bind at h
  cases e : m ρ with
  | ok a ρ1 =>
    rw [e] at h
    exact fun b Hm1 H1 re s r => hk a ρ1 b Hm1 H1 e re s r (Sat.mono s h)
  | exc c d ρ1 =>
    rw [e] at h
    exact h
  | bad =>
    rw [e] at h
    exact h
end
/-! ## judgements -/
structure DE (X : Cx) (G : GC) (W : WX) (e : Expr) (f : M R) : Prop where
  ex : ∃ t, PE X e t ∧ ∀ E σ ρ Hm H Q, RE G E σ ρ Hm H → Sat G E W σ Hm (fun r ρ' Hm' H' v => ROk G E σ ρ' Hm' H' v r) Q (f ρ) → t σ H Q
/-- an operand: a name is not taken as a value, but looked at when it is used -/
structure OE (X : Cx) (G : GC) (W : WX) (e : Expr) (f : M O) : Prop where
  ex : ∃ t, PE X e t ∧ ∀ E σ ρ Hm H Q, RE G E σ ρ Hm H → Sat G E W σ Hm (fun o ρ' Hm' H' v => OOk G σ Hm' v o) Q (f ρ) → t σ H Q
structure DT (X : Cx) (G : GC) (W : WX) (e : Expr) (f : M Bool) : Prop where
  ex : ∃ t, PT X e t ∧ ∀ E σ ρ Hm H Q, RE G E σ ρ Hm H → Sat G E W σ Hm (fun b _ _ _ c => c = b) Q (f ρ) → t σ H Q
structure AE (X : Cx) (G : GC) (W : WX) (es : List Expr) (f : M (List O)) : Prop where
  ex : ∃ t, PA X es t ∧ ∀ E σ ρ Hm H Q, RE G E σ ρ Hm H → Sat G E W σ Hm (fun os ρ' Hm' H' vs => OOks G σ Hm' vs os) Q (f ρ) → t σ H Q
/-! ## slots -/
section
variable {G : GC} {E : Ent} {σ : L2.St} {ρ : List S} {Hm H H' : Hp}
theorem SlotOk.own {x : Option (Option V)} {s : S} (h : SlotOk G E Hm H x s) (o : isOwn s = true) : ∃ (p : Addr) (ob : HO), x = some (some (V.ref p)) ∧ Hm p = none ∧ H p = some ob ∧ (E.H0 p = none ∨ p ∈ E.IO) := by
  cases s with
  | un => cases o
  | val d => cases o
  | own d => obtain ⟨p, ob, e, n, t, _, q⟩ := h; exact ⟨p, ob, e, n, t, q⟩
/-- the shared part grows by a new object, p (a new one, or one that was held by a name alone), the name's slot changed by g -/
theorem RE.share {p : Addr} {o : HO} (re : RE G E σ ρ Hm H) (hn : Hm p = none) (ho : H p = some o) (he : E.H0 p = none ∨ p ∈ E.IO)
    (hs : ∀ (i : Nat) (s : S), ρ[i]? = some s → isOwn s = true → σ[i]? ≠ some (some (V.ref p))) : RE G E σ ρ (upd Hm p o) H := by
  have sm : Same Hm (upd Hm p o) := Same.upd hn
  refine ⟨fun b x e => ?_, re.len, fun i s hi => ?_, re.sep, re.fix, re.pres, re.mono.trans sm, fun a x e => ?_⟩
  · by_cases hb : b = p
    · subst hb; rw [upd_same] at e; cases e; exact ho
    · rw [upd_ne hb] at e; exact re.sub b x e
  · have h := re.sl i s hi
    have hh := hs i s hi
    cases s with
    | un => trivial
    | val d => obtain ⟨v, e, r⟩ := h; exact ⟨v, e, r.mono sm⟩
    | own d =>
      obtain ⟨q, ob, e, n, t, tp, z⟩ := h
      refine ⟨q, ob, e, ?_, t, tp.mono sm, z⟩
      rw [upd_ne (fun z => hh rfl (by rw [e, z]))]; exact n
  · by_cases hb : a = p
    · subst hb; exact .inr he
    · rw [upd_ne hb] at e; exact re.frsh a x e
/-- the heap grows -/
theorem RE.grow (re : RE G E σ ρ Hm H) (s : Same H H') : RE G E σ ρ Hm H' := by
  refine ⟨re.sub.trans s, re.len, fun i t hi => ?_, re.sep, re.fix, fun a o e n => s _ _ (re.pres a o e n), re.mono, re.frsh⟩
  have h := re.sl i t hi
  cases t with
  | un => trivial
  | val d => exact h
  | own d => obtain ⟨q, ob, e, n, t, tp, z⟩ := h; exact ⟨q, ob, e, n, s _ _ t, tp, z⟩
/-- a new object beside -/
theorem RE.new {p : Addr} {o : HO} (re : RE G E σ ρ Hm H) (h : H p = none) : RE G E σ ρ Hm (upd H p o) ∧ Hm p = none ∧ (E.H0 p = none ∨ p ∈ E.IO) ∧ ∀ (i : Nat) (s : S), ρ[i]? = some s → isOwn s = true → σ[i]? ≠ some (some (V.ref p)) := by
  refine ⟨re.grow (Same.upd h), Same.free re.sub h, ?_, fun i s hi os e => ?_⟩
  · by_cases hi : p ∈ E.IO
    · exact .inr hi
    · refine .inl ?_
      cases q : E.H0 p with
      | none => rfl
      | some x =>
        have := re.pres p x q hi
        rw [h] at this; cases this
  · obtain ⟨q, ob, e1, _, t, _⟩ := (re.sl i s hi).own os
    rw [e] at e1
    cases e1
    rw [h] at t; cases t
/-- the slot i is given another state -/
theorem RE.setS {i : Nat} {s : S} (re : RE G E σ ρ Hm H) (h : SlotOk G E Hm H σ[i]? s) (hs : isOwn s = true → ∃ t, ρ[i]? = some t ∧ isOwn t = true) : RE G E σ (ρ.set i s) Hm H := by
  refine ⟨re.sub, by rw [List.length_set]; exact re.len, fun j t hj => ?_, fun j k t u p n hj hk ot ou ej ek => ?_, re.fix, re.pres, re.mono, re.frsh⟩
  · by_cases hi : i = j
    · subst hi
      by_cases hl : i < ρ.length
      · rw [List.getElem?_set_self hl] at hj; cases hj; exact h
      · rw [List.getElem?_eq_none (by rw [List.length_set]; omega)] at hj; cases hj
    · rw [List.getElem?_set_ne hi] at hj; exact re.sl j t hj
  · have f : ∀ j t, (ρ.set i s)[j]? = some t → isOwn t = true → ∃ t', ρ[j]? = some t' ∧ isOwn t' = true := fun j t hj ot => by
      by_cases hi : i = j
      · subst hi
        by_cases hl : i < ρ.length
        · rw [List.getElem?_set_self hl] at hj; cases hj; exact hs ot
        · rw [List.getElem?_eq_none (by rw [List.length_set]; omega)] at hj; cases hj
      · rw [List.getElem?_set_ne hi] at hj; exact ⟨t, hj, ot⟩
    obtain ⟨t', e1, o1⟩ := f j t hj ot
    obtain ⟨u', e2, o2⟩ := f k u hk ou
    exact re.sep j k t' u' p n e1 e2 o1 o2 ej ek
end
/-! ## names -/
/-- take the value of a name: a name's own object becomes a shared one -/
def takeS (i : Nat) : M R := fun ρ => match ρ[i]? with
  | some (.val d) => .ok ⟨d, false⟩ ρ
  | some (.own d) => .ok ⟨d, false⟩ (ρ.set i (.val d))
  | _ => .bad
section
variable {X : Cx} {G : GC} {W : WX} {E : Ent} {σ : L2.St} {ρ : List S} {Hm H : Hp}
theorem RE.lower {i : Nat} {s : S} {d : D} {p : Addr} {o : HO} (re : RE G E σ ρ Hm H) (hi : ρ[i]? = some s) (os : isOwn s = true) (e : σ[i]? = some (some (.ref p))) (n : Hm p = none) (t : H p = some o) (tp : Top G Hm o d) (z : E.H0 p = none ∨ p ∈ E.IO) :
    RE G E σ (ρ.set i (.val d)) (upd Hm p o) H ∧ Rep G (upd Hm p o) d (.ref p) := by
  have sm : Same Hm (upd Hm p o) := Same.upd n
  have rp : Rep G (upd Hm p o) d (.ref p) := (tp.mono sm).rep upd_same
  have hl : i < ρ.length := (List.getElem?_eq_some_iff.mp hi).1
  have r0 : RE G E σ (ρ.set i .un) Hm H := re.setS trivial (fun z => by cases z)
  have r1 : RE G E σ (ρ.set i .un) (upd Hm p o) H := r0.share n t z fun j u hj ou ej => by
    by_cases hij : i = j
    · subst hij
      rw [List.getElem?_set_self hl] at hj; cases hj; cases ou
    · rw [List.getElem?_set_ne hij] at hj
      exact re.sep i j s u p hij hi hj os ou e ej
  have r2 := r1.setS (i := i) (s := .val d) ⟨_, e, rp⟩ (fun z => by cases z)
  rw [List.set_set] at r2
  exact ⟨r2, rp⟩
theorem takeS_ok {i : Nat} {v : V} {Q : V → Hp → Prop} (re : RE G E σ ρ Hm H) (e : σ[i]? = some (some v)) (h : Sat G E W σ Hm (fun r ρ' Hm' H' v => ROk G E σ ρ' Hm' H' v r) Q (takeS i ρ)) : Q v H := by
  unfold takeS at h
  cases q : ρ[i]? with
  | none => rw [q] at h; exact h.elim
  | some s =>
    rw [q] at h
    have so := re.sl i s q
    cases s with
    | un => exact h.elim
    | val d =>
      obtain ⟨w, e2, r⟩ := so
      rw [e] at e2; cases e2
      exact h v Hm H re (Same.refl _) r
    | own d =>
      obtain ⟨p, o, e2, n, t, tp, z⟩ := so
      rw [e] at e2; cases e2
      obtain ⟨r1, r2⟩ := re.lower q rfl e n t tp z
      exact h _ _ H r1 (Same.upd n) r2
/-- a name has a value wherever its state is known -/
theorem RE.has {i : Nat} {s : S} (re : RE G E σ ρ Hm H) (h : ρ[i]? = some s) (hs : s ≠ .un) : ∃ v, σ[i]? = some (some v) := by
  have q := re.sl i s h
  cases s with
  | un => exact absurd rfl hs
  | val d => obtain ⟨v, e, _⟩ := q; exact ⟨v, e⟩
  | own d => obtain ⟨p, o, e, _⟩ := q; exact ⟨_, e⟩
theorem takeS_has {i : Nat} {Q : V → Hp → Prop} (re : RE G E σ ρ Hm H) (h : Sat G E W σ Hm (fun r ρ' Hm' H' v => ROk G E σ ρ' Hm' H' v r) Q (takeS i ρ)) : ∃ v, σ[i]? = some (some v) := by
  unfold takeS at h
  cases q : ρ[i]? with
  | none => rw [q] at h; exact h.elim
  | some s =>
    refine re.has q fun z => ?_
    subst z
    rw [q] at h; exact h.elim
theorem de_var {i : Nat} {e : Expr} (he : PE X e (tVar i)) : DE X G W e (takeS i) :=
  ⟨_, he, fun E σ ρ Hm H Q re h => by
    obtain ⟨v, e⟩ := takeS_has re h
    exact ⟨v, e, takeS_ok re e h⟩⟩
/-- a name as an operand: it is looked at when it is used -/
def nameO (i : Nat) : M O := fun ρ => match ρ[i]? with
  | some .un => .bad
  | none => .bad
  | some _ => .ok (.r i) ρ
theorem oe_var {i : Nat} {e : Expr} (he : PE X e (tVar i)) : OE X G W e (nameO i) :=
  ⟨_, he, fun E σ ρ Hm H Q re h => by
    unfold nameO at h
    cases q : ρ[i]? with
    | none => rw [q] at h; exact h.elim
    | some s =>
      have ns : s ≠ .un := fun z => by subst z; rw [q] at h; exact h.elim
      obtain ⟨v, e⟩ := re.has q ns
      refine ⟨v, e, ?_⟩
      rw [q] at h
      cases s with
      | un => exact absurd rfl ns
      | val d => exact h v Hm H re (Same.refl _) e
      | own d => exact h v Hm H re (Same.refl _) e⟩
/-- a value is shared -/
def shareO (f : M R) : M O := M.bind f fun r => M.pure (.v r.d)
theorem ROk.share {v : V} {r : R} (re : RE G E σ ρ Hm H) (h : ROk G E σ ρ Hm H v r) : ∃ Hm', RE G E σ ρ Hm' H ∧ Same Hm Hm' ∧ Rep G Hm' r.d v := by
  obtain ⟨d, f⟩ := r
  cases f with
  | false => exact ⟨Hm, re, Same.refl _, h⟩
  | true =>
    obtain ⟨p, o, e, n, t, tp, z, w⟩ := h
    subst e
    exact ⟨upd Hm p o, re.share n t z w, Same.upd n, (tp.mono (Same.upd n)).rep upd_same⟩
theorem oe_of {e : Expr} {f : M R} (h : DE X G W e f) : OE X G W e (shareO f) := by
  obtain ⟨t, he, ht⟩ := h.ex
  refine ⟨_, he, fun E σ ρ Hm H Q re h => ?_⟩
  refine ht E σ ρ Hm H _ re (h.bind fun r ρ1 v Hm1 H1 _ re1 s1 r1 h1 => ?_)
  obtain ⟨Hm2, re2, s2, rp⟩ := r1.share re1
  exact h1 v Hm2 H1 re2 s2 rp
/-- an operand's data -/
def resO (ρ : List S) : O → Option D
  | .v d => some d
  | .r i => match ρ[i]? with
    | some (.val d) => some d
    | some (.own d) => some d
    | _ => none
/-- a value is read as d: shared, or a name's own -/
inductive RepR (G : GC) (Hm H : Hp) : V → D → Prop where
  | sh {v : V} {d : D} (h : Rep G Hm d v) : RepR G Hm H v d
  | ow {p : Addr} {o : HO} {d : D} (h : H p = some o) (t : Top G Hm o d) : RepR G Hm H (.ref p) d
theorem resO_ok {v : V} {o : O} {d : D} (re : RE G E σ ρ Hm H) (h : OOk G σ Hm v o) (e : resO ρ o = some d) : RepR G Hm H v d := by
  cases o with
  | v d' => cases e; exact .sh h
  | r i =>
    have hi : σ[i]? = some (some v) := h
    unfold resO at e
    simp only at e
    cases q : ρ[i]? with
    | none => rw [q] at e; cases e
    | some s =>
      rw [q] at e
      have so := re.sl i s q
      cases s with
      | un => cases e
      | val d' => cases e; obtain ⟨w, e2, r⟩ := so; rw [hi] at e2; cases e2; exact .sh r
      | own d' => cases e; obtain ⟨p, ob, e2, n, t, tp, z⟩ := so; rw [hi] at e2; cases e2; exact .ow t tp
theorem OOk.mono {Hm' : Hp} {v : V} {o : O} (s : Same Hm Hm') (h : OOk G σ Hm v o) : OOk G σ Hm' v o := by
  cases o with
  | v d => exact Rep.mono s h
  | r i => exact h
theorem OOks.mono {Hm' : Hp} (s : Same Hm Hm') {vs : List V} {os : List O} (h : OOks G σ Hm vs os) : OOks G σ Hm' vs os := Paired.mapP h fun _ _ => OOk.mono s
theorem RepR.toRep {v : V} {d : D} (s : Same Hm H) (h : RepR G Hm H v d) : Rep G H d v := by
  cases h with
  | sh h => exact h.mono s
  | ow h t => exact (t.mono s).rep h
end
/-! ## argument lists -/
def nilA : M (List O) := M.pure []
def consA (f : M O) (g : M (List O)) : M (List O) := M.bind f fun o => M.bind g fun os => M.pure (o :: os)
section
variable {X : Cx} {G : GC} {W : WX} {e : Expr} {es : List Expr} {f : M O} {g : M (List O)}
theorem ae_nil : AE X G W [] nilA := ⟨_, pa_nil, fun E σ ρ Hm H Q re h => h [] Hm H re (Same.refl _) .nil⟩
theorem ae_cons (he : OE X G W e f) (hs : AE X G W es g) (hst : starEach (e :: es) X.env = (false, eval e X.env) :: starEach es X.env := by rfl) : AE X G W (e :: es) (consA f g) := by
  obtain ⟨t, pe, ht⟩ := he.ex
  obtain ⟨ts, pes, hts⟩ := hs.ex
  refine ⟨_, pa_cons pe pes hst, fun E σ ρ Hm H Q re h => ?_⟩
  refine ht E σ ρ Hm H _ re (h.bind fun o ρ1 v Hm1 H1 _ re1 s1 r1 h1 => ?_)
  refine hts E σ ρ1 Hm1 H1 _ re1 (h1.bind fun os ρ2 vs Hm2 H2 _ re2 s2 r2 h2 => ?_)
  exact h2 (v :: vs) Hm2 H2 re2 (Same.refl _) (.cons (r1.mono s2) r2)
end
end DL
set_option Elab.async false
set_option linter.all false
set_option maxRecDepth 100000
namespace DL
open PySem PySem.Spec PyProof.Rows L2
/-! ## what a value's data tells of the value -/
section
variable {G : GC} {Hm H : Hp} {K : PySem.W.Frag}
theorem Rd.sqL {a : Addr} {vs : List V} (h : Rd H a (.lst vs)) : SqL K H a vs := .inl h
theorem Rd.sqT {a : Addr} {vs : List V} (h : Rd H a (.tup vs)) : SqT K H a vs := .inl h
theorem Reps.length : ∀ {ds : List D} {vs : List V}, Reps G H ds vs → vs.length = ds.length
  | [], vs, h => by unfold Reps at h; rw [h]; rfl
  | d :: ds, vs, h => by
    unfold Reps at h
    obtain ⟨w, ws, e, _, q⟩ := h
    rw [e, List.length_cons, List.length_cons, Reps.length q]
theorem Reps.nil : Reps G H [] [] := by unfold Reps; rfl
theorem Reps.cons {d : D} {ds : List D} {v : V} {vs : List V} (h : Rep G H d v) (t : Reps G H ds vs) : Reps G H (d :: ds) (v :: vs) := by unfold Reps; exact ⟨v, vs, rfl, h, t⟩
theorem Reps.append : ∀ {ds es : List D} {vs ws : List V}, Reps G H ds vs → Reps G H es ws → Reps G H (ds ++ es) (vs ++ ws)
  | [], es, vs, ws, h, t => by unfold Reps at h; rw [h]; exact t
  | d :: ds, es, vs, ws, h, t => by
    unfold Reps at h
    obtain ⟨w, xs, e, r, q⟩ := h
    rw [e]
    exact Reps.cons r (Reps.append q t)
theorem Reps.get : ∀ {ds : List D} {vs : List V} {i : Nat} {v : V}, Reps G H ds vs → vs[i]? = some v → ∃ d, ds[i]? = some d ∧ Rep G H d v
  | [], vs, i, v, h, e => by unfold Reps at h; rw [h] at e; cases e
  | d :: ds, vs, i, v, h, e => by
    unfold Reps at h
    obtain ⟨w, ws, e1, r, q⟩ := h
    rw [e1] at e
    cases i with
    | zero => cases e; exact ⟨d, rfl, r⟩
    | succ i => exact Reps.get (i := i) q e
theorem Reps.get' : ∀ {ds : List D} {vs : List V} {i : Nat} {d : D}, Reps G H ds vs → ds[i]? = some d → ∃ v, vs[i]? = some v ∧ Rep G H d v
  | [], vs, i, d, h, e => by cases e
  | d' :: ds, vs, i, d, h, e => by
    unfold Reps at h
    obtain ⟨w, ws, e1, r, q⟩ := h
    rw [e1]
    cases i with
    | zero => cases e; exact ⟨w, rfl, r⟩
    | succ i => exact Reps.get' (i := i) q e
theorem Reps.take : ∀ (n : Nat) {ds : List D} {vs : List V}, Reps G H ds vs → Reps G H (ds.take n) (vs.take n)
  | 0, _, _, _ => Reps.nil
  | n + 1, [], vs, h => by unfold Reps at h; rw [h]; exact Reps.nil
  | n + 1, d :: ds, vs, h => by
    unfold Reps at h
    obtain ⟨w, ws, e, r, q⟩ := h
    rw [e]
    exact Reps.cons r (Reps.take n q)
theorem Reps.drop : ∀ (n : Nat) {ds : List D} {vs : List V}, Reps G H ds vs → Reps G H (ds.drop n) (vs.drop n)
  | 0, _, _, h => h
  | n + 1, [], vs, h => by unfold Reps at h; rw [h]; exact Reps.nil
  | n + 1, d :: ds, vs, h => by
    unfold Reps at h
    obtain ⟨w, ws, e, r, q⟩ := h
    rw [e]
    exact Reps.drop n q
theorem Reps.set {d : D} {v : V} (hd : Rep G H d v) : ∀ (n : Nat) {ds : List D} {vs : List V}, Reps G H ds vs → Reps G H (ds.set n d) (vs.set n v)
  | _, [], vs, h => by unfold Reps at h; rw [h]; exact Reps.nil
  | 0, e :: ds, vs, h => by
    unfold Reps at h
    obtain ⟨w, ws, e, r, q⟩ := h
    rw [e]
    exact Reps.cons hd q
  | n + 1, x :: ds, vs, h => by
    unfold Reps at h
    obtain ⟨w, ws, e, r, q⟩ := h
    rw [e]
    exact Reps.cons r (Reps.set hd n q)
theorem Reps.rep {ds : List D} {vs : List V} (h : Reps G H ds vs) : ∀ k : Nat, Reps G H (List.replicate k ds).flatten (List.replicate k vs).flatten
  | 0 => Reps.nil
  | k + 1 => by
    rw [List.replicate_succ, List.replicate_succ, List.flatten_cons, List.flatten_cons]
    exact Reps.append h (Reps.rep h k)
theorem Reps.reverse : ∀ {ds : List D} {vs : List V}, Reps G H ds vs → Reps G H ds.reverse vs.reverse
  | [], vs, h => by unfold Reps at h; rw [h]; exact Reps.nil
  | d :: ds, vs, h => by
    unfold Reps at h
    obtain ⟨w, ws, e, r, q⟩ := h
    rw [e, List.reverse_cons, List.reverse_cons]
    exact (Reps.reverse q).append (Reps.cons r Reps.nil)
theorem Reps.ints : ∀ {ns : List Int} {vs : List V}, Reps G H (ns.map D.int) vs → vs = ns.map V.int
  | [], vs, h => by unfold Reps at h; exact h
  | n :: ns, vs, h => by
    rw [List.map_cons] at h
    unfold Reps at h
    obtain ⟨w, ws, e, r, q⟩ := h
    unfold Rep at r
    rw [e, r, Reps.ints q]
    rfl
theorem Reps.bls : ∀ {ns : List Bool} {vs : List V}, Reps G H (ns.map D.bl) vs → vs = ns.map V.bl
  | [], vs, h => by unfold Reps at h; exact h
  | n :: ns, vs, h => by
    rw [List.map_cons] at h
    unfold Reps at h
    obtain ⟨w, ws, e, r, q⟩ := h
    unfold Rep at r
    rw [e, r, Reps.bls q]
    rfl
theorem Reps.ofInts : ∀ ns : List Int, Reps G H (ns.map D.int) (ns.map V.int)
  | [] => Reps.nil
  | n :: ns => Reps.cons (by unfold Rep; rfl) (Reps.ofInts ns)
theorem RepR.int {v : V} {i : Int} (h : RepR G Hm H v (.int i)) : v = .int i := by
  cases h with
  | sh h => unfold Rep at h; exact h
  | ow h t => exact t.elim
theorem RepR.bl {v : V} {i : Bool} (h : RepR G Hm H v (.bl i)) : v = .bl i := by
  cases h with
  | sh h => unfold Rep at h; exact h
  | ow h t => exact t.elim
theorem RepR.non {v : V} (h : RepR G Hm H v .non) : v = .non := by
  cases h with
  | sh h => unfold Rep at h; exact h
  | ow h t => exact t.elim
theorem RepR.str {v : V} {i : Str} (h : RepR G Hm H v (.str i)) : v = .str i := by
  cases h with
  | sh h => unfold Rep at h; exact h
  | ow h t => exact t.elim
theorem RepR.lst {v : V} {ds : List D} (s : Same Hm H) (h : RepR G Hm H v (.lst ds)) : ∃ a vs, v = .ref a ∧ SqL G.K H a vs ∧ Reps G Hm ds vs := by
  cases h with
  | sh h =>
    unfold Rep at h
    obtain ⟨a, vs, e, r, q⟩ := h
    exact ⟨a, vs, e, .inl (.inl (s _ _ r)), q⟩
  | ow h t =>
    obtain ⟨vs, e, q⟩ := t
    subst e
    exact ⟨_, vs, rfl, .inl (.inl h), q⟩
theorem RepR.con {v : V} {ns : List Int} (s : Same Hm H) (h : RepR G Hm H v (.con ns)) : ∃ a, v = .ref a ∧ SqL G.K H a (ns.map V.int) := by
  cases h with
  | sh h =>
    unfold Rep at h
    obtain ⟨a, e, r⟩ := h
    exact ⟨a, e, s.seq r⟩
  | ow h t => exact t.elim
theorem RepR.tup {v : V} {ds : List D} (s : Same Hm H) (h : RepR G Hm H v (.tup ds)) : ∃ a vs, v = .ref a ∧ SqT G.K H a vs ∧ Reps G Hm ds vs := by
  cases h with
  | sh h =>
    unfold Rep at h
    obtain ⟨a, vs, e, r, q⟩ := h
    exact ⟨a, vs, e, Same.seqT s r, q⟩
  | ow h t =>
    obtain ⟨vs, e, q⟩ := t
    subst e
    exact ⟨_, vs, rfl, .inl (.inl h), q⟩
theorem RepR.obj {v : V} {c : Str} {fs : List (Str × D)} (s : Same Hm H) (h : RepR G Hm H v (.obj c fs)) : ∃ a dx vs, v = .ref a ∧ Rd H a (.ins (G.cls c) dx vs) ∧ RepF G Hm fs vs := by
  cases h with
  | sh h =>
    unfold Rep at h
    obtain ⟨a, dx, vs, e, r, q⟩ := h
    exact ⟨a, dx, vs, e, Rd.same s r, q⟩
  | ow h t =>
    obtain ⟨dx, vs, e, q⟩ := t
    subst e
    exact ⟨_, dx, vs, rfl, .inl h, q⟩
end
/-! ## results of operations -/
def ResH (G : GC) (Hm H H' : Hp) (v : V) (r : R) : Prop := match r.fr with
  | false => H' = H ∧ Rep G Hm r.d v
  | true => ∃ (p : Addr) (o : HO), v = V.ref p ∧ H p = none ∧ H' = upd H p o ∧ Top G Hm o r.d
section
variable {G : GC} {E : Ent} {σ : L2.St} {ρ : List S} {Hm H H' : Hp}
theorem ResH.ok {v : V} {r : R} (re : RE G E σ ρ Hm H) (h : ResH G Hm H H' v r) : RE G E σ ρ Hm H' ∧ ROk G E σ ρ Hm H' v r := by
  obtain ⟨d, f⟩ := r
  cases f with
  | false =>
    obtain ⟨e, q⟩ := h
    subst e
    exact ⟨re, q⟩
  | true =>
    obtain ⟨p, o, e, n, e2, t⟩ := h
    subst e2
    obtain ⟨r1, r2, r3, r4⟩ := re.new (o := o) n
    exact ⟨r1, p, o, e, r2, upd_same, t, r3, r4⟩
theorem ResH.int {i : Int} : ResH G Hm H H (.int i) ⟨.int i, false⟩ := ⟨rfl, by unfold Rep; rfl⟩
theorem ResH.bl {i : Bool} : ResH G Hm H H (.bl i) ⟨.bl i, false⟩ := ⟨rfl, by unfold Rep; rfl⟩
theorem ResH.str {i : Str} : ResH G Hm H H (.str i) ⟨.str i, false⟩ := ⟨rfl, by unfold Rep; rfl⟩
theorem ResH.lst {p : Addr} {vs : List V} {ds : List D} (n : H p = none) (h : Reps G Hm ds vs) : ResH G Hm H (upd H p (.lst vs)) (.ref p) ⟨.lst ds, true⟩ := ⟨p, _, rfl, n, rfl, vs, rfl, h⟩
theorem ResH.tup {p : Addr} {vs : List V} {ds : List D} (n : H p = none) (h : Reps G Hm ds vs) : ResH G Hm H (upd H p (.tup vs)) (.ref p) ⟨.tup ds, true⟩ := ⟨p, _, rfl, n, rfl, vs, rfl, h⟩
end
/-- an operation of two values told by its data -/
def rDat (G : GC) (g : D → D → Option R) : R2 := fun x y H Q => ∃ Hm d1 d2 r, Same Hm H ∧ RepR G Hm H x d1 ∧ RepR G Hm H y d2 ∧ g d1 d2 = some r ∧ ∀ v H', ResH G Hm H H' v r → Q v H'
def lift2 (g : D → D → Option R) (a b : O) : M R := fun ρ => match resO ρ a, resO ρ b with
  | some x, some y => (match g x y with | some r => .ok r ρ | none => .bad)
  | _, _ => .bad
def fBin (g : D → D → Option R) (fa fb : M O) : M R := M.bind fa fun a => M.bind fb fun b => lift2 g a b
def uDat (G : GC) (g : D → Option R) : V → Hp → VK → Prop := fun x H Q => ∃ Hm d r, Same Hm H ∧ RepR G Hm H x d ∧ g d = some r ∧ ∀ v H', ResH G Hm H H' v r → Q v H'
def lift1 (g : D → Option R) (a : O) : M R := fun ρ => match resO ρ a with
  | some x => (match g x with | some r => .ok r ρ | none => .bad)
  | _ => .bad
def fUn (g : D → Option R) (fa : M O) : M R := M.bind fa fun a => lift1 g a
section
variable {X : Cx} {G : GC} {W : WX} {a b : Expr} {fa fb : M O} {pos : Pos}
theorem lift2_ok {E : Ent} {σ : L2.St} {ρ : List S} {Hm H : Hp} {Q : V → Hp → Prop} {g : D → D → Option R} {oa ob : O} {x y : V} (re : RE G E σ ρ Hm H) (ha : OOk G σ Hm x oa) (hb : OOk G σ Hm y ob)
    (h : Sat G E W σ Hm (fun r ρ' Hm' H' v => ROk G E σ ρ' Hm' H' v r) Q (lift2 g oa ob ρ)) : rDat G g x y H Q := by
  unfold lift2 at h
  cases e1 : resO ρ oa with
  | none => rw [e1] at h; exact h.elim
  | some d1 =>
    cases e2 : resO ρ ob with
    | none => rw [e1, e2] at h; exact h.elim
    | some d2 =>
      rw [e1, e2] at h
      simp only at h
      cases e3 : g d1 d2 with
      | none => rw [e3] at h; exact h.elim
      | some r =>
        rw [e3] at h
        refine ⟨Hm, d1, d2, r, re.sub, resO_ok re ha e1, resO_ok re hb e2, e3, fun v H' q => ?_⟩
        obtain ⟨r1, r2⟩ := q.ok re
        exact h v Hm H' r1 (Same.refl _) r2
theorem lift1_ok {E : Ent} {σ : L2.St} {ρ : List S} {Hm H : Hp} {Q : V → Hp → Prop} {g : D → Option R} {oa : O} {x : V} (re : RE G E σ ρ Hm H) (ha : OOk G σ Hm x oa)
    (h : Sat G E W σ Hm (fun r ρ' Hm' H' v => ROk G E σ ρ' Hm' H' v r) Q (lift1 g oa ρ)) : uDat G g x H Q := by
  unfold lift1 at h
  cases e1 : resO ρ oa with
  | none => rw [e1] at h; exact h.elim
  | some d1 =>
    rw [e1] at h
    simp only at h
    cases e3 : g d1 with
    | none => rw [e3] at h; exact h.elim
    | some r =>
      rw [e3] at h
      refine ⟨Hm, d1, r, re.sub, resO_ok re ha e1, e3, fun v H' q => ?_⟩
      obtain ⟨r1, r2⟩ := q.ok re
      exact h v Hm H' r1 (Same.refl _) r2
theorem bin_ok {ta tb : TE} {g : D → D → Option R} (hta : ∀ E σ ρ Hm H Q, RE G E σ ρ Hm H → Sat G E W σ Hm (fun o ρ' Hm' H' v => OOk G σ Hm' v o) Q (fa ρ) → ta σ H Q)
    (htb : ∀ E σ ρ Hm H Q, RE G E σ ρ Hm H → Sat G E W σ Hm (fun o ρ' Hm' H' v => OOk G σ Hm' v o) Q (fb ρ) → tb σ H Q) : ∀ E σ ρ Hm H Q, RE G E σ ρ Hm H → Sat G E W σ Hm (fun r ρ' Hm' H' v => ROk G E σ ρ' Hm' H' v r) Q (fBin g fa fb ρ) → tOp (rDat G g) ta tb σ H Q := by
  intro E σ ρ Hm H Q re h
  refine hta E σ ρ Hm H _ re (h.bind fun oa ρ1 x Hm1 H1 _ re1 s1 r1 h1 => ?_)
  refine htb E σ ρ1 Hm1 H1 _ re1 (h1.bind fun ob ρ2 y Hm2 H2 _ re2 s2 r2 h2 => ?_)
  exact lift2_ok re2 (r1.mono s2) r2 h2
theorem de_bin {op : Operator} {g : D → D → Option R} (ho : OpR X (binaryOp op) (rDat G g)) (ha : OE X G W a fa) (hb : OE X G W b fb) : DE X G W (.BinOp a op b pos) (fBin g fa fb) := by
  obtain ⟨ta, pa, hta⟩ := ha.ex
  obtain ⟨tb, pb, htb⟩ := hb.ex
  exact ⟨_, pe_op ho pa pb, bin_ok hta htb⟩
theorem de_un {op : UnaryOp} {g : D → Option R} (ho : UnR X (unaryOp op) (uDat G g)) (ha : OE X G W a fa) : DE X G W (.UnaryOp op a pos) (fUn g fa) := by
  obtain ⟨ta, pa, hta⟩ := ha.ex
  refine ⟨_, pe_un ho pa, fun E σ ρ Hm H Q re h => ?_⟩
  exact hta E σ ρ Hm H _ re (h.bind fun oa ρ1 x Hm1 H1 _ re1 s1 r1 h1 => lift1_ok re1 r1 h1)
theorem de_cmp {op : CmpOp} {g : D → D → Option R} (ho : OpR X (compareOp op) (rDat G g)) (ha : OE X G W a fa) (hb : OE X G W b fb) (hm : behindInMarks op b = false) : DE X G W (.Compare a [op] [b] pos) (fBin g fa fb) := by
  obtain ⟨ta, pa, hta⟩ := ha.ex
  obtain ⟨tb, pb, htb⟩ := hb.ex
  exact ⟨_, pe_cmpR ho pa pb hm, bin_ok hta htb⟩
/-- a result as a test -/
def boolR (f : M R) : M Bool := M.bind f fun r => match r.d with
  | .bl b => M.pure b
  | _ => fun _ => .bad
theorem boolR_ok {t : TE} {f : M R} (ht : ∀ E σ ρ Hm H Q, RE G E σ ρ Hm H → Sat G E W σ Hm (fun r ρ' Hm' H' v => ROk G E σ ρ' Hm' H' v r) Q (f ρ) → t σ H Q) :
    ∀ E σ ρ Hm H Q, RE G E σ ρ Hm H → Sat G E W σ Hm (fun b _ _ _ c => c = b) Q (boolR f ρ) → tTest t σ H Q := by
  intro E σ ρ Hm H Q re h
  refine ht E σ ρ Hm H _ re (h.bind fun r ρ1 x Hm1 H1 _ re1 s1 r1 h1 => ?_)
  obtain ⟨d, f⟩ := r
  cases d with
  | bl b =>
    cases f with
    | false =>
      have e : x = .bl b := by
        have q : Rep G Hm1 (.bl b) x := r1
        unfold Rep at q; exact q
      exact ⟨b, e, h1 b Hm1 H1 re1 (Same.refl _) rfl⟩
    | true => obtain ⟨p, o, _, _, _, t, _⟩ := r1; exact t.elim
  | _ => exact h1.elim
theorem dt_cmp {op : CmpOp} {g : D → D → Option R} (ho : OpR X (compareOp op) (rDat G g)) (ha : OE X G W a fa) (hb : OE X G W b fb) (hm : behindInMarks op b = false) : DT X G W (.Compare a [op] [b] pos) (boolR (fBin g fa fb)) := by
  obtain ⟨ta, pa, hta⟩ := ha.ex
  obtain ⟨tb, pb, htb⟩ := hb.ex
  exact ⟨_, pt_cmpR ho pa pb hm, boolR_ok (bin_ok hta htb)⟩
/-- a value that is a bool, as a test -/
theorem dt_val {e : Expr} {f : M R} (h : DE X G W e f) (he : ∀ whole, isTrue e X.env whole = (do let v ← whole; standAt e.pos; holding [v] (truthy v)) := by intro _; rfl) : DT X G W e (boolR f) := by
  obtain ⟨t, pe, ht⟩ := h.ex
  exact ⟨_, pt_val pe he, boolR_ok ht⟩
/-- a op b op' c -/
def fChain (g g' : D → D → Option R) (fa fb fc : M O) : M R := M.bind fa fun a => M.bind fb fun b => M.bind (boolR (lift2 g a b)) fun k => if k = true then M.bind fc fun c => lift2 g' b c else M.pure ⟨.bl false, false⟩
theorem chain_ok {ta tb tc : TE} {g g' : D → D → Option R} {fc : M O} (hta : ∀ E σ ρ Hm H Q, RE G E σ ρ Hm H → Sat G E W σ Hm (fun o ρ' Hm' H' v => OOk G σ Hm' v o) Q (fa ρ) → ta σ H Q)
    (htb : ∀ E σ ρ Hm H Q, RE G E σ ρ Hm H → Sat G E W σ Hm (fun o ρ' Hm' H' v => OOk G σ Hm' v o) Q (fb ρ) → tb σ H Q)
    (htc : ∀ E σ ρ Hm H Q, RE G E σ ρ Hm H → Sat G E W σ Hm (fun o ρ' Hm' H' v => OOk G σ Hm' v o) Q (fc ρ) → tc σ H Q) :
    ∀ E σ ρ Hm H Q, RE G E σ ρ Hm H → Sat G E W σ Hm (fun r ρ' Hm' H' v => ROk G E σ ρ' Hm' H' v r) Q (fChain g g' fa fb fc ρ) → tChain (rDat G g) (rDat G g') ta tb tc σ H Q := by
  intro E σ ρ Hm H Q re h
  refine hta E σ ρ Hm H _ re (h.bind fun oa ρ1 x Hm1 H1 _ re1 s1 r1 h1 => ?_)
  refine htb E σ ρ1 Hm1 H1 _ re1 (h1.bind fun ob ρ2 y Hm2 H2 _ re2 s2 r2 h2 => ?_)
  have r1' := r1.mono s2
  -- the first comparison
  unfold M.bind at h2
  have hb : boolR (lift2 g oa ob) ρ2 = (lift2 g oa ob ρ2).bind fun r => match r.d with | .bl b => M.pure b | _ => fun _ => .bad := rfl
  rw [hb] at h2
  cases e1 : resO ρ2 oa with
  | none => unfold lift2 at h2; rw [e1] at h2; exact h2.elim
  | some d1 =>
    cases e2 : resO ρ2 ob with
    | none => unfold lift2 at h2; rw [e1, e2] at h2; exact h2.elim
    | some d2 =>
      cases e3 : g d1 d2 with
      | none =>
        have : lift2 g oa ob ρ2 = .bad := by unfold lift2; rw [e1, e2]; simp only; rw [e3]
        rw [this] at h2
        exact h2.elim
      | some r =>
        have el : lift2 g oa ob ρ2 = .ok r ρ2 := by unfold lift2; rw [e1, e2]; simp only; rw [e3]
        rw [el] at h2
        obtain ⟨d, f⟩ := r
        refine ⟨Hm2, d1, d2, ⟨d, f⟩, re2.sub, resO_ok re2 r1' e1, resO_ok re2 r2 e2, e3, fun z H3 q3 => ?_⟩
        obtain ⟨re3, ro⟩ := q3.ok re2
        cases d with
        | bl k =>
          cases f with
          | true => obtain ⟨p, o, _, _, _, t, _⟩ := ro; exact t.elim
          | false =>
            obtain ⟨eH, rz⟩ := q3
            subst eH
            unfold Rep at rz
            refine ⟨k, rz, ?_⟩
            cases k with
            | false => exact h2 _ Hm2 H3 re3 (Same.refl _) (by show Rep G Hm2 (.bl false) _; unfold Rep; rfl)
            | true =>
              have h3 : Sat G E W σ Hm2 (fun r ρ' Hm' H' v => ROk G E σ ρ' Hm' H' v r) Q (M.bind fc (fun c => lift2 g' ob c) ρ2) := h2
              rw [if_pos rfl]
              refine htc E σ ρ2 Hm2 H3 _ re3 (h3.bind fun oc ρ4 w Hm4 H4 _ re4 s4 r4 h4 => ?_)
              exact lift2_ok re4 (r2.mono s4) r4 h4
        | _ => exact h2.elim
theorem de_chain {c : Expr} {fc : M O} {op op' : CmpOp} {g g' : D → D → Option R} (ho : OpR X (compareOp op) (rDat G g)) (ho' : OpR X (compareOp op') (rDat G g')) (ha : OE X G W a fa) (hb : OE X G W b fb) (hc : OE X G W c fc)
    (hm : lastMarks [op, op'] [b, c] = false := by with_unfolding_all rfl) : DE X G W (.Compare a [op, op'] [b, c] pos) (fChain g g' fa fb fc) := by
  obtain ⟨ta, pa, hta⟩ := ha.ex
  obtain ⟨tb, pb, htb⟩ := hb.ex
  obtain ⟨tc, pc, htc⟩ := hc.ex
  exact ⟨_, pe_chain ho ho' pa pb pc hm, chain_ok hta htb htc⟩
theorem dt_chain {c : Expr} {fc : M O} {op op' : CmpOp} {g g' : D → D → Option R} (ho : OpR X (compareOp op) (rDat G g)) (ho' : OpR X (compareOp op') (rDat G g')) (ha : OE X G W a fa) (hb : OE X G W b fb) (hc : OE X G W c fc)
    (hm : lastMarks [op, op'] [b, c] = false := by with_unfolding_all rfl) : DT X G W (.Compare a [op, op'] [b, c] pos) (boolR (fChain g g' fa fb fc)) := by
  obtain ⟨ta, pa, hta⟩ := ha.ex
  obtain ⟨tb, pb, htb⟩ := hb.ex
  obtain ⟨tc, pc, htc⟩ := hc.ex
  exact ⟨_, pt_chain ho ho' pa pb pc hm, boolR_ok (chain_ok hta htb htc)⟩
/-! ## constants -/
def cst (d : D) : M R := M.pure ⟨d, false⟩
theorem de_c {e : Expr} {d : D} {v : V} (he : PE X e (tC v)) (h : ∀ Hm, Rep G Hm d v) : DE X G W e (cst d) := ⟨_, he, fun E σ ρ Hm H Q re q => q v Hm H re (Same.refl _) (h Hm)⟩
theorem de_int {i : Int} {j : Nat} {pos : Pos} : DE X G W (.Constant (.int i) j pos) (cst (.int i)) := de_c pe_int fun _ => by unfold Rep; rfl
theorem de_bl {b : Bool} {j : Nat} {pos : Pos} : DE X G W (.Constant (.bool b) j pos) (cst (.bl b)) := de_c pe_bl fun _ => by unfold Rep; rfl
theorem de_non {j : Nat} {pos : Pos} : DE X G W (.Constant .none j pos) (cst .non) := de_c pe_non fun _ => by unfold Rep; rfl
theorem de_str {x : Str} {j : Nat} {pos : Pos} : DE X G W (.Constant (.str x) j pos) (cst (.str x)) := de_c pe_str fun _ => by unfold Rep; rfl
theorem de_gint {x : Str} {i : Int} {t : Tok} {pos : Pos} (hg : Gl X x) (hm : X.mg x = some (.int i t)) (hd : (x == ("__debug__" : Str)) = false := by decide) : DE X G W (.Name x pos) (cst (.int i)) :=
  de_c (pe_glob (v := V.int i) hg hm ⟨t, rfl⟩ hd) fun _ => by unfold Rep; rfl
/-! ## tests: and, or, not, if-expressions -/
structure DW (X : Cx) (G : GC) (W : WX) (e : Expr) (f : M Bool) : Prop where
  ex : ∃ t, PW X e t ∧ ∀ E σ ρ Hm H Q, RE G E σ ρ Hm H → Sat G E W σ Hm (fun b _ _ _ c => c = b) Q (f ρ) → t σ H Q
def fAnd (f g : M Bool) : M Bool := M.bind f fun c => if c = true then g else M.pure false
def fOr (f g : M Bool) : M Bool := M.bind f fun c => if c = true then M.pure true else g
def fNot (f : M Bool) : M Bool := M.bind f fun c => M.pure (!c)
variable {f g : M Bool} {rest : List Expr}
theorem DW.dt {e : Expr} (h : DW X G W e f) : DT X G W e f := let ⟨_, p, q⟩ := h.ex; ⟨_, p.pt, q⟩
theorem dw_and1 (ha : DT X G W a f) : DW X G W (.BoolOp .And [a] pos) f := let ⟨_, p, q⟩ := ha.ex; ⟨_, pw_and1 p, q⟩
theorem dw_or1 (ha : DT X G W a f) : DW X G W (.BoolOp .Or [a] pos) f := let ⟨_, p, q⟩ := ha.ex; ⟨_, pw_or1 p, q⟩
theorem dw_and (ha : DT X G W a f) (hb : DW X G W (.BoolOp .And (b :: rest) pos) g) : DW X G W (.BoolOp .And (a :: b :: rest) pos) (fAnd f g) := by
  obtain ⟨t, p, q⟩ := ha.ex
  obtain ⟨t2, p2, q2⟩ := hb.ex
  refine ⟨_, pw_and p p2, fun E σ ρ Hm H Q re h => ?_⟩
  refine q E σ ρ Hm H _ re (h.bind fun c ρ1 x Hm1 H1 _ re1 s1 r1 h1 => ?_)
  subst r1
  cases x with
  | true => exact q2 E σ ρ1 Hm1 H1 _ re1 h1
  | false => exact h1 _ Hm1 H1 re1 (Same.refl _) rfl
theorem dw_or (ha : DT X G W a f) (hb : DW X G W (.BoolOp .Or (b :: rest) pos) g) : DW X G W (.BoolOp .Or (a :: b :: rest) pos) (fOr f g) := by
  obtain ⟨t, p, q⟩ := ha.ex
  obtain ⟨t2, p2, q2⟩ := hb.ex
  refine ⟨_, pw_or p p2, fun E σ ρ Hm H Q re h => ?_⟩
  refine q E σ ρ Hm H _ re (h.bind fun c ρ1 x Hm1 H1 _ re1 s1 r1 h1 => ?_)
  subst r1
  cases x with
  | false => exact q2 E σ ρ1 Hm1 H1 _ re1 h1
  | true => exact h1 _ Hm1 H1 re1 (Same.refl _) rfl
theorem dt_not (ha : DT X G W a f) : DT X G W (.UnaryOp .Not a pos) (fNot f) := by
  obtain ⟨t, p, q⟩ := ha.ex
  refine ⟨_, pt_not p, fun E σ ρ Hm H Q re h => ?_⟩
  refine q E σ ρ Hm H _ re (h.bind fun c ρ1 x Hm1 H1 _ re1 s1 r1 h1 => ?_)
  subst r1
  exact h1 _ Hm1 H1 re1 (Same.refl _) rfl
def fIf {α : Type} (f : M Bool) (g h : M α) : M α := M.bind f fun c => if c = true then g else h
theorem de_if {c : Expr} {fc : M Bool} {f g : M R} (hc : DT X G W c fc) (ha : DE X G W a f) (hb : DE X G W b g) : DE X G W (.IfExp c a b pos) (fIf fc f g) := by
  obtain ⟨t, p, q⟩ := hc.ex
  obtain ⟨t1, p1, q1⟩ := ha.ex
  obtain ⟨t2, p2, q2⟩ := hb.ex
  refine ⟨_, pe_ifExp p p1 p2, fun E σ ρ Hm H Q re h => ?_⟩
  refine q E σ ρ Hm H _ re (h.bind fun c ρ1 x Hm1 H1 _ re1 s1 r1 h1 => ?_)
  subst r1
  cases x with
  | true => exact q1 E σ ρ1 Hm1 H1 _ re1 h1
  | false => exact q2 E σ ρ1 Hm1 H1 _ re1 h1
/-- and, or, not as values (of bools) -/
def retB (f : M Bool) : M R := M.bind f fun b => M.pure ⟨.bl b, false⟩
def fAndV (f : M Bool) (g : M R) : M R := M.bind f fun c => if c = true then g else M.pure ⟨.bl false, false⟩
def fOrV (f : M Bool) (g : M R) : M R := M.bind f fun c => if c = true then M.pure ⟨.bl true, false⟩ else g
theorem repBl {Hm : Hp} {b : Bool} : Rep G Hm (.bl b) (.bl b) := by unfold Rep; rfl
theorem de_one {op : BoolOp} {f : M R} (h : DE X G W a f) : DE X G W (.BoolOp op [a] pos) f := let ⟨_, p, q⟩ := h.ex; ⟨_, pe_one p, q⟩
theorem de_and {f g : M R} (ha : DE X G W a f) (hb : DE X G W (.BoolOp .And (b :: rest) pos) g) : DE X G W (.BoolOp .And (a :: b :: rest) pos) (fAndV (boolR f) g) := by
  obtain ⟨t, p, q⟩ := ha.ex
  obtain ⟨t2, p2, q2⟩ := hb.ex
  refine ⟨_, pe_and p p2, fun E σ ρ Hm H Q re h => ?_⟩
  refine boolR_ok q E σ ρ Hm H (fun c H1 => if c = true then t2 σ H1 Q else Q (.bl false) H1) re (h.bind fun c ρ1 x Hm1 H1 _ re1 s1 r1 h1 => ?_)
  subst r1
  cases x with
  | true => exact q2 E σ ρ1 Hm1 H1 _ re1 h1
  | false => exact h1 _ Hm1 H1 re1 (Same.refl _) (show Rep G Hm1 (.bl false) (.bl false) from repBl)
theorem de_or {f g : M R} (ha : DE X G W a f) (hb : DE X G W (.BoolOp .Or (b :: rest) pos) g) : DE X G W (.BoolOp .Or (a :: b :: rest) pos) (fOrV (boolR f) g) := by
  obtain ⟨t, p, q⟩ := ha.ex
  obtain ⟨t2, p2, q2⟩ := hb.ex
  refine ⟨_, pe_or p p2, fun E σ ρ Hm H Q re h => ?_⟩
  refine boolR_ok q E σ ρ Hm H (fun c H1 => if c = true then Q (.bl true) H1 else t2 σ H1 Q) re (h.bind fun c ρ1 x Hm1 H1 _ re1 s1 r1 h1 => ?_)
  subst r1
  cases x with
  | false => exact q2 E σ ρ1 Hm1 H1 _ re1 h1
  | true => exact h1 _ Hm1 H1 re1 (Same.refl _) (show Rep G Hm1 (.bl true) (.bl true) from repBl)
theorem de_not {f : M R} (ha : DE X G W a f) : DE X G W (.UnaryOp .Not a pos) (retB (fNot (boolR f))) := by
  obtain ⟨t, p, q⟩ := ha.ex
  refine ⟨_, pe_not p, fun E σ ρ Hm H Q re h => ?_⟩
  refine boolR_ok q E σ ρ Hm H (fun c H1 => Q (.bl (!c)) H1) re ?_
  have e : retB (fNot (boolR f)) ρ = M.bind (boolR f) (fun c => M.pure ⟨.bl (!c), false⟩) ρ := by
    show ((boolR f ρ).bind _).bind _ = (boolR f ρ).bind _
    cases boolR f ρ <;> rfl
  rw [e] at h
  refine h.bind fun c ρ1 x Hm1 H1 _ re1 s1 r1 h1 => ?_
  subst r1
  exact h1 _ Hm1 H1 re1 (Same.refl _) (show Rep G Hm1 (.bl (!x)) (.bl (!x)) from repBl)
/-! ## displays -/
def resOs (ρ : List S) : List O → Option (List D)
  | [] => some []
  | o :: os => match resO ρ o, resOs ρ os with
    | some d, some ds => some (d :: ds)
    | _, _ => none
/-- operands as shared values: names are taken -/
def valsOf : List O → Option (List D)
  | [] => some []
  | .v d :: os => (valsOf os).map (d :: ·)
  | _ => none
theorem valsOf_ok {σ : L2.St} {Hm : Hp} : ∀ {vs : List V} {os : List O} {ds : List D}, OOks G σ Hm vs os → valsOf os = some ds → Reps G Hm ds vs
  | _, _, ds, .nil, e => by cases e; exact Reps.nil
  | _, .v d :: os, ds, .cons h1 h2, e => by
    unfold valsOf at e
    cases q : valsOf os with
    | none => rw [q] at e; cases e
    | some es =>
      rw [q] at e
      cases e
      exact Reps.cons h1 (valsOf_ok h2 q)
  | _, .r i :: os, ds, .cons h1 h2, e => by cases e
def sizeD : Nat := 16777216
theorem sizeD_eq : sizeLine = sizeD := sizeLine_eq
/-- go on where c is true -/
def gd {α : Type} (c : Bool) (m : M α) : M α := match c with
  | true => m
  | false => fun _ => .bad
def fDisp (mk : List D → D) (f : M (List O)) : M R := M.bind f fun os => match valsOf os with
  | some ds => gd (decide (ds.length ≤ sizeD)) (M.pure ⟨mk ds, true⟩)
  | none => fun _ => .bad
theorem disp_ok {fs : M (List O)} {t : TA} {mk : List D → D} {mkO : List V → HO} (hmk : ∀ Hm vs ds, Reps G Hm ds vs → Top G Hm (mkO vs) (mk ds))
    (ht : ∀ E σ ρ Hm H Q, RE G E σ ρ Hm H → Sat G E W σ Hm (fun os ρ' Hm' H' vs => OOks G σ Hm' vs os) Q (fs ρ) → t σ H Q) :
    ∀ E σ ρ Hm H (Q : VK), RE G E σ ρ Hm H → Sat G E W σ Hm (fun r ρ' Hm' H' v => ROk G E σ ρ' Hm' H' v r) Q (fDisp mk fs ρ) → t σ H fun xs H1 => xs.length ≤ sizeLine ∧ ∀ p, H1 p = none → Q (.ref p) (upd H1 p (mkO xs)) := by
  intro E σ ρ Hm H Q re h
  refine ht E σ ρ Hm H _ re (h.bind fun os ρ1 vs Hm1 H1 _ re1 s1 r1 h1 => ?_)
  cases e : valsOf os with
  | none => rw [e] at h1; exact h1.elim
  | some ds =>
    rw [e] at h1
    simp only at h1
    have rp := valsOf_ok r1 e
    by_cases hl : ds.length ≤ sizeD
    · rw [decide_eq_true hl] at h1
      refine ⟨by rw [rp.length, sizeD_eq]; exact hl, fun p hp => ?_⟩
      obtain ⟨a1, a2, a3, a4⟩ := re1.new (o := mkO vs) hp
      exact h1 _ Hm1 _ a1 (Same.refl _) ⟨p, _, rfl, a2, upd_same, hmk _ _ _ rp, a3, a4⟩
    · rw [decide_eq_false hl] at h1; exact h1.elim
theorem de_lst {es : List Expr} {fs : M (List O)} (h : AE X G W es fs) : DE X G W (.List es pos) (fDisp .lst fs) :=
  let ⟨_, p, q⟩ := h.ex; ⟨_, pe_lst p, disp_ok (fun _ vs _ r => ⟨vs, rfl, r⟩) q⟩
theorem de_tup {es : List Expr} {fs : M (List O)} {k : Nat} (h : AE X G W es fs) : DE X G W (.Tuple es k pos) (fDisp .tup fs) :=
  let ⟨_, p, q⟩ := h.ex; ⟨_, pe_tup p, disp_ok (fun _ vs _ r => ⟨vs, rfl, r⟩) q⟩
end
end DL
set_option Elab.async false
set_option linter.all false
set_option maxRecDepth 100000
namespace DL
open PySem PySem.Spec PyProof.Rows L2
/-! ## numbers -/
def ri (i : Int) : Option R := some ⟨.int i, false⟩
def rb (b : Bool) : Option R := some ⟨.bl b, false⟩
def smallI (i : Int) : Bool := decide (-(2 ^ 64) < i) && decide (i < 2 ^ 64)
def okMul (i j : Int) : Bool := smallI i || smallI j || decide (i.natAbs.log2 + j.natAbs.log2 < 1000000)
def okDiv (j : Int) : Bool := decide (0 < j) && decide (j.natAbs.log2 < 9000)
def okPow (i j : Int) : Bool := decide (0 ≤ j) && decide (j ≤ 1000000) && decide (i.natAbs < 2 ^ 64)
def addD : D → D → Option R
  | .int i, .int j => ri (i + j)
  | .lst xs, .lst ys => if xs.length + ys.length ≤ sizeD then some ⟨.lst (xs ++ ys), true⟩ else none
  | .str a, .str b => if a.length + b.length ≤ sizeD then some ⟨.str (a ++ b), false⟩ else none
  | _, _ => none
def subD : D → D → Option R
  | .int i, .int j => ri (i - j)
  | _, _ => none
def mulD : D → D → Option R
  | .int i, .int j => if okMul i j = true then ri (i * j) else none
  | .lst xs, .int k => if xs.length * k.toNat ≤ sizeD ∧ -(2 ^ 63) ≤ k ∧ k < 2 ^ 63 then some ⟨.lst (List.replicate k.toNat xs).flatten, true⟩ else none
  | _, _ => none
def fdivD : D → D → Option R
  | .int i, .int j => if okDiv j = true then ri (i / j) else none
  | _, _ => none
def modD : D → D → Option R
  | .int i, .int j => if 0 < j then ri (i % j) else none
  | _, _ => none
def shlD : D → D → Option R
  | .int i, .int j => if okPow i j = true then ri (i * 2 ^ j.toNat) else none
  | _, _ => none
def shrD : D → D → Option R
  | .int i, .int j => if 0 ≤ j then ri (i / 2 ^ j.toNat) else none
  | _, _ => none
def powD : D → D → Option R
  | .int i, .int j => if okPow i j = true then ri (i ^ j.toNat) else none
  | _, _ => none
def andD : D → D → Option R
  | .int i, .int j => ri (Builtin.bitAnd i j)
  | _, _ => none
def negD : D → Option R
  | .int i => ri (-i)
  | _ => none
section
variable {X : Cx} {G : GC}
theorem ints_of {g : D → D → Option R} {h : Int → Int → Option Int} (hg : ∀ d e r, g d e = some r → ∃ i j k, d = .int i ∧ e = .int j ∧ h i j = some k ∧ r = ⟨.int k, false⟩)
    {x y : V} {H : Hp} {Q : VK} (q : rDat G g x y H Q) : ∃ i j k, x = .int i ∧ y = .int j ∧ h i j = some k ∧ Q (.int k) H := by
  obtain ⟨Hm, d1, d2, r, s, h1, h2, e, w⟩ := q
  obtain ⟨i, j, k, e1, e2, e3, e4⟩ := hg _ _ _ e
  subst e1; subst e2; subst e4
  exact ⟨i, j, k, h1.int, h2.int, e3, w _ _ ResH.int⟩
theorem OpR.imp {f : Value → Value → Sem Value} {r r' : R2} (h : OpR X f r) (i : ∀ x y H Q, r' x y H Q → r x y H Q) : OpR X f r' := fun pins s σ H x y v u Q I rx ry q => h pins s σ H x y v u Q I rx ry (i x y H Q q)
theorem smallI_of {i : Int} (h : smallI i = true) : -(2 ^ 64) < i ∧ i < 2 ^ 64 := by
  unfold smallI at h
  rw [Bool.and_eq_true, decide_eq_true_eq, decide_eq_true_eq] at h
  exact h
theorem ri_some {i : Int} {r : R} (h : ri i = some r) : r = ⟨.int i, false⟩ := (Option.some.inj h).symm
/-- list + list, whatever holds them -/
theorem op_catS : OpR X (binaryOp .Add) (fun x y H Q => ∃ l b xs zs, x = .ref l ∧ y = .ref b ∧ SqL X.K H l xs ∧ SqL X.K H b zs ∧ xs.length + zs.length ≤ sizeLine ∧ ∀ p, H p = none → Q (.ref p) (upd H p (.lst (xs ++ zs)))) := by
  intro pins s σ H x y v u Q I rx ry h
  obtain ⟨l, b, xs, zs, rfl, rfl, hH, hB, hz, q⟩ := h
  cases rx
  cases ry
  obtain ⟨vs, r, pl, z⟩ := I.list hH
  obtain ⟨ws, r2, pl2, z2⟩ := I.list hB
  obtain ⟨⟨cls, dd, data, sl⟩, ho, hc, n, hd⟩ := pl.isList
  obtain ⟨⟨cls2, dd2, data2, sl2⟩, ho2, hc2, n2, hd2⟩ := pl2.isList
  simp only at hc hd hc2 hd2
  subst hc hd hc2 hd2
  have e : vs.toArray ++ ws.toArray = (vs ++ ws).toArray := by simp
  have l1 := r.length
  have l2 := r2.length
  refine concat_meets ⟨_, ho, rfl⟩ ⟨_, ho2, rfl⟩ noFill_list_add seq_list_add PySem.F.slot_list_add PySem.F.entry_list_add (PySem.F.args_list_add_2 _ _) (list_addW l b vs.toArray ws.toArray n n2 dd dd2 sl sl2 (by rw [List.size_toArray, List.size_toArray]; omega)) ⟨ho, ho2, ?_⟩
  rw [e]
  exact ⟨.ref _, _, I.lnew (t' := s.toks) (r.append r2) (by rw [List.length_append]; omega), rfl, q _ I.fresh⟩
theorem op_repS : OpR X (binaryOp .Mult) (fun x y H Q => ∃ l k xs, x = .ref l ∧ y = .int k ∧ SqL X.K H l xs ∧ -(2 ^ 63) ≤ k ∧ k < 2 ^ 63 ∧ xs.length * k.toNat ≤ sizeLine ∧ ∀ p, H p = none → Q (.ref p) (upd H p (.lst (List.replicate k.toNat xs).flatten))) := by
  intro pins s σ H x y v u Q I rx ry h
  obtain ⟨l, k, xs, rfl, rfl, hH, h1, h2, hz, q⟩ := h
  cases rx
  obtain ⟨t, rfl⟩ := ry
  obtain ⟨vs, r, pl, z⟩ := I.list hH
  obtain ⟨⟨cls, d, data, sl⟩, ho, hcl, n, hd⟩ := pl.isList
  simp only at hcl hd
  subst hcl hd
  have l1 := r.length
  have hz' : xs.length * k.toNat ≤ 16777216 := by rw [sizeLine_eq] at hz; exact hz
  have hsz' : vs.toArray.size * k.toNat ≤ 2 ^ 24 := by rw [List.size_toArray, ← l1]; omega
  refine wpAny_binaryOp_repeat_ref (T := "list") (U := "int") (by decide) ⟨_, ho, rfl⟩ (fun s' => typeIs_int s' k t) noFill_list_mul F.fills_int_mul F.slot_int_rmul repeat_list F.slot_int_index.lookup
    (call_meets F.slot_int_rmul (typeIs_int s k t) F.entry_int_rmul (F.args_int_rmul_2 _ _) (lm_int_rmul_list_any k t l vs.toArray n d sl)
      ⟨ho, rfl, ⟨_, ho, rfl⟩, call_meets F.slot_list_mul ⟨_, ho, rfl⟩ F.entry_list_mul (F.args_list_mul_2 _ _)
        (lm_list_mul_any l vs.toArray n d sl k t (by simp [Builtin.List.listFitsIndex]; omega) (by omega) (by simp [Builtin.List.listTooLong, sizeLine]; omega))
        ⟨ho, ?_⟩⟩)
  rw [listMul_foldl_if]
  exact ⟨.ref _, _, I.lnew (t' := s.toks) (r.rep k.toNat) (by rw [PyProof.Rows.lm_len_rep_flat, Nat.mul_comm]; exact hz), rfl, q _ I.fresh⟩
theorem op_addD (hK : G.K = X.K := by rfl) : OpR X (binaryOp .Add) (rDat G addD) := by
  refine OpR.imp ((op_add.or (op_catS.or op_add_str))) fun x y H Q q => ?_
  obtain ⟨Hm, d1, d2, r, s, h1, h2, e, w⟩ := q
  cases d1 with
  | int i =>
    cases d2 with
    | int j => exact .inl ⟨i, j, h1.int, h2.int, w _ _ (by rw [ri_some e]; exact ResH.int)⟩
    | _ => cases e
  | lst xs =>
    cases d2 with
    | lst ys =>
      obtain ⟨a, vs, e1, r1, q1⟩ := h1.lst s
      obtain ⟨b, ws, e2, r2, q2⟩ := h2.lst s
      have e' : (if xs.length + ys.length ≤ sizeD then some (R.mk (.lst (xs ++ ys)) true) else none) = some r := e
      by_cases hl : xs.length + ys.length ≤ sizeD
      · rw [if_pos hl] at e'
        cases e'
        exact .inr (.inl ⟨a, b, vs, ws, e1, e2, hK ▸ r1, hK ▸ r2, by rw [q1.length, q2.length]; exact hl, fun p hp => w _ _ (ResH.lst hp (q1.append q2))⟩)
      · rw [if_neg hl] at e'; cases e'
    | _ => cases e
  | str a =>
    cases d2 with
    | str b =>
      have e' : (if a.length + b.length ≤ sizeD then some (R.mk (.str (a ++ b)) false) else none) = some r := e
      by_cases hl : a.length + b.length ≤ sizeD
      · rw [if_pos hl] at e'
        cases e'
        exact .inr (.inr ⟨a, b, h1.str, h2.str, hl, w _ _ ResH.str⟩)
      · rw [if_neg hl] at e'; cases e'
    | _ => cases e
  | _ => cases e
theorem op_subD : OpR X (binaryOp .Sub) (rDat G subD) := by
  refine OpR.imp op_sub fun x y H Q q => ?_
  obtain ⟨i, j, k, e1, e2, e3, w⟩ := ints_of (h := fun i j => some (i - j)) (fun d e r h => by
    cases d with
    | int i =>
      cases e with
      | int j => exact ⟨i, j, _, rfl, rfl, rfl, ri_some h⟩
      | _ => cases h
    | _ => cases h) q
  cases e3
  exact ⟨i, j, e1, e2, w⟩
theorem op_mulD (hK : G.K = X.K := by rfl) : OpR X (binaryOp .Mult) (rDat G mulD) := by
  refine OpR.imp (op_mul.or (op_mulW.or op_repS)) fun x y H Q q => ?_
  obtain ⟨Hm, d1, d2, r, s, h1, h2, e, w⟩ := q
  cases d1 with
  | int i =>
    cases d2 with
    | int j =>
      have e' : (if okMul i j = true then ri (i * j) else none) = some r := e
      by_cases hl : okMul i j = true
      · rw [if_pos hl] at e'
        have wq := w _ _ (by rw [ri_some e']; exact ResH.int)
        unfold okMul at hl
        rw [Bool.or_eq_true, Bool.or_eq_true, decide_eq_true_eq] at hl
        rcases hl with (hl | hl) | hl
        · exact .inl ⟨i, j, h1.int, h2.int, .inl (smallI_of hl), wq⟩
        · exact .inl ⟨i, j, h1.int, h2.int, .inr (smallI_of hl), wq⟩
        · exact .inr (.inl ⟨i, j, h1.int, h2.int, hl, wq⟩)
      · rw [if_neg hl] at e'; cases e'
    | _ => cases e
  | lst xs =>
    cases d2 with
    | int k =>
      have e' : (if xs.length * k.toNat ≤ sizeD ∧ -(2 ^ 63) ≤ k ∧ k < 2 ^ 63 then some (R.mk (.lst (List.replicate k.toNat xs).flatten) true) else none) = some r := e
      by_cases hl : xs.length * k.toNat ≤ sizeD ∧ -(2 ^ 63) ≤ k ∧ k < 2 ^ 63
      · rw [if_pos hl] at e'
        cases e'
        obtain ⟨a, vs, e1, r1, q1⟩ := h1.lst s
        exact .inr (.inr ⟨a, k, vs, e1, h2.int, hK ▸ r1, hl.2.1, hl.2.2, by rw [q1.length]; exact hl.1, fun p hp => w _ _ (ResH.lst hp (q1.rep _))⟩)
      · rw [if_neg hl] at e'; cases e'
    | _ => cases e
  | _ => cases e
theorem op_fdivD : OpR X (binaryOp .FloorDiv) (rDat G fdivD) := by
  refine OpR.imp op_fdivW fun x y H Q q => ?_
  obtain ⟨i, j, k, e1, e2, e3, w⟩ := ints_of (h := fun i j => if okDiv j = true then some (i / j) else none) (fun d e r h => by
    cases d with
    | int i =>
      cases e with
      | int j =>
        refine ⟨i, j, i / j, rfl, rfl, ?_⟩
        have h' : (if okDiv j = true then ri (i / j) else none) = some r := h
        by_cases c : okDiv j = true
        · rw [if_pos c] at h'; rw [if_pos c]; exact ⟨rfl, ri_some h'⟩
        · rw [if_neg c] at h'; cases h'
      | _ => cases h
    | _ => cases h) q
  by_cases c : okDiv j = true
  · rw [if_pos c] at e3
    cases e3
    unfold okDiv at c
    rw [Bool.and_eq_true, decide_eq_true_eq, decide_eq_true_eq] at c
    exact ⟨i, j, e1, e2, c, w⟩
  · rw [if_neg c] at e3; cases e3
theorem op_modD : OpR X (binaryOp .Mod) (rDat G modD) := by
  refine OpR.imp op_mod fun x y H Q q => ?_
  obtain ⟨i, j, k, e1, e2, e3, w⟩ := ints_of (h := fun i j => if 0 < j then some (i % j) else none) (fun d e r h => by
    cases d with
    | int i =>
      cases e with
      | int j =>
        refine ⟨i, j, i % j, rfl, rfl, ?_⟩
        have h' : (if 0 < j then ri (i % j) else none) = some r := h
        by_cases c : 0 < j
        · rw [if_pos c] at h'; rw [if_pos c]; exact ⟨rfl, ri_some h'⟩
        · rw [if_neg c] at h'; cases h'
      | _ => cases h
    | _ => cases h) q
  by_cases c : 0 < j
  · rw [if_pos c] at e3
    cases e3
    exact ⟨i, j, e1, e2, c, w⟩
  · rw [if_neg c] at e3; cases e3
theorem okPow_of {i j : Int} (h : okPow i j = true) : CPow i j := by
  unfold okPow at h
  rw [Bool.and_eq_true, Bool.and_eq_true, decide_eq_true_eq, decide_eq_true_eq, decide_eq_true_eq] at h
  exact ⟨h.1.1, h.1.2, h.2⟩
theorem op_shlD : OpR X (binaryOp .LShift) (rDat G shlD) := by
  refine OpR.imp op_shl fun x y H Q q => ?_
  obtain ⟨i, j, k, e1, e2, e3, w⟩ := ints_of (h := fun i j => if okPow i j = true then some (i * 2 ^ j.toNat) else none) (fun d e r h => by
    cases d with
    | int i =>
      cases e with
      | int j =>
        refine ⟨i, j, i * 2 ^ j.toNat, rfl, rfl, ?_⟩
        have h' : (if okPow i j = true then ri (i * 2 ^ j.toNat) else none) = some r := h
        by_cases c : okPow i j = true
        · rw [if_pos c] at h'; rw [if_pos c]; exact ⟨rfl, ri_some h'⟩
        · rw [if_neg c] at h'; cases h'
      | _ => cases h
    | _ => cases h) q
  by_cases c : okPow i j = true
  · rw [if_pos c] at e3
    cases e3
    exact ⟨i, j, e1, e2, okPow_of c, w⟩
  · rw [if_neg c] at e3; cases e3
theorem op_powD : OpR X (binaryOp .Pow) (rDat G powD) := by
  refine OpR.imp op_pow fun x y H Q q => ?_
  obtain ⟨i, j, k, e1, e2, e3, w⟩ := ints_of (h := fun i j => if okPow i j = true then some (i ^ j.toNat) else none) (fun d e r h => by
    cases d with
    | int i =>
      cases e with
      | int j =>
        refine ⟨i, j, i ^ j.toNat, rfl, rfl, ?_⟩
        have h' : (if okPow i j = true then ri (i ^ j.toNat) else none) = some r := h
        by_cases c : okPow i j = true
        · rw [if_pos c] at h'; rw [if_pos c]; exact ⟨rfl, ri_some h'⟩
        · rw [if_neg c] at h'; cases h'
      | _ => cases h
    | _ => cases h) q
  by_cases c : okPow i j = true
  · rw [if_pos c] at e3
    cases e3
    exact ⟨i, j, e1, e2, okPow_of c, w⟩
  · rw [if_neg c] at e3; cases e3
theorem op_shrD : OpR X (binaryOp .RShift) (rDat G shrD) := by
  refine OpR.imp op_shr fun x y H Q q => ?_
  obtain ⟨i, j, k, e1, e2, e3, w⟩ := ints_of (h := fun i j => if 0 ≤ j then some (i / 2 ^ j.toNat) else none) (fun d e r h => by
    cases d with
    | int i =>
      cases e with
      | int j =>
        refine ⟨i, j, i / 2 ^ j.toNat, rfl, rfl, ?_⟩
        have h' : (if 0 ≤ j then ri (i / 2 ^ j.toNat) else none) = some r := h
        by_cases c : 0 ≤ j
        · rw [if_pos c] at h'; rw [if_pos c]; exact ⟨rfl, ri_some h'⟩
        · rw [if_neg c] at h'; cases h'
      | _ => cases h
    | _ => cases h) q
  by_cases c : 0 ≤ j
  · rw [if_pos c] at e3
    cases e3
    exact ⟨i, j, e1, e2, c, w⟩
  · rw [if_neg c] at e3; cases e3
theorem op_andD : OpR X (binaryOp .BitAnd) (rDat G andD) := by
  refine OpR.imp op_and fun x y H Q q => ?_
  obtain ⟨i, j, k, e1, e2, e3, w⟩ := ints_of (h := fun i j => some (Builtin.bitAnd i j)) (fun d e r h => by
    cases d with
    | int i =>
      cases e with
      | int j => exact ⟨i, j, _, rfl, rfl, rfl, ri_some h⟩
      | _ => cases h
    | _ => cases h) q
  cases e3
  exact ⟨i, j, e1, e2, w⟩
theorem un_negD : UnR X (unaryOp .USub) (uDat G negD) := by
  intro pins s σ H x v Q I rx q
  obtain ⟨Hm, d, r, sm, h1, e, w⟩ := q
  cases d with
  | int i => exact un_neg pins s σ H x v Q I rx ⟨i, h1.int, w _ _ (by rw [ri_some e]; exact ResH.int)⟩
  | _ => cases e
end
end DL
set_option Elab.async false
set_option linter.all false
set_option maxRecDepth 100000
namespace DL
open PySem PySem.Spec PyProof.Rows L2
/-! ## comparisons -/
def ltD : D → D → Option R
  | .int i, .int j => rb (decide (i < j))
  | _, _ => none
def leD : D → D → Option R
  | .int i, .int j => rb (decide (i ≤ j))
  | _, _ => none
def gtD : D → D → Option R
  | .int i, .int j => rb (decide (j < i))
  | _, _ => none
def geD : D → D → Option R
  | .int i, .int j => rb (decide (j ≤ i))
  | _, _ => none
def isNonD : D → Bool
  | .non => true
  | _ => false
def isND : D → D → Option R
  | d, .non => rb (isNonD d)
  | _, _ => none
def notND : D → D → Option R
  | d, .non => rb (!isNonD d)
  | _, _ => none
mutual
def toP : D → PyData
  | .non => .none
  | .bl b => .bool b
  | .int i => .int i
  | .str s => .str s
  | .lst xs => .list (toPs xs)
  | .tup xs => .tuple (toPs xs)
  | .dic _ => .dict []
  | .obj _ _ => .dict []
  | .con _ => .dict []
def toPs : List D → List PyData
  | [] => []
  | x :: xs => toP x :: toPs xs
end
def okP (d : D) : Bool := SeqAt.shaped (toP d)
def eqV2 (d e : D) : Bool := PyData.eqv (toP d) (toP e)
def eqD (d e : D) : Option R := if okP d = true ∧ okP e = true then rb (eqV2 d e) else none
def neD (d e : D) : Option R := if okP d = true ∧ okP e = true then rb (!eqV2 d e) else none
/-- a key of a dict -/
def keyD : D → Option Key
  | .int i => some (.inl i)
  | .str s => some (.inr s)
  | _ => none
def valK (ks : List (Key × D)) (k : Key) : Option D := (ks.find? fun kv => decide (kv.1 = k)).map (·.2)
def inD : D → D → Option R
  | d, .lst xs => if okP d = true ∧ okP (.lst xs) = true then rb ((toPs xs).any fun z => PyData.eqv z (toP d)) else none
  | d, .dic ks => (keyD d).bind fun k => rb (valK ks k).isSome
  | _, _ => none
def notInD : D → D → Option R
  | d, .lst xs => if okP d = true ∧ okP (.lst xs) = true then rb (!(toPs xs).any fun z => PyData.eqv z (toP d)) else none
  | d, .dic ks => (keyD d).bind fun k => rb (!(valK ks k).isSome)
  | _, _ => none
section
variable {X : Cx} {G : GC} {Hm H : Hp} {K : PySem.W.Frag}
mutual
theorem Rep.dp (hK : G.K = K) : ∀ {d : D} {v : V}, Rep G H d v → (toP d).canLay0 = true → Dp K H v (toP d)
  | .non, v, h, _ => by unfold Rep at h; rw [h]; exact .non
  | .bl b, v, h, _ => by unfold Rep at h; rw [h]; exact .bl b
  | .int i, v, h, _ => by unfold Rep at h; rw [h]; exact .int i
  | .str s, v, h, _ => by unfold Rep at h; rw [h]; exact .str s
  | .lst ds, v, h, c => by
    unfold Rep at h
    obtain ⟨a, vs, e, r, q⟩ := h
    rw [e]
    unfold toP
    refine .lst (.inl (.inl r)) (Reps.dps hK q ?_)
    unfold toP at c
    simpa [PyData.canLay0] using c
  | .tup ds, v, h, c => by
    unfold Rep at h
    obtain ⟨a, vs, e, r, q⟩ := h
    rw [e]
    unfold toP
    refine .tup (hK ▸ r) (Reps.dps hK q ?_)
    unfold toP at c
    simpa [PyData.canLay0] using c
  | .dic _, v, h, c => by unfold toP at c; simp [PyData.canLay0] at c
  | .obj _ _, v, h, c => by unfold toP at c; simp [PyData.canLay0] at c
  | .con _, v, h, c => by unfold toP at c; simp [PyData.canLay0] at c
theorem Reps.dps (hK : G.K = K) : ∀ {ds : List D} {vs : List V}, Reps G H ds vs → PyData.canLayAll0 (toPs ds) = true → DpAll K H vs (toPs ds)
  | [], vs, h, _ => by unfold Reps at h; rw [h]; exact .nil
  | d :: ds, vs, h, c => by
    unfold Reps at h
    obtain ⟨w, ws, e, r, q⟩ := h
    rw [e]
    unfold toPs at c ⊢
    have c' : (toP d).canLay0 = true ∧ PyData.canLayAll0 (toPs ds) = true := by simpa [PyData.canLayAll0] using c
    exact .cons (Rep.dp hK r c'.1) (Reps.dps hK q c'.2)
end
theorem okP.dp {d : D} {v : V} (hK : G.K = K) (s : Same Hm H) (h : RepR G Hm H v d) (o : okP d = true) : Dp K H v (toP d) := (h.toRep s).dp hK (SeqAt.canLay_of_shaped o)
theorem rb_some {i : Bool} {r : R} (h : rb i = some r) : r = ⟨.bl i, false⟩ := (Option.some.inj h).symm
theorem op_eqG (hu : X.A.units + 64 < cLine) (hK : G.K = X.K := by rfl) : OpR X (compareOp .Eq) (rDat G eqD) := by
  refine OpR.imp (op_eqD hu) fun x y H Q q => ?_
  obtain ⟨Hm, d1, d2, r, s, h1, h2, e, w⟩ := q
  unfold eqD at e
  by_cases c : okP d1 = true ∧ okP d2 = true
  · rw [if_pos c] at e
    exact ⟨toP d1, toP d2, okP.dp hK s h1 c.1, okP.dp hK s h2 c.2, c.1, c.2, w _ _ (by rw [rb_some e]; exact ResH.bl)⟩
  · rw [if_neg c] at e; cases e
theorem op_neG (hu : X.A.units + 64 < cLine) (hK : G.K = X.K := by rfl) : OpR X (compareOp .NotEq) (rDat G neD) := by
  refine OpR.imp (op_neD hu) fun x y H Q q => ?_
  obtain ⟨Hm, d1, d2, r, s, h1, h2, e, w⟩ := q
  unfold neD at e
  by_cases c : okP d1 = true ∧ okP d2 = true
  · rw [if_pos c] at e
    exact ⟨toP d1, toP d2, okP.dp hK s h1 c.1, okP.dp hK s h2 c.2, c.1, c.2, w _ _ (by rw [rb_some e]; exact ResH.bl)⟩
  · rw [if_neg c] at e; cases e
theorem cmp_of {op : CmpOp} {p : Int → Int → Bool} {g : D → D → Option R} (ho : OpR X (compareOp op) (rI0 fun i j => .bl (p i j))) (hg : ∀ d e r, g d e = some r → ∃ i j, d = .int i ∧ e = .int j ∧ r = ⟨.bl (p i j), false⟩) : OpR X (compareOp op) (rDat G g) :=
  OpR.imp ho fun x y H Q q => by
    obtain ⟨Hm, d1, d2, r, s, h1, h2, e, w⟩ := q
    obtain ⟨i, j, e1, e2, e3⟩ := hg _ _ _ e
    subst e1; subst e2; subst e3
    exact ⟨i, j, h1.int, h2.int, w _ _ ResH.bl⟩
theorem op_ltG : OpR X (compareOp .Lt) (rDat G ltD) := cmp_of op_lt fun d e r h => by
  cases d with
  | int i =>
    cases e with
    | int j => exact ⟨i, j, rfl, rfl, rb_some h⟩
    | _ => cases h
  | _ => cases h
theorem op_leG : OpR X (compareOp .LtE) (rDat G leD) := cmp_of op_le fun d e r h => by
  cases d with
  | int i =>
    cases e with
    | int j => exact ⟨i, j, rfl, rfl, rb_some h⟩
    | _ => cases h
  | _ => cases h
theorem op_gtG : OpR X (compareOp .Gt) (rDat G gtD) := cmp_of op_gt fun d e r h => by
  cases d with
  | int i =>
    cases e with
    | int j => exact ⟨i, j, rfl, rfl, rb_some h⟩
    | _ => cases h
  | _ => cases h
theorem op_geG : OpR X (compareOp .GtE) (rDat G geD) := cmp_of op_ge fun d e r h => by
  cases d with
  | int i =>
    cases e with
    | int j => exact ⟨i, j, rfl, rfl, rb_some h⟩
    | _ => cases h
  | _ => cases h
theorem RepR.nn {v : V} {d : D} (s : Same Hm H) (h : RepR G Hm H v d) : decide (v = .non) = isNonD d := by
  cases d with
  | non => rw [h.non]; rfl
  | bl _ => rw [h.bl]; rfl
  | int _ => rw [h.int]; rfl
  | str _ => rw [h.str]; rfl
  | lst _ => obtain ⟨a, vs, e, _⟩ := h.lst s; rw [e]; rfl
  | tup _ => obtain ⟨a, vs, e, _⟩ := h.tup s; rw [e]; rfl
  | obj _ _ => obtain ⟨a, dx, vs, e, _⟩ := h.obj s; rw [e]; rfl
  | con _ => obtain ⟨a, e, _⟩ := h.con s; rw [e]; rfl
  | dic _ =>
    cases h with
    | sh h => unfold Rep at h; obtain ⟨a, vs, e, _⟩ := h; rw [e]; rfl
    | ow h t => rfl
theorem op_isG : OpR X (compareOp .Is) (rDat G isND) := by
  refine OpR.imp op_isN fun x y H Q q => ?_
  obtain ⟨Hm, d1, d2, r, s, h1, h2, e, w⟩ := q
  cases d2 with
  | non =>
    have n := h1.nn s
    refine ⟨h2.non, ?_⟩
    rw [n]
    exact w _ _ (by rw [rb_some (show rb _ = some r from e)]; exact ResH.bl)
  | _ => cases e
theorem op_isnotG : OpR X (compareOp .IsNot) (rDat G notND) := by
  refine OpR.imp op_notN fun x y H Q q => ?_
  obtain ⟨Hm, d1, d2, r, s, h1, h2, e, w⟩ := q
  cases d2 with
  | non =>
    have n := h1.nn s
    refine ⟨h2.non, ?_⟩
    rw [n]
    exact w _ _ (by rw [rb_some (show rb _ = some r from e)]; exact ResH.bl)
  | _ => cases e
/-! ### in -/
theorem valK_nil {k : Key} : valK [] k = none := rfl
theorem valK_cons {p : Key × D} {r : List (Key × D)} {k : Key} : valK (p :: r) k = if p.1 = k then some p.2 else valK r k := by
  unfold valK
  rw [List.find?_cons]
  by_cases h : p.1 = k
  · simp [h]
  · simp [h]
theorem RepK.val (k : Key) : ∀ {ks : List (Key × D)} {vs : List (Key × V)}, RepK G H ks vs → match valK ks k, valV vs k with | some d, some v => Rep G H d v | none, none => True | _, _ => False
  | [], vs, h => by unfold RepK at h; rw [h, valK_nil, valV_nil]; trivial
  | (j, d) :: ks, vs, h => by
    unfold RepK at h
    obtain ⟨w, ws, e, r, q⟩ := h
    rw [e, valK_cons]
    by_cases c : j = k
    · rw [if_pos c, valV_pos (p := (j, w)) c]; exact r
    · rw [if_neg c, valV_neg (p := (j, w)) c]; exact RepK.val k q
theorem RepR.dic {v : V} {ks : List (Key × D)} (s : Same Hm H) (h : RepR G Hm H v (.dic ks)) : ∃ a vs, v = .ref a ∧ Rd H a (.dK vs) ∧ RepK G Hm ks vs := by
  cases h with
  | sh h =>
    unfold Rep at h
    obtain ⟨a, vs, e, r, q⟩ := h
    exact ⟨a, vs, e, Rd.same s r, q⟩
  | ow h t =>
    obtain ⟨vs, e, q⟩ := t
    subst e
    exact ⟨_, vs, rfl, .inl h, q⟩
theorem RepR.key {v : V} {d : D} {k : Key} (h : RepR G Hm H v d) (e : keyD d = some k) : v = kV k := by
  cases d with
  | int i => cases e; exact h.int
  | str i => cases e; exact h.str
  | _ => cases e
theorem RepK.some {ks : List (Key × D)} {vs : List (Key × V)} (h : RepK G H ks vs) (k : Key) : (valK ks k).isSome = (valV vs k).isSome := by
  have q := h.val k
  cases e : valK ks k with
  | none =>
    cases e2 : valV vs k with
    | none => rfl
    | some v => rw [e, e2] at q; exact q.elim
  | some d =>
    cases e2 : valV vs k with
    | none => rw [e, e2] at q; exact q.elim
    | some v => rfl
theorem op_inK (hu : X.A.units + 1 < cLine) : OpR X (compareOp .In) (fun y x H Q => ∃ a o, x = .ref a ∧ DGet H a y o ∧ Q (.bl o.isSome) H) := by
  intro pins s σ H y x u v Q I ry rx h
  obtain ⟨a, o, rfl, g, q⟩ := h
  cases rx
  exact d_in hu I g ry fun s' I' => ⟨.bl _, H, I', rfl, q⟩
theorem op_notInK (hu : X.A.units + 1 < cLine) : OpR X (compareOp .NotIn) (fun y x H Q => ∃ a o, x = .ref a ∧ DGet H a y o ∧ Q (.bl (!o.isSome)) H) := by
  intro pins s σ H y x u v Q I ry rx h
  obtain ⟨a, o, rfl, g, q⟩ := h
  cases rx
  exact d_notIn hu I g ry fun s' I' => ⟨.bl _, H, I', rfl, q⟩
theorem op_inG (hu : X.A.units + 65 < cLine) (hK : G.K = X.K := by rfl) : OpR X (compareOp .In) (rDat G inD) := by
  refine OpR.imp ((op_inD hu).or (op_inK (by omega))) fun x y H Q q => ?_
  obtain ⟨Hm, d1, d2, r, s, h1, h2, e, w⟩ := q
  cases d2 with
  | lst xs =>
    have e' : (if okP d1 = true ∧ okP (.lst xs) = true then rb ((toPs xs).any fun z => PyData.eqv z (toP d1)) else none) = some r := e
    by_cases c : okP d1 = true ∧ okP (.lst xs) = true
    · rw [if_pos c] at e'
      have hd := okP.dp hK s h2 c.2
      unfold toP at hd
      have c2 := c.2
      unfold okP at c2
      unfold toP at c2
      exact .inl ⟨toP d1, toPs xs, okP.dp hK s h1 c.1, hd, c.1, c2, w _ _ (by rw [rb_some e']; exact ResH.bl)⟩
    · rw [if_neg c] at e'; cases e'
  | dic ks =>
    obtain ⟨a, vs, e1, r1, q1⟩ := h2.dic s
    have e' : ((keyD d1).bind fun k => rb (valK ks k).isSome) = some r := e
    cases ek : keyD d1 with
    | none => rw [ek] at e'; cases e'
    | some k =>
      rw [ek] at e'
      rw [h1.key ek]
      refine .inr ⟨a, valV vs k, e1, .inl ⟨vs, k, r1, rfl, rfl⟩, w _ _ ?_⟩
      rw [rb_some (show rb _ = some r from e'), q1.some k]
      exact ResH.bl
  | _ => cases e
theorem op_notInG (hu : X.A.units + 65 < cLine) (hK : G.K = X.K := by rfl) : OpR X (compareOp .NotIn) (rDat G notInD) := by
  refine OpR.imp ((op_notInD hu).or (op_notInK (by omega))) fun x y H Q q => ?_
  obtain ⟨Hm, d1, d2, r, s, h1, h2, e, w⟩ := q
  cases d2 with
  | lst xs =>
    have e' : (if okP d1 = true ∧ okP (.lst xs) = true then rb (!(toPs xs).any fun z => PyData.eqv z (toP d1)) else none) = some r := e
    by_cases c : okP d1 = true ∧ okP (.lst xs) = true
    · rw [if_pos c] at e'
      have hd := okP.dp hK s h2 c.2
      unfold toP at hd
      have c2 := c.2
      unfold okP at c2
      unfold toP at c2
      exact .inl ⟨toP d1, toPs xs, okP.dp hK s h1 c.1, hd, c.1, c2, w _ _ (by rw [rb_some e']; exact ResH.bl)⟩
    · rw [if_neg c] at e'; cases e'
  | dic ks =>
    obtain ⟨a, vs, e1, r1, q1⟩ := h2.dic s
    have e' : ((keyD d1).bind fun k => rb (!(valK ks k).isSome)) = some r := e
    cases ek : keyD d1 with
    | none => rw [ek] at e'; cases e'
    | some k =>
      rw [ek] at e'
      rw [h1.key ek]
      refine .inr ⟨a, valV vs k, e1, .inl ⟨vs, k, r1, rfl, rfl⟩, w _ _ ?_⟩
      rw [rb_some (show rb _ = some r from e'), q1.some k]
      exact ResH.bl
  | _ => cases e
/-! ## subscripts -/
def ixD : D → D → Option R
  | .lst xs, .int i => (atI xs i).map fun d => ⟨d, false⟩
  | .tup xs, .int i => (atI xs i).map fun d => ⟨d, false⟩
  | .dic ks, d => ((keyD d).bind (valK ks)).map fun d => ⟨d, false⟩
  | _, _ => none
theorem Reps.atI {ds : List D} {vs : List V} {i : Int} {d : D} (h : Reps G H ds vs) (e : atI ds i = some d) : ∃ v, L2.atI vs i = some v ∧ Rep G H d v := by
  unfold L2.atI at e ⊢
  rw [h.length]
  cases q : ixN ds.length i with
  | none => rw [q] at e; cases e
  | some j =>
    rw [q] at e
    exact h.get' e
theorem ix_dic (hu : X.A.units + 1 < cLine) : IxR X (fun x y H Q => ∃ a v, x = .ref a ∧ DGet H a y (some v) ∧ Q v H) := by
  intro value slice pins s σ H x y v u Q I rx ry h hs
  obtain ⟨a, w, rfl, g, q⟩ := h
  cases rx
  exact tail_any (dict_typeIs I g) PySem.F.slot_dict_getitem.lookup (d_getItem hu I g ry fun w' s' I' rw' => ⟨w, H, I', rw', q⟩) hs
theorem IxR.imp {r r' : R2} (h : IxR X r) (i : ∀ x y H Q, r' x y H Q → r x y H Q) : IxR X r' := fun value slice pins s σ H x y v u Q I rx ry q hs => h value slice pins s σ H x y v u Q I rx ry (i x y H Q q) hs
theorem ix_G (hu : X.A.units + 1 < cLine) (hK : G.K = X.K := by rfl) : IxR X (rDat G ixD) := by
  refine IxR.imp (ix_list.or (ix_tup.or (ix_dic hu))) fun x y H Q q => ?_
  obtain ⟨Hm, d1, d2, r, s, h1, h2, e, w⟩ := q
  cases d1 with
  | lst xs =>
    cases d2 with
    | int i =>
      obtain ⟨a, vs, e1, r1, q1⟩ := h1.lst s
      have e' : (atI xs i).map (fun d => R.mk d false) = some r := e
      cases ea : atI xs i with
      | none => rw [ea] at e'; cases e'
      | some d =>
        rw [ea] at e'
        cases e'
        obtain ⟨v, ev, rv⟩ := q1.atI ea
        exact .inl ⟨a, vs, i, v, e1, h2.int, hK ▸ r1, ev, w _ _ ⟨rfl, rv⟩⟩
    | _ => cases e
  | tup xs =>
    cases d2 with
    | int i =>
      obtain ⟨a, vs, e1, r1, q1⟩ := h1.tup s
      have e' : (atI xs i).map (fun d => R.mk d false) = some r := e
      cases ea : atI xs i with
      | none => rw [ea] at e'; cases e'
      | some d =>
        rw [ea] at e'
        cases e'
        obtain ⟨v, ev, rv⟩ := q1.atI ea
        exact .inr (.inl ⟨a, vs, i, v, e1, h2.int, hK ▸ r1, ev, w _ _ ⟨rfl, rv⟩⟩)
    | _ => cases e
  | dic ks =>
    obtain ⟨a, vs, e1, r1, q1⟩ := h1.dic s
    have e' : ((keyD d2).bind (valK ks)).map (fun d => R.mk d false) = some r := e
    cases ek : keyD d2 with
    | none => rw [ek] at e'; cases e'
    | some k =>
      rw [ek] at e'
      have e2 : (valK ks k).map (fun d => R.mk d false) = some r := e'
      cases ev : valK ks k with
      | none => rw [ev] at e2; cases e2
      | some d =>
        rw [ev] at e2
        cases e2
        have q2 := q1.val k
        rw [ev] at q2
        cases ew : valV vs k with
        | none => rw [ew] at q2; exact q2.elim
        | some v =>
          rw [ew] at q2
          rw [h2.key ek]
          exact .inr (.inr ⟨a, v, e1, .inl ⟨vs, k, r1, rfl, by rw [ew]⟩, w _ _ ⟨rfl, q2⟩⟩)
  | _ => cases d2 <;> cases e
variable {W : WX} {a b e : Expr} {fa fb : M O} {pos p2 : Pos}
theorem de_ix (hu : X.A.units + 1 < cLine) (ha : OE X G W a fa) (hb : OE X G W b fb) (hs : PlainIx b) (hK : G.K = X.K := by rfl) : DE X G W (.Subscript a b pos) (fBin ixD fa fb) := by
  obtain ⟨ta, pa, hta⟩ := ha.ex
  obtain ⟨tb, pb, htb⟩ := hb.ex
  exact ⟨_, pe_ix (ix_G hu hK) pa pb hs, bin_ok hta htb⟩
/-! ## slices -/
structure DP (X : Cx) (G : GC) (W : WX) (e : Option Expr) (f : M (Option Int)) : Prop where
  ex : ∃ t, PO X e t ∧ ∀ E σ ρ Hm H Q, RE G E σ ρ Hm H → Sat G E W σ Hm (fun o _ _ _ c => c = o) Q (f ρ) → t σ H Q
theorem dp_none : DP X G W none (M.pure none) := ⟨_, po_none, fun E σ ρ Hm H Q re h => h none Hm H re (Same.refl _) rfl⟩
def partI (f : M R) : M (Option Int) := M.bind f fun r => match r with
  | ⟨.int i, false⟩ => M.pure (some i)
  | _ => fun _ => .bad
theorem dp_some {f : M R} (h : DE X G W e f) : DP X G W (some e) (partI f) := by
  obtain ⟨t, pe, ht⟩ := h.ex
  refine ⟨_, po_some pe, fun E σ ρ Hm H Q re h => ?_⟩
  refine ht E σ ρ Hm H _ re (h.bind fun r ρ1 v Hm1 H1 _ re1 s1 r1 h1 => ?_)
  obtain ⟨d, f⟩ := r
  cases d with
  | int i =>
    cases f with
    | false =>
      have e : v = .int i := by
        have q : Rep G Hm1 (.int i) v := r1
        unfold Rep at q; exact q
      exact ⟨i, e, h1 (some i) Hm1 H1 re1 (Same.refl _) rfl⟩
    | true => exact h1.elim
  | _ => cases f <;> exact h1.elim
def cutL {α : Type} (xs : List α) (lo hi : Option Int) : List α := (xs.drop (HT.sIx xs.length 0 lo)).take (HT.sIx xs.length xs.length hi - HT.sIx xs.length 0 lo)
def cutD (lo hi : Option Int) : D → Option R
  | .lst xs => some ⟨.lst (cutL xs lo hi), true⟩
  | .con ns => some ⟨.lst ((cutL ns lo hi).map D.int), true⟩
  | _ => none
def fSlice (fa : M O) (fl fh : M (Option Int)) : M R := M.bind fa fun a => M.bind fl fun l => M.bind fh fun h => lift1 (cutD l h) a
theorem de_slice {lo hi : Option Expr} {fl fh : M (Option Int)} (ha : OE X G W a fa) (hl : DP X G W lo fl) (hh : DP X G W hi fh) (hK : G.K = X.K := by rfl) : DE X G W (.Subscript a (.Slice lo hi none p2) pos) (fSlice fa fl fh) := by
  obtain ⟨ta, pa, hta⟩ := ha.ex
  obtain ⟨tl, pl, htl⟩ := hl.ex
  obtain ⟨th, ph, hth⟩ := hh.ex
  refine ⟨_, pe_slice sl_list pa pl ph, fun E σ ρ Hm H Q re h => ?_⟩
  refine hta E σ ρ Hm H _ re (h.bind fun oa ρ1 x Hm1 H1 _ re1 s1 r1 h1 => ?_)
  refine htl E σ ρ1 Hm1 H1 _ re1 (h1.bind fun l ρ2 y Hm2 H2 _ re2 s2 r2 h2 => ?_)
  refine hth E σ ρ2 Hm2 H2 _ re2 (h2.bind fun u ρ3 z Hm3 H3 _ re3 s3 r3 h3 => ?_)
  subst r2; subst r3
  obtain ⟨Hm', d, r, sm, rp, ed, w⟩ := lift1_ok re3 (r1.mono (s2.trans s3)) h3
  cases d with
  | lst xs =>
    obtain ⟨a, vs, e1, r1, q1⟩ := rp.lst sm
    cases ed
    refine ⟨a, vs, e1, hK ▸ r1, fun p hp => w _ _ ?_⟩
    have e2 : cutV vs y z = (vs.drop (HT.sIx xs.length 0 y)).take (HT.sIx xs.length xs.length z - HT.sIx xs.length 0 y) := by unfold cutV; rw [q1.length]
    rw [e2]
    exact ResH.lst hp ((q1.drop _).take _)
  | con ns =>
    obtain ⟨a, e1, r1⟩ := rp.con sm
    cases ed
    refine ⟨a, _, e1, hK ▸ r1, fun p hp => w _ _ ?_⟩
    have e2 : cutV (ns.map V.int) y z = (cutL ns y z).map V.int := by
      unfold cutV cutL
      rw [List.length_map, List.map_take, List.map_drop]
    rw [e2]
    exact ResH.lst hp (Reps.ofInts _)
  | _ => cases ed
/-- xs[::-1] -/
def revD : D → Option R
  | .lst xs => some ⟨.lst xs.reverse, true⟩
  | _ => none
def tRevS (K : PySem.W.Frag) (ta : TE) : TE := fun σ H Q => ta σ H fun x H1 => ∃ a xs, x = .ref a ∧ SqL K H1 a xs ∧ ∀ p, H1 p = none → Q (.ref p) (upd H1 p (.lst xs.reverse))
theorem pe_revS {ta : TE} {p3 p4 : Pos} {j : Nat} (ha : PE X a ta) : PE X (.Subscript a (.Slice none none (some (.UnaryOp .USub (.Constant (.int 1) j p3) p4)) p2) pos) (tRevS X.K ta) := by
  refine ⟨fun pins s σ H Q I h => ?_⟩
  refine Subscript_ (thn (ha.run pins s σ H _ I h) fun v s1 ⟨x, H1, I1, r1, q1⟩ => ?_)
  obtain ⟨a, xs, e, hx, q⟩ := q1
  subst e
  cases r1
  have hst : PO X (some (.UnaryOp .USub (.Constant (.int 1) j p3) p4)) (tPart (tUn (rU fun i => .int (-i)) (tC (.int 1)))) := po_some (pe_un un_neg pe_int)
  refine wpAny_Slice ?_
  rw [evalPart_none]
  refine wpAny_pure ?_
  refine wpAny_pure ?_
  refine thn (hst.run pins s1 σ H1 (fun o H2 => o = some (-1) ∧ H2 = H1) I1 ⟨1, rfl, -1, rfl, rfl, rfl⟩) fun vs s3 ⟨o, H3, I3, ps, eo, eH⟩ => ?_
  subst eo; subst eH
  have I4 : L2.Inv X pins σ H3 { s3 with heap := s3.heap.push { cls := .type "slice", data := .fields #[.none, .none, vs] } } := I3.kept (t' := s3.toks) fun b ob q => Heap.get?_push_of_some _ q
  obtain ⟨its, r, ht, hz⟩ := I4.list hx
  have hlen := r.length
  show wpAny (model X.prog X.w) X.A (subscriptTail _ (.Slice none none (some _) p2) (.ref a) (.ref s3.heap.objs.size)) (EP X pins σ Q) X.xe _
  refine tail_any (ops := [.ref a, .ref s3.heap.objs.size]) ht.isList.typeIs slot_list_getitem.lookup ?_ (by with_unfolding_all rfl)
  refine wpAny_getItem_list_slice ht.isList (Heap.IsSliceOf.new ..) .none .none ps (by simp) ?_ (by rw [List.size_toArray] <;> omega)
  rw [PySem.W.krv_pick]
  exact ⟨.ref _, _, I4.laid (t' := s3.toks) (o := .lst xs.reverse) (fun b ob q => Heap.get?_push_of_some _ q) (Nat.le_refl _) ⟨by rw [List.length_reverse]; exact hz, _, 0, r.reverse, Heap.get?_push_size _ rfl⟩, rfl, q _ (I4.hok.fresh (Nat.le_refl _))⟩
theorem de_rev {p3 p4 : Pos} {j : Nat} (ha : OE X G W a fa) (hK : G.K = X.K := by rfl) : DE X G W (.Subscript a (.Slice none none (some (.UnaryOp .USub (.Constant (.int 1) j p3) p4)) p2) pos) (fUn revD fa) := by
  obtain ⟨ta, pa, hta⟩ := ha.ex
  refine ⟨_, pe_revS pa, fun E σ ρ Hm H Q re h => ?_⟩
  refine hta E σ ρ Hm H _ re (h.bind fun oa ρ1 x Hm1 H1 _ re1 s1 r1 h1 => ?_)
  obtain ⟨Hm', d, r, sm, rp, ed, w⟩ := lift1_ok re1 r1 h1
  cases d with
  | lst xs =>
    obtain ⟨a, vs, e1, r1, q1⟩ := rp.lst sm
    cases ed
    exact ⟨a, vs, e1, hK ▸ r1, fun p hp => w _ _ (ResH.lst hp q1.reverse)⟩
  | _ => cases ed
end
end DL
set_option Elab.async false
set_option linter.all false
set_option maxRecDepth 100000
namespace DL
open PySem PySem.Spec PyProof.Rows L2
/-! ## statements -/
inductive Fl where
  | next
  | brk
  | cont
  | ret (r : R)
def SatS (G : GC) (E : Ent) (W : WX) (Hm : Hp) (D : Ends) : Res Fl → Prop
  | .ok .next ρ' => ∀ σ' Hm' H', RE G E σ' ρ' Hm' H' → Same Hm Hm' → D.nx σ' H'
  | .ok .brk ρ' => ∀ σ' Hm' H', RE G E σ' ρ' Hm' H' → Same Hm Hm' → D.bk σ' H'
  | .ok .cont ρ' => ∀ σ' Hm' H', RE G E σ' ρ' Hm' H' → Same Hm Hm' → D.ct σ' H'
  | .ok (.ret r) ρ' => ∀ σ' v Hm' H', RE G E σ' ρ' Hm' H' → Same Hm Hm' → ROk G E σ' ρ' Hm' H' v r → D.rt v H'
  | .exc c d ρ' => ∀ σ' dx Hm' H', RE G E σ' ρ' Hm' H' → Same Hm Hm' → XOk G Hm' H' dx c d → W (.ref (G.cls c)) (some dx) σ' H'
  | .bad => False
/-- fx: the parameters that are handed back, which keep their objects -/
structure DS (X : Cx) (G : GC) (W : WX) (fx : List Nat) (st : Stmt) (f : M Fl) : Prop where
  ex : ∃ t, PS X st t ∧ ∀ E σ ρ Hm H D, E.fx = fx → RE G E σ ρ Hm H → SatS G E W Hm D (f ρ) → t D σ H
structure DSs (X : Cx) (G : GC) (W : WX) (fx : List Nat) (st : List Stmt) (f : M Fl) : Prop where
  ex : ∃ t, PSs X st t ∧ ∀ E σ ρ Hm H D, E.fx = fx → RE G E σ ρ Hm H → SatS G E W Hm D (f ρ) → t D σ H
section
variable {G : GC} {E : Ent} {W : WX} {Hm Hm' H : Hp} {D D' : Ends}
theorem SatS.mono (s : Same Hm Hm') {x : Res Fl} (h : SatS G E W Hm D x) : SatS G E W Hm' D x := by
  cases x with
  | ok a ρ =>
    cases a with
    | next => exact fun σ' Hm2 H2 re s2 => h σ' Hm2 H2 re (s.trans s2)
    | brk => exact fun σ' Hm2 H2 re s2 => h σ' Hm2 H2 re (s.trans s2)
    | cont => exact fun σ' Hm2 H2 re s2 => h σ' Hm2 H2 re (s.trans s2)
    | ret r => exact fun σ' v Hm2 H2 re s2 => h σ' v Hm2 H2 re (s.trans s2)
  | exc c d ρ => exact fun σ' dx Hm2 H2 re s2 r => h σ' dx Hm2 H2 re (s.trans s2) r
  | bad => exact h
/-- an expression within a statement -/
theorem SatS.bind {α β : Type} {σ : L2.St} {rel : α → List S → Hp → Hp → β → Prop} {Q : β → Hp → Prop} {m : M α} {k : α → M Fl} {ρ : List S} (h : SatS G E W Hm D (M.bind m k ρ))
    (hk : ∀ a ρ1 b Hm1 H1, m ρ = .ok a ρ1 → RE G E σ ρ1 Hm1 H1 → Same Hm Hm1 → rel a ρ1 Hm1 H1 b → SatS G E W Hm1 D (k a ρ1) → Q b H1) : Sat G E W σ Hm rel Q (m ρ) := by
  unfold M.bind at h
  cases e : m ρ with
  | ok a ρ1 =>
    rw [e] at h
    exact fun b Hm1 H1 re s r => hk a ρ1 b Hm1 H1 e re s r (SatS.mono s h)
  | exc c d ρ1 =>
    rw [e] at h
    exact fun dx Hm1 H1 re s r => h σ dx Hm1 H1 re s r
  | bad =>
    rw [e] at h
    exact h
end
/-! ## slots that are stored -/
section
variable {G : GC} {E : Ent} {σ : L2.St} {ρ : List S} {Hm H : Hp}
/-- a name is stored: its slot a state that fits -/
theorem RE.store {i : Nat} {v : V} {s : S} (re : RE G E σ ρ Hm H) (hi : i < ρ.length) (hx : i ∉ E.fx) (h : SlotOk G E Hm H (some (some v)) s)
    (hs : isOwn s = true → ∀ j t, j ≠ i → ρ[j]? = some t → isOwn t = true → σ[j]? ≠ some (some v)) : RE G E (σ.set i (some v)) (ρ.set i s) Hm H := by
  have hl : i < σ.length := by rw [← re.len]; exact hi
  have oth : ∀ j t, j ≠ i → (ρ.set i s)[j]? = some t → ρ[j]? = some t ∧ (σ.set i (some v))[j]? = σ[j]? := fun j t n e => by
    rw [List.getElem?_set_ne (Ne.symm n)] at e
    exact ⟨e, List.getElem?_set_ne (Ne.symm n)⟩
  refine ⟨re.sub, by rw [List.length_set, List.length_set]; exact re.len, fun j t hj => ?_, fun j k t u p n hj hk ot ou ej ek => ?_, fun j hj => ?_, re.pres, re.mono, re.frsh⟩
  · by_cases hij : j = i
    · subst hij
      rw [List.getElem?_set_self hi] at hj
      cases hj
      rw [List.getElem?_set_self hl]
      exact h
    · obtain ⟨e1, e2⟩ := oth j t hij hj
      rw [e2]
      exact re.sl j t e1
  · by_cases hij : j = i
    · subst hij
      have hk' : k ≠ j := Ne.symm n
      obtain ⟨e1, e2⟩ := oth k u hk' hk
      rw [List.getElem?_set_self hi] at hj
      cases hj
      rw [List.getElem?_set_self hl] at ej
      cases ej
      rw [e2] at ek
      exact hs ot k u hk' e1 ou ek
    · obtain ⟨e1, e2⟩ := oth j t hij hj
      rw [e2] at ej
      by_cases hik : k = i
      · subst hik
        rw [List.getElem?_set_self hi] at hk
        cases hk
        rw [List.getElem?_set_self hl] at ek
        cases ek
        exact hs ou j t hij e1 ot ej
      · obtain ⟨e3, e4⟩ := oth k u hik hk
        rw [e4] at ek
        exact re.sep j k t u p n e1 e3 ot ou ej ek
  · have n : i ≠ j := fun e => hx (e ▸ hj)
    rw [List.getElem?_set_ne n]
    exact re.fix j hj
/-- a result is stored -/
def setR (i : Nat) (r : R) (ρ : List S) : List S := ρ.set i (if r.fr then .own r.d else .val r.d)
theorem RE.storeR {i : Nat} {v : V} {r : R} (re : RE G E σ ρ Hm H) (hi : i < ρ.length) (hx : i ∉ E.fx) (h : ROk G E σ ρ Hm H v r) : RE G E (σ.set i (some v)) (setR i r ρ) Hm H := by
  obtain ⟨d, f⟩ := r
  cases f with
  | false => exact re.store hi hx (s := .val d) ⟨v, rfl, h⟩ (fun z => by cases z)
  | true =>
    obtain ⟨p, o, e, n, t, tp, z, w⟩ := h
    subst e
    exact re.store hi hx (s := .own d) ⟨p, o, rfl, n, t, tp, z⟩ (fun _ j t _ hj ot => w j t hj ot)
end
/-! ## small statements -/
def sDrop (f : M R) : M Fl := M.bind f fun _ => M.pure .next
def sRet (f : M R) : M Fl := M.bind f fun r => M.pure (.ret r)
def sSet (i : Nat) (f : M R) : M Fl := M.bind f fun r ρ => if i < ρ.length then .ok .next (setR i r ρ) else .bad
def sNext : M Fl := M.pure .next
def sSeq (f g : M Fl) : M Fl := fun ρ => match f ρ with
  | .ok .next ρ1 => g ρ1
  | x => x
def sIf (c : M Bool) (f g : M Fl) : M Fl := M.bind c fun b => if b = true then f else g
section
variable {X : Cx} {G : GC} {W : WX} {fx : List Nat} {st : Stmt} {e : Expr} {f g : M Fl} {fe : M R} {pos : Pos}
theorem ds_next {t : TS} (h : PS X st t) (ht : ∀ D σ H, D.nx σ H → t D σ H) : DS X G W fx st sNext := ⟨t, h, fun E σ ρ Hm H D _ re h => ht D σ H (h σ Hm H re (Same.refl _))⟩
theorem ds_pass : DS X G W fx (.Pass pos) sNext := ds_next ps_pass fun _ _ _ h => h
theorem ds_break : DS X G W fx (.Break pos) (M.pure .brk) := ⟨_, ps_break, fun E σ ρ Hm H D _ re h => h σ Hm H re (Same.refl _)⟩
theorem ds_cont : DS X G W fx (.Continue pos) (M.pure .cont) := ⟨_, ps_continue, fun E σ ρ Hm H D _ re h => h σ Hm H re (Same.refl _)⟩
theorem ds_expr (he : DE X G W e fe) (hs : swapsWith e none pos.line X.env = pure false := by rfl) : DS X G W fx (.Expr e pos) (sDrop fe) := by
  obtain ⟨t, pe, ht⟩ := he.ex
  refine ⟨_, ps_expr pe hs, fun E σ ρ Hm H D ef re h => ?_⟩
  exact ht E σ ρ Hm H _ re (h.bind fun r ρ1 v Hm1 H1 _ re1 s1 r1 h1 => h1 σ Hm1 H1 re1 (Same.refl _))
theorem ds_ret (he : DE X G W e fe) : DS X G W fx (.Return (some e) pos) (sRet fe) := by
  obtain ⟨t, pe, ht⟩ := he.ex
  refine ⟨_, ps_ret pe, fun E σ ρ Hm H D ef re h => ?_⟩
  exact ht E σ ρ Hm H _ re (h.bind fun r ρ1 v Hm1 H1 _ re1 s1 r1 h1 => h1 σ v Hm1 H1 re1 (Same.refl _) r1)
theorem ds_ret0 : DS X G W fx (.Return none pos) (M.pure (.ret ⟨.non, false⟩)) :=
  ⟨_, ps_retN, fun E σ ρ Hm H D ef re h => h σ .non Hm H re (Same.refl _) (show Rep G Hm .non .non by unfold Rep; rfl)⟩
/-- return x: the name's own object goes out as a new one -/
def moveS (i : Nat) : M R := fun ρ => match ρ[i]? with
  | some (.val d) => .ok ⟨d, false⟩ ρ
  | some (.own d) => .ok ⟨d, true⟩ (ρ.set i .un)
  | _ => .bad
theorem de_move {i : Nat} {e : Expr} (he : PE X e (tVar i)) : DE X G W e (moveS i) :=
  ⟨_, he, fun E σ ρ Hm H Q re h => by
    unfold moveS at h
    cases q : ρ[i]? with
    | none => rw [q] at h; exact h.elim
    | some s =>
      rw [q] at h
      have so := re.sl i s q
      cases s with
      | un => exact h.elim
      | val d =>
        obtain ⟨v, e2, r⟩ := so
        exact ⟨v, e2, h v Hm H re (Same.refl _) r⟩
      | own d =>
        obtain ⟨p, o, e2, n, t, tp, z⟩ := so
        have hl : i < ρ.length := (List.getElem?_eq_some_iff.mp q).1
        refine ⟨_, e2, h _ Hm H (re.setS (i := i) (s := .un) trivial (fun z => by cases z)) (Same.refl _) ⟨p, o, rfl, n, t, tp, z, fun j u hj ou ej => ?_⟩⟩
        by_cases hij : i = j
        · subst hij; rw [List.getElem?_set_self hl] at hj; cases hj; cases ou
        · rw [List.getElem?_set_ne hij] at hj
          exact re.sep i j _ u p hij q hj rfl ou e2 ej⟩
/-- x = e -/
theorem ds_set {i : Nat} {x : Str} {pos' : Pos} (hN : X.N.Nodup) (hi : X.N[i]? = some x) (hx : Loc X.env.scope x) (hf : i ∉ fx) (he : DE X G W e fe) (hs : swapsWith e (some (.Name x pos')) pos.line X.env = pure false := by rfl)
    (hc : X.fn x = true ∨ X.env.scope.names.lookup x = some .local := by first | exact .inl rfl | exact .inr rfl | assumption) : DS X G W fx (.Assign [.Name x pos'] e pos) (sSet i fe) := by
  obtain ⟨t, pe, ht⟩ := he.ex
  refine ⟨_, ps_set hN hi hx pe hs hc, fun E σ ρ Hm H D ef re h => ?_⟩
  refine ht E σ ρ Hm H _ re (h.bind fun r ρ1 v Hm1 H1 _ re1 s1 r1 h1 => ?_)
  by_cases hl : i < ρ1.length
  · have h1' : SatS G E W Hm1 D (if i < ρ1.length then Res.ok .next (setR i r ρ1) else .bad) := h1
    rw [if_pos hl] at h1'
    exact h1' _ Hm1 H1 (re1.storeR hl (by rw [ef]; exact hf) r1) (Same.refl _)
  · have h1' : SatS G E W Hm1 D (if i < ρ1.length then Res.ok .next (setR i r ρ1) else .bad) := h1
    rw [if_neg hl] at h1'
    exact h1'.elim
theorem ds_if {c : Expr} {fc : M Bool} {a b : List Stmt} (hc : DT X G W c fc) (ha : DSs X G W fx a f) (hb : DSs X G W fx b g) : DS X G W fx (.If c a b pos) (sIf fc f g) := by
  obtain ⟨t, p, q⟩ := hc.ex
  obtain ⟨t1, p1, q1⟩ := ha.ex
  obtain ⟨t2, p2, q2⟩ := hb.ex
  refine ⟨_, ps_if p p1 p2, fun E σ ρ Hm H D ef re h => ?_⟩
  refine q E σ ρ Hm H _ re (h.bind fun c ρ1 x Hm1 H1 _ re1 s1 r1 h1 => ?_)
  subst r1
  cases x with
  | true => exact q1 E σ ρ1 Hm1 H1 D ef re1 h1
  | false => exact q2 E σ ρ1 Hm1 H1 D ef re1 h1
/-- what is never reached -/
theorem ds_never (st : Stmt) : DS X G W fx st (fun _ => .bad) := ⟨_, ps_never, fun E σ ρ Hm H D _ re h => h⟩
theorem dss_nil : DSs X G W fx [] sNext := ⟨_, pss_nil, fun E σ ρ Hm H D _ re h => h σ Hm H re (Same.refl _)⟩
theorem dss_cons {rest : List Stmt} (h1 : DS X G W fx st f) (h2 : DSs X G W fx rest g) : DSs X G W fx (st :: rest) (sSeq f g) := by
  obtain ⟨t1, p1, q1⟩ := h1.ex
  obtain ⟨t2, p2, q2⟩ := h2.ex
  refine ⟨_, pss_cons p1 p2, fun E σ ρ Hm H D ef re h => ?_⟩
  refine q1 E σ ρ Hm H { D with nx := t2 D } ef re ?_
  unfold sSeq at h
  cases e : f ρ with
  | ok a ρ1 =>
    rw [e] at h
    cases a with
    | next => exact fun σ' Hm1 H1 re1 s1 => q2 E σ' ρ1 Hm1 H1 D ef re1 (SatS.mono s1 h)
    | brk => exact h
    | cont => exact h
    | ret r => exact h
  | exc c d ρ1 => rw [e] at h; exact h
  | bad => rw [e] at h; exact h
theorem dss_one (h1 : DS X G W fx st f) : DSs X G W fx [st] f := by
  obtain ⟨t1, p1, q1⟩ := h1.ex
  exact ⟨_, pss_one p1, q1⟩
end
/-! ## targets -/
structure GE (X : Cx) (G : GC) (fx : List Nat) (tg : Expr) (ix : List Nat) (f : D → List S → Option (List S)) : Prop where
  ex : ∃ g, PG X tg g ∧ ∀ E σ ρ Hm H x d Q, E.fx = fx → RE G E σ ρ Hm H → Rep G Hm d x →
    (match f d ρ with | some ρ' => ∀ σ', RE G E σ' ρ' Hm H → σ'.length = σ.length → (∀ j, j ∉ ix → σ'[j]? = σ[j]?) → Q σ' H | none => False) → g x σ H Q
structure GEs (X : Cx) (G : GC) (fx : List Nat) (tg : List Expr) (ix : List Nat) (f : List D → List S → Option (List S)) : Prop where
  ex : ∃ g, PGs X tg g ∧ ∀ E σ ρ Hm H xs ds Q, E.fx = fx → RE G E σ ρ Hm H → Reps G Hm ds xs →
    (match f ds ρ with | some ρ' => ∀ σ', RE G E σ' ρ' Hm H → σ'.length = σ.length → (∀ j, j ∉ ix → σ'[j]? = σ[j]?) → Q σ' H | none => False) → g xs σ H Q
def tName (i : Nat) (d : D) (ρ : List S) : Option (List S) := if i < ρ.length then some (ρ.set i (.val d)) else none
def tsNil : List D → List S → Option (List S)
  | [], ρ => some ρ
  | _, _ => none
def tsCons (f : D → List S → Option (List S)) (g : List D → List S → Option (List S)) : List D → List S → Option (List S)
  | d :: ds, ρ => (f d ρ).bind (g ds)
  | _, _ => none
def tTuple (n : Nat) (g : List D → List S → Option (List S)) : D → List S → Option (List S)
  | .tup ds, ρ => if ds.length = n then g ds ρ else none
  | _, _ => none
section
variable {X : Cx} {G : GC} {fx : List Nat} {pos : Pos}
theorem ge_name {i : Nat} {x : Str} (hN : X.N.Nodup) (hi : X.N[i]? = some x) (hx : Loc X.env.scope x) (hf : i ∉ fx) (hc : X.fn x = true ∨ X.env.scope.names.lookup x = some .local := by first | exact .inl rfl | exact .inr rfl | assumption) :
    GE X G fx (.Name x pos) [i] (tName i) := by
  refine ⟨_, pg_name hN hi hx hc, fun E σ ρ Hm H x d Q ef re rp h => ?_⟩
  unfold tName at h
  by_cases hl : i < ρ.length
  · rw [if_pos hl] at h
    refine h _ (re.store hl (by rw [ef]; exact hf) (s := .val d) ⟨x, rfl, rp⟩ (fun z => by cases z)) (by rw [List.length_set]) fun j hj => ?_
    rw [List.getElem?_set_ne]
    intro z
    exact hj (by simp [z])
  · rw [if_neg hl] at h
    exact h.elim
theorem ges_nil : GEs X G fx [] [] tsNil := by
  refine ⟨_, pgs_nil, fun E σ ρ Hm H xs ds Q ef re rp h => ?_⟩
  cases ds with
  | nil =>
    unfold Reps at rp
    exact ⟨rp, h σ re rfl fun _ _ => rfl⟩
  | cons d ds => exact h.elim
theorem ges_cons {e : Expr} {es : List Expr} {ix ix' : List Nat} {f : D → List S → Option (List S)} {g : List D → List S → Option (List S)} (h1 : GE X G fx e ix f) (h2 : GEs X G fx es ix' g)
    (hs : (assignEach (e :: es) X.env).map (·.2) = assign e X.env :: (assignEach es X.env).map (·.2) := by rfl) : GEs X G fx (e :: es) (ix ++ ix') (tsCons f g) := by
  obtain ⟨t1, p1, q1⟩ := h1.ex
  obtain ⟨t2, p2, q2⟩ := h2.ex
  refine ⟨_, pgs_cons p1 p2 hs, fun E σ ρ Hm H xs ds Q ef re rp h => ?_⟩
  cases ds with
  | nil => exact h.elim
  | cons d ds =>
    unfold Reps at rp
    obtain ⟨w, ws, e1, r1, r2⟩ := rp
    refine ⟨w, ws, e1, q1 E σ ρ Hm H w d _ ef re r1 ?_⟩
    have h0 : (match (f d ρ).bind (g ds) with | some ρ' => ∀ σ', RE G E σ' ρ' Hm H → σ'.length = σ.length → (∀ j, j ∉ ix ++ ix' → σ'[j]? = σ[j]?) → Q σ' H | none => False) := h
    cases e2 : f d ρ with
    | none => rw [e2] at h0; exact h0.elim
    | some ρ1 =>
      rw [e2] at h0
      refine fun σ1 re1 l1 k1 => q2 E σ1 ρ1 Hm H ws ds Q ef re1 r2 ?_
      have h' : (match g ds ρ1 with | some ρ' => ∀ σ', RE G E σ' ρ' Hm H → σ'.length = σ.length → (∀ j, j ∉ ix ++ ix' → σ'[j]? = σ[j]?) → Q σ' H | none => False) := h0
      cases e3 : g ds ρ1 with
      | none => rw [e3] at h'; exact h'.elim
      | some ρ2 =>
        rw [e3] at h'
        exact fun σ2 re2 l2 k2 => h' σ2 re2 (l2.trans l1) fun j hj => (k2 j fun z => hj (List.mem_append_right _ z)).trans (k1 j fun z => hj (List.mem_append_left _ z))
theorem ge_tup {es : List Expr} {k n : Nat} {ix : List Nat} {g : List D → List S → Option (List S)} (hc : X.calm = true) (h : GEs X G fx es ix g) (hn : (assignEach es X.env).length = n := by rfl) (hst : (assignEach es X.env).findIdx? (·.1) = none := by rfl) (hK : G.K = X.K := by rfl) :
    GE X G fx (.Tuple es k pos) ix (tTuple n g) := by
  obtain ⟨t, p, q⟩ := h.ex
  refine ⟨_, pg_tup hc p hn hst, fun E σ ρ Hm H x d Q ef re rp h => ?_⟩
  cases d with
  | tup ds =>
    unfold Rep at rp
    obtain ⟨a, vs, e1, r1, r2⟩ := rp
    have h' : (match (if ds.length = n then g ds ρ else none) with | some ρ' => ∀ σ', RE G E σ' ρ' Hm H → σ'.length = σ.length → (∀ j, j ∉ ix → σ'[j]? = σ[j]?) → Q σ' H | none => False) := h
    by_cases hl : ds.length = n
    · rw [if_pos hl] at h'
      exact ⟨a, vs, e1, hK ▸ (Same.seqT re.sub r1), by rw [r2.length]; exact hl, q E σ ρ Hm H vs ds Q ef re r2 h'⟩
    · rw [if_neg hl] at h'; exact h'.elim
  | _ => exact h.elim
/-- (a, b, ..) = e -/
def sAsg (f : M R) (t : D → List S → Option (List S)) : M Fl := M.bind (shareO f) fun o => match o with
  | .v d => fun ρ => match t d ρ with
    | some ρ' => .ok .next ρ'
    | none => .bad
  | _ => fun _ => .bad
variable {W : WX}
theorem ds_asg {tg e : Expr} {ix : List Nat} {fe : M R} {g : D → List S → Option (List S)} (he : DE X G W e fe) (hg : GE X G fx tg ix g) (hs : swapsWithSole [tg] e pos.line X.env = pure false := by rfl) (hw : swappedStores [tg] e X.env = pure none := by rfl)
    (h1 : (assignEach [tg] X.env).map (·.2) = [assign tg X.env] := by rfl) : DS X G W fx (.Assign [tg] e pos) (sAsg fe g) := by
  obtain ⟨t, pe, ht⟩ := (oe_of he).ex
  obtain ⟨t2, p2, q2⟩ := hg.ex
  refine ⟨_, ps_asg pe p2 hs hw h1, fun E σ ρ Hm H D ef re h => ?_⟩
  refine ht E σ ρ Hm H _ re (h.bind fun o ρ1 v Hm1 H1 _ re1 s1 r1 h1 => ?_)
  cases o with
  | r i => exact h1.elim
  | v d =>
    refine q2 E σ ρ1 Hm1 H1 v d _ ef re1 r1 ?_
    have h1' : SatS G E W Hm1 D (match g d ρ1 with | some ρ' => Res.ok .next ρ' | none => .bad) := h1
    cases e2 : g d ρ1 with
    | none => rw [e2] at h1'; exact h1'.elim
    | some ρ2 =>
      rw [e2] at h1'
      exact fun σ' re2 _ _ => h1' σ' Hm1 H1 re2 (Same.refl _)
end
end DL
set_option Elab.async false
set_option linter.all false
set_option maxRecDepth 100000
namespace DL
open PySem PySem.Spec PyProof.Rows L2
/-! ## the entry moved to here: what is pending stands still -/
def ownAddrs (σ : L2.St) (ρ : List S) : List Addr := (List.range ρ.length).filterMap fun i => match ρ[i]?, σ[i]? with
  | some (S.own _), some (some (V.ref p)) => some p
  | _, _ => none
def reb (E : Ent) (σ : L2.St) (ρ : List S) (Hm H : Hp) : Ent := ⟨H, Hm, ownAddrs σ ρ, σ, E.fx⟩
section
variable {G : GC} {E : Ent} {W : WX} {σ : L2.St} {ρ ρ1 : List S} {Hm H Hm1 H1 : Hp}
theorem mem_own {p : Addr} : p ∈ ownAddrs σ ρ ↔ ∃ (i : Nat) (s : S), ρ[i]? = some s ∧ isOwn s = true ∧ σ[i]? = some (some (V.ref p)) := by
  unfold ownAddrs
  rw [List.mem_filterMap]
  constructor
  · rintro ⟨i, _, e⟩
    cases e1 : ρ[i]? with
    | none => rw [e1] at e; cases e
    | some s =>
      rw [e1] at e
      cases s with
      | own d =>
        cases e2 : σ[i]? with
        | none => rw [e2] at e; cases e
        | some x =>
          rw [e2] at e
          cases x with
          | none => cases e
          | some v =>
            cases v with
            | ref q => cases e; exact ⟨i, _, e1, rfl, e2⟩
            | _ => cases e
      | un => cases e
      | val d => cases e
  · rintro ⟨i, s, e1, o, e2⟩
    refine ⟨i, List.mem_range.mpr (List.getElem?_eq_some_iff.mp e1).1, ?_⟩
    cases s with
    | own d => rw [e1, e2]
    | un => cases o
    | val d => cases o
theorem RE.ownE (re : RE G E σ ρ Hm H) {p : Addr} (h : p ∈ ownAddrs σ ρ) : E.H0 p = none ∨ p ∈ E.IO := by
  obtain ⟨i, s, e1, o, e2⟩ := mem_own.mp h
  obtain ⟨q, ob, e3, _, _, z⟩ := (re.sl i s e1).own o
  rw [e2] at e3
  cases e3
  exact z
theorem RE.rebase (re : RE G E σ ρ Hm H) : RE G (reb E σ ρ Hm H) σ ρ Hm H := by
  refine ⟨re.sub, re.len, fun i s hi => ?_, re.sep, fun _ _ => rfl, fun _ _ e _ => e, Same.refl _, fun _ _ e => .inl e⟩
  have h := re.sl i s hi
  cases s with
  | un => trivial
  | val d => exact h
  | own d =>
    obtain ⟨p, o, e, n, t, tp, _⟩ := h
    exact ⟨p, o, e, n, t, tp, .inr (mem_own.mpr ⟨i, _, hi, rfl, e⟩)⟩
theorem RE.baseE (re0 : RE G E σ ρ Hm H) {p : Addr} (h : (reb E σ ρ Hm H).H0 p = none ∨ p ∈ (reb E σ ρ Hm H).IO) : E.H0 p = none ∨ p ∈ E.IO := by
  rcases h with h | h
  · by_cases hi : p ∈ E.IO
    · exact .inr hi
    · refine .inl ?_
      cases q : E.H0 p with
      | none => rfl
      | some x =>
        have := re0.pres p x q hi
        have h' : H p = none := h
        rw [h'] at this; cases this
  · exact re0.ownE h
theorem RE.unbase {σ1 : L2.St} (re0 : RE G E σ ρ Hm H) (re1 : RE G (reb E σ ρ Hm H) σ1 ρ1 Hm1 H1) (hf : ∀ i ∈ E.fx, σ1[i]? = σ[i]?) : RE G E σ1 ρ1 Hm1 H1 := by
  refine ⟨re1.sub, re1.len, fun i s hi => ?_, re1.sep, fun i hi => (hf i hi).trans (re0.fix i hi), fun a o e n => ?_, re0.mono.trans re1.mono, fun a o e => ?_⟩
  · have h := re1.sl i s hi
    cases s with
    | un => trivial
    | val d => exact h
    | own d =>
      obtain ⟨p, o, e, n, t, tp, z⟩ := h
      exact ⟨p, o, e, n, t, tp, re0.baseE z⟩
  · refine re1.pres a o (re0.pres a o e n) fun z => ?_
    rcases re0.ownE z with q | q
    · rw [q] at e; cases e
    · exact n q
  · rcases re1.frsh a o e with q | q | q
    · exact re0.frsh a o q
    · exact .inr (re0.baseE (.inl q))
    · exact .inr (re0.baseE (.inr q))
theorem ROk.unbase {v : V} {r : R} {σ1 : L2.St} (re0 : RE G E σ ρ Hm H) (h : ROk G (reb E σ ρ Hm H) σ1 ρ1 Hm1 H1 v r) : ROk G E σ1 ρ1 Hm1 H1 v r := by
  obtain ⟨d, f⟩ := r
  cases f with
  | false => exact h
  | true =>
    obtain ⟨p, o, e, n, t, tp, z, w⟩ := h
    exact ⟨p, o, e, n, t, tp, re0.baseE z, w⟩
/-- a pending object behind what was done from the moved entry on -/
theorem RE.pend {σ1 : L2.St} {p : Addr} {o : HO} (re1 : RE G (reb E σ ρ Hm H) σ1 ρ1 Hm1 H1) (hp : H p = some o) (hn : Hm p = none) (ha : p ∉ ownAddrs σ ρ) :
    H1 p = some o ∧ Hm1 p = none ∧ ∀ (i : Nat) (s : S), ρ1[i]? = some s → isOwn s = true → σ1[i]? ≠ some (some (V.ref p)) := by
  refine ⟨re1.pres p o hp ha, ?_, fun i s hi os e => ?_⟩
  · cases q : Hm1 p with
    | none => rfl
    | some x =>
      rcases re1.frsh p x q with z | z | z
      · rw [show Hm p = some x from z] at hn; cases hn
      · rw [show H p = none from z] at hp; cases hp
      · exact absurd z ha
  · obtain ⟨q, ob, e2, _, _, z⟩ := (re1.sl i s hi).own os
    rw [e] at e2
    cases e2
    rcases z with z | z
    · rw [show H p = none from z] at hp; cases hp
    · exact ha z
theorem Sat.bindR {α β γ δ : Type} {rel : α → List S → Hp → Hp → β → Prop} {rel1 : γ → List S → Hp → Hp → δ → Prop} {Q : β → Hp → Prop} {Q1 : δ → Hp → Prop} {m : M γ} {k : γ → M α} (re0 : RE G E σ ρ Hm H)
    (h : Sat G E W σ Hm rel Q (M.bind m k ρ))
    (hk : ∀ a ρ1 b Hm1 H1, m ρ = .ok a ρ1 → RE G E σ ρ1 Hm1 H1 → RE G (reb E σ ρ Hm H) σ ρ1 Hm1 H1 → Same Hm Hm1 → rel1 a ρ1 Hm1 H1 b → Sat G E W σ Hm1 rel Q (k a ρ1) → Q1 b H1) :
    Sat G (reb E σ ρ Hm H) W σ Hm rel1 Q1 (m ρ) := by
  unfold M.bind at h
  cases e : m ρ with
  | ok a ρ1 =>
    rw [e] at h
    exact fun b Hm1 H1 re s r => hk a ρ1 b Hm1 H1 e (re0.unbase re fun _ _ => rfl) re s r (Sat.mono s h)
  | exc c d ρ1 =>
    rw [e] at h
    exact fun dx Hm1 H1 re s r => h dx Hm1 H1 (re0.unbase re fun _ _ => rfl) s r
  | bad =>
    rw [e] at h
    exact h
theorem SatS.bindR {γ δ : Type} {rel1 : γ → List S → Hp → Hp → δ → Prop} {D : Ends} {Q1 : δ → Hp → Prop} {m : M γ} {k : γ → M Fl} (re0 : RE G E σ ρ Hm H)
    (h : SatS G E W Hm D (M.bind m k ρ))
    (hk : ∀ a ρ1 b Hm1 H1, m ρ = .ok a ρ1 → RE G E σ ρ1 Hm1 H1 → RE G (reb E σ ρ Hm H) σ ρ1 Hm1 H1 → Same Hm Hm1 → rel1 a ρ1 Hm1 H1 b → SatS G E W Hm1 D (k a ρ1) → Q1 b H1) :
    Sat G (reb E σ ρ Hm H) W σ Hm rel1 Q1 (m ρ) := by
  unfold M.bind at h
  cases e : m ρ with
  | ok a ρ1 =>
    rw [e] at h
    exact fun b Hm1 H1 re s r => hk a ρ1 b Hm1 H1 e (re0.unbase re fun _ _ => rfl) re s r (SatS.mono s h)
  | exc c d ρ1 =>
    rw [e] at h
    exact fun dx Hm1 H1 re s r => h σ dx Hm1 H1 (re0.unbase re fun _ _ => rfl) s r
  | bad =>
    rw [e] at h
    exact h
/-- a result is apart from what the names hold -/
theorem ROk.stay {v : V} {r : R} {σ1 : L2.St} (h : ROk G E σ ρ Hm H v r) (re1 : RE G (reb E σ ρ Hm H) σ1 ρ1 Hm1 H1) : ROk G E σ1 ρ1 Hm1 H1 v r := by
  obtain ⟨d, f⟩ := r
  cases f with
  | false => exact Rep.mono re1.mono h
  | true =>
    obtain ⟨p, o, e, n, t, tp, z, w⟩ := h
    have ha : p ∉ ownAddrs σ ρ := fun q => by
      obtain ⟨i, s, e1, o1, e2⟩ := mem_own.mp q
      exact w i s e1 o1 e2
    obtain ⟨a1, a2, a3⟩ := re1.pend t n ha
    exact ⟨p, o, e, a2, a1, tp.mono re1.mono, z, a3⟩
end
/-! ## a, b = e1, e2 -/
def sPar (i j : Nat) (f g : M R) : M Fl := M.bind f fun r => M.bind g fun q => fun ρ => if i < ρ.length ∧ j < ρ.length then .ok .next (setR j q (setR i r ρ)) else .bad
section
variable {X : Cx} {G : GC} {W : WX} {fx : List Nat} {a b : Expr} {f g : M R} {pos : Pos}
theorem par_stored {E : Ent} {σ : L2.St} {ρ : List S} {Hm H : Hp} {i j : Nat} {v w : V} {r q : R} (re : RE G E σ ρ Hm H) (hij : i ≠ j) (hi : i < ρ.length) (hj : j < ρ.length) (xi : i ∉ E.fx) (xj : j ∉ E.fx)
    (h1 : ROk G E σ ρ Hm H v r) (h2 : ROk G E σ ρ Hm H w q) (ne : r.fr = true → q.fr = true → v ≠ w) : RE G E ((σ.set i (some v)).set j (some w)) (setR j q (setR i r ρ)) Hm H := by
  have r1 := re.storeR hi xi h1
  have hj' : j < (setR i r ρ).length := by unfold setR; rw [List.length_set]; exact hj
  refine r1.storeR hj' xj ?_
  obtain ⟨d, f⟩ := q
  cases f with
  | false => exact h2
  | true =>
    obtain ⟨p, o, e, n, t, tp, z, ww⟩ := h2
    refine ⟨p, o, e, n, t, tp, z, fun k s hk os ek => ?_⟩
    have hl : i < σ.length := by rw [← re.len]; exact hi
    by_cases hik : i = k
    · subst hik
      rw [List.getElem?_set_self hl] at ek
      unfold setR at hk
      rw [List.getElem?_set_self hi] at hk
      obtain ⟨d', f'⟩ := r
      cases f' with
      | false => cases hk; cases os
      | true =>
        have e2 : v = .ref p := by
          have := Option.some.inj ek
          exact Option.some.inj this
        exact ne rfl rfl (e2.trans e.symm)
    · rw [List.getElem?_set_ne hik] at ek
      unfold setR at hk
      rw [List.getElem?_set_ne hik] at hk
      exact ww k s hk os ek
theorem ds_par {i j : Nat} {x y : Str} {px py pt : Pos} {kt k2 : Nat} {pt2 : Pos} (hc : X.calm = true) (hN : X.N.Nodup) (hi : X.N[i]? = some x) (hj : X.N[j]? = some y) (hij : i ≠ j)
    (hx : X.env.scope.names.lookup x = some .local) (hy : X.env.scope.names.lookup y = some .local) (xi : i ∉ fx) (xj : j ∉ fx) (ha : DE X G W a f) (hb : DE X G W b g)
    (hw : swappedStores [.Tuple [.Name x px, .Name y py] kt pt] (.Tuple [a, b] k2 pt2) X.env = pure (some [x, y]))
    (hs : swapsWithSole [.Tuple [.Name x px, .Name y py] kt pt] (.Tuple [a, b] k2 pt2) pos.line X.env = pure false := by rfl)
    (s1 : starEach (a :: [b]) X.env = (false, eval a X.env) :: starEach [b] X.env := by rfl) (s2 : starEach (b :: []) X.env = (false, eval b X.env) :: starEach [] X.env := by rfl) :
    DS X G W fx (.Assign [.Tuple [.Name x px, .Name y py] kt pt] (.Tuple [a, b] k2 pt2) pos) (sPar i j f g) := by
  obtain ⟨ta, pa, hta⟩ := ha.ex
  obtain ⟨tb, pb, htb⟩ := hb.ex
  refine ⟨_, ps_par hc hN hi hj hij hx hy (pa_cons pa (pa_cons pb pa_nil s2) s1) hw hs, fun E σ ρ Hm H D ef re h => ?_⟩
  refine hta E σ ρ Hm H _ re (h.bind fun r ρ1 v Hm1 H1 _ re1 _ r1 h1 => ?_)
  refine htb (reb E σ ρ1 Hm1 H1) σ ρ1 Hm1 H1 _ re1.rebase (SatS.bindR re1 h1 fun q ρ2 w Hm2 H2 _ re2 re2' _ r2 h2 => ?_)
  refine ⟨v, w, rfl, ?_⟩
  have h2' : SatS G E W Hm2 D (if i < ρ2.length ∧ j < ρ2.length then Res.ok .next (setR j q (setR i r ρ2)) else .bad) := h2
  by_cases hl : i < ρ2.length ∧ j < ρ2.length
  · rw [if_pos hl] at h2'
    refine h2' _ Hm2 H2 (par_stored re2 hij hl.1 hl.2 (by rw [ef]; exact xi) (by rw [ef]; exact xj) (r1.stay re2') (r2.unbase re1) fun z1 z2 e => ?_) (Same.refl _)
    obtain ⟨d, fr⟩ := r
    obtain ⟨d', fr'⟩ := q
    cases z1
    cases z2
    obtain ⟨p, o, e1, n, t, tp, z, ww⟩ := r1
    obtain ⟨p', o', e2, n', t', tp', z', ww'⟩ := r2
    have ep : p = p' := by
      have := e1.symm.trans (e.trans e2)
      exact V.ref.inj this
    subst ep
    rcases z' with z' | z'
    · rw [show H1 p = none from z'] at t; cases t
    · obtain ⟨k, s, q1, q2, q3⟩ := mem_own.mp z'
      exact ww k s q1 q2 q3
  · rw [if_neg hl] at h2'; exact h2'.elim
end
end DL
set_option Elab.async false
set_option linter.all false
set_option maxRecDepth 100000
namespace DL
open PySem PySem.Spec PyProof.Rows L2
/-! ## what a loop walks -/
/-- at each turn the item of xs (a tuple may be laid anew for it) -/
def Yields (G : GC) (Hm : Hp) (J : It) (xs : List D) : Prop := ∀ (i : Nat) (Hm1 H : Hp), Same Hm Hm1 → Same Hm1 H →
  (∀ d, xs[i]? = some d → J.go i H ∧ ∀ x H', J.yld i H x H' → (H' = H ∧ Rep G Hm1 d x) ∨ ∃ (p : Addr) (o : HO), x = V.ref p ∧ H p = none ∧ H' = upd H p o ∧ Top G Hm1 o d) ∧ (xs.length ≤ i → J.stop i H)
structure IE (X : Cx) (G : GC) (W : WX) (tg iter : Expr) (f : M (List D)) : Prop where
  ex : ∃ wi, PI X tg iter wi ∧ ∀ E σ ρ Hm H R, RE G E σ ρ Hm H → Sat G E W σ Hm (fun xs _ Hm' _ J => Yields G Hm' J xs) R (f ρ) → wi σ H R
section
variable {X : Cx} {G : GC} {W : WX} {tg e : Expr} {pos : Pos}
/-- a shared list or tuple is walked -/
def listD : D → Option (List D)
  | .lst xs => some xs
  | _ => none
def tupD : D → Option (List D)
  | .tup xs => some xs
  | _ => none
def fIter (sel : D → Option (List D)) (f : M R) : M (List D) := M.bind (shareO f) fun o => match o with
  | .v d => (match sel d with | some xs => M.pure xs | none => fun _ => .bad)
  | _ => fun _ => .bad
theorem ie_list {f : M R} (he : DE X G W e f) (hK : G.K = X.K := by rfl) : IE X G W tg e (fIter listD f) := by
  obtain ⟨t, pe, ht⟩ := (oe_of he).ex
  refine ⟨_, pi_list pe, fun E σ ρ Hm H R re h => ?_⟩
  refine ht E σ ρ Hm H _ re (h.bind fun o ρ1 v Hm1 H1 _ re1 s1 r1 h1 => ?_)
  cases o with
  | r i => exact h1.elim
  | v d =>
    cases d with
    | lst ds =>
      have rp : Rep G Hm1 (.lst ds) v := r1
      unfold Rep at rp
      obtain ⟨a, vs, e1, r, q⟩ := rp
      have r' : SqL X.K Hm1 a vs := .inl (.inl r)
      refine ⟨a, e1, ⟨vs, re1.sub.seq r'⟩, h1 _ Hm1 H1 re1 (Same.refl _) ?_⟩
      intro i Hm2 H2 s2 s3
      have hH : SqL X.K H2 a vs := s3.seq (s2.seq r')
      refine ⟨fun d hd => ?_, fun hl => ⟨vs, hH, by rw [q.length]; exact hl⟩⟩
      obtain ⟨w, e, rv⟩ := q.get' hd
      refine ⟨⟨vs, w, hH, e⟩, fun x H' y => ?_⟩
      obtain ⟨e1, y2⟩ := y
      subst e1
      have z := y2 vs hH
      rw [e] at z
      cases z
      exact .inl ⟨rfl, rv.mono s2⟩
    | _ => exact h1.elim
theorem ie_tup {f : M R} (he : DE X G W e f) (hK : G.K = X.K := by rfl) : IE X G W tg e (fIter tupD f) := by
  obtain ⟨t, pe, ht⟩ := (oe_of he).ex
  refine ⟨_, pi_tup pe, fun E σ ρ Hm H R re h => ?_⟩
  refine ht E σ ρ Hm H _ re (h.bind fun o ρ1 v Hm1 H1 _ re1 s1 r1 h1 => ?_)
  cases o with
  | r i => exact h1.elim
  | v d =>
    cases d with
    | tup ds =>
      have rp : Rep G Hm1 (.tup ds) v := r1
      unfold Rep at rp
      obtain ⟨a, vs, e1, r, q⟩ := rp
      have r' : SqT X.K Hm1 a vs := hK ▸ r
      refine ⟨a, e1, ⟨vs, Same.seqT re1.sub r'⟩, h1 _ Hm1 H1 re1 (Same.refl _) ?_⟩
      intro i Hm2 H2 s2 s3
      have hH : SqT X.K H2 a vs := Same.seqT s3 (Same.seqT s2 r')
      refine ⟨fun d hd => ?_, fun hl => ⟨vs, hH, by rw [q.length]; exact hl⟩⟩
      obtain ⟨w, e, rv⟩ := q.get' hd
      refine ⟨⟨vs, w, hH, e⟩, fun x H' y => ?_⟩
      obtain ⟨e1, y2⟩ := y
      subst e1
      have z := y2 vs hH
      rw [e] at z
      cases z
      exact .inl ⟨rfl, rv.mono s2⟩
    | _ => exact h1.elim
/-- lo, lo + 1, .. -/
def rngD (lo : Int) (n : Nat) : List D := (List.range n).map fun k => D.int (lo + (k : Nat))
theorem rngD_length (lo : Int) (n : Nat) : (rngD lo n).length = n := by unfold rngD; rw [List.length_map, List.length_range]
theorem rngD_get {lo : Int} {n i : Nat} {d : D} (h : (rngD lo n)[i]? = some d) : i < n ∧ d = .int (lo + (i : Nat)) := by
  unfold rngD at h
  rw [List.getElem?_map] at h
  by_cases hi : i < n
  · rw [List.getElem?_range hi] at h
    exact ⟨hi, (Option.some.inj h).symm⟩
  · rw [List.getElem?_eq_none (by rw [List.length_range]; omega)] at h
    cases h
theorem yields_rng {Hm : Hp} {lo : Int} {n : Nat} : Yields G Hm (Itr lo n) (rngD lo n) := by
  intro i Hm1 H s1 s2
  refine ⟨fun d hd => ?_, fun hl => by rw [rngD_length] at hl; exact hl⟩
  obtain ⟨h1, h2⟩ := rngD_get hd
  refine ⟨h1, fun x H' y => ?_⟩
  obtain ⟨e1, e2⟩ := y
  subst e1 e2 h2
  exact .inl ⟨rfl, by unfold Rep; rfl⟩
def intsOf : List O → Option (List Int)
  | [] => some []
  | .v (.int i) :: os => (intsOf os).map (i :: ·)
  | _ => none
theorem intsOf_ok {σ : L2.St} {Hm : Hp} : ∀ {vs : List V} {os : List O} {ns : List Int}, OOks G σ Hm vs os → intsOf os = some ns → vs = ns.map V.int
  | _, _, ns, .nil, e => by cases e; rfl
  | _, .v (.int i) :: os, ns, .cons h1 h2, e => by
    unfold intsOf at e
    cases q : intsOf os with
    | none => rw [q] at e; cases e
    | some es =>
      rw [q] at e
      cases e
      have h1' : Rep G Hm (.int i) _ := h1
      unfold Rep at h1'
      rw [h1', intsOf_ok h2 q]
      rfl
  | _, .v .non :: os, ns, .cons h1 h2, e => by cases e
  | _, .v (.bl _) :: os, ns, .cons h1 h2, e => by cases e
  | _, .v (.str _) :: os, ns, .cons h1 h2, e => by cases e
  | _, .v (.lst _) :: os, ns, .cons h1 h2, e => by cases e
  | _, .v (.tup _) :: os, ns, .cons h1 h2, e => by cases e
  | _, .v (.dic _) :: os, ns, .cons h1 h2, e => by cases e
  | _, .v (.obj _ _) :: os, ns, .cons h1 h2, e => by cases e
  | _, .v (.con _) :: os, ns, .cons h1 h2, e => by cases e
  | _, .r i :: os, ns, .cons h1 h2, e => by cases e
def in62 (i : Int) : Bool := decide (-(2 ^ 62) ≤ i) && decide (i < 2 ^ 62)
theorem in62_of {i : Int} (h : in62 i = true) : -(2 ^ 62) ≤ i ∧ i < 2 ^ 62 := by
  unfold in62 at h
  rw [Bool.and_eq_true, decide_eq_true_eq, decide_eq_true_eq] at h
  exact h
def fRng1 (f : M (List O)) : M (List D) := M.bind f fun os => match intsOf os with
  | some [j] => gd (in62 j) (M.pure (rngD 0 j.toNat))
  | _ => fun _ => .bad
def fRng2 (f : M (List O)) : M (List D) := M.bind f fun os => match intsOf os with
  | some [i, j] => gd (in62 i && in62 j) (M.pure (rngD i (j - i).toNat))
  | _ => fun _ => .bad
/-- lo, lo + c, .. -/
def rngC (lo c : Int) (n : Nat) : List D := (List.range n).map fun k => D.int (lo + (k : Nat) * c)
def okRg (i j c : Int) : Bool := decide (c ≠ 0) && decide (c.natAbs < 1073741824) && Builtin.Range.small i j c && decide (Builtin.Range.rangeSize i j c = ((Builtin.Range.rangeSize i j c).toNat : Int))
def fRng3 (f : M (List O)) : M (List D) := M.bind f fun os => match intsOf os with
  | some [i, j, c] => gd (okRg i j c) (M.pure (rngC i c (Builtin.Range.rangeSize i j c).toNat))
  | _ => fun _ => .bad
theorem rngC_length (lo c : Int) (n : Nat) : (rngC lo c n).length = n := by unfold rngC; rw [List.length_map, List.length_range]
theorem rngC_get {lo c : Int} {n i : Nat} {d : D} (h : (rngC lo c n)[i]? = some d) : i < n ∧ d = .int (lo + (i : Nat) * c) := by
  unfold rngC at h
  rw [List.getElem?_map] at h
  by_cases hi : i < n
  · rw [List.getElem?_range hi] at h
    exact ⟨hi, (Option.some.inj h).symm⟩
  · rw [List.getElem?_eq_none (by rw [List.length_range]; omega)] at h
    cases h
theorem yields_rngC {Hm : Hp} {lo c : Int} {n : Nat} : Yields G Hm (Itc lo c n) (rngC lo c n) := by
  intro i Hm1 H s1 s2
  refine ⟨fun d hd => ?_, fun hl => by rw [rngC_length] at hl; exact hl⟩
  obtain ⟨h1, h2⟩ := rngC_get hd
  refine ⟨h1, fun x H' y => ?_⟩
  obtain ⟨e1, e2⟩ := y
  subst e1 e2 h2
  exact .inl ⟨rfl, by unfold Rep; rfl⟩
theorem ie_rng1 {a : Expr} {p : Pos} {f : M (List O)} (hg : Gl X "range") (hm : X.mg "range" = none) (ha : AE X G W [a] f) (hs : starEach [a] X.env = [(false, eval a X.env)] := by rfl) : IE X G W tg (.Call (.Name "range" p) [a] [] pos) (fRng1 f) := by
  obtain ⟨t, pa, ht⟩ := ha.ex
  refine ⟨_, pi_range1 hg hm pa hs, fun E σ ρ Hm H R re h => ?_⟩
  refine ht E σ ρ Hm H _ re (h.bind fun os ρ1 vs Hm1 H1 _ re1 s1 r1 h1 => ?_)
  cases e : intsOf os with
  | none => rw [e] at h1; exact h1.elim
  | some ns =>
    rw [e] at h1
    have ev := intsOf_ok r1 e
    match ns, h1, ev with
    | [j], h1, ev =>
      cases c : in62 j with
      | false =>
        have h1' : Sat G E W σ Hm1 (fun xs _ Hm' _ J => Yields G Hm' J xs) R (gd (in62 j) (M.pure (rngD 0 j.toNat)) ρ1) := h1
        rw [c] at h1'; exact h1'.elim
      | true =>
        have h1' : Sat G E W σ Hm1 (fun xs _ Hm' _ J => Yields G Hm' J xs) R (gd (in62 j) (M.pure (rngD 0 j.toNat)) ρ1) := h1
        rw [c] at h1'
        obtain ⟨a1, a2⟩ := in62_of c
        exact ⟨j, ev, a1, a2, h1' _ Hm1 H1 re1 (Same.refl _) yields_rng⟩
    | [], h1, _ => exact h1.elim
    | _ :: _ :: _, h1, _ => exact h1.elim
theorem ie_rng2 {a b : Expr} {p : Pos} {f : M (List O)} (hg : Gl X "range") (hm : X.mg "range" = none) (ha : AE X G W [a, b] f) (hs : starEach [a, b] X.env = [(false, eval a X.env), (false, eval b X.env)] := by rfl) (hs2 : starEach [b] X.env = [(false, eval b X.env)] := by rfl) :
    IE X G W tg (.Call (.Name "range" p) [a, b] [] pos) (fRng2 f) := by
  obtain ⟨t, pa, ht⟩ := ha.ex
  refine ⟨_, pi_range2 hg hm pa hs hs2, fun E σ ρ Hm H R re h => ?_⟩
  refine ht E σ ρ Hm H _ re (h.bind fun os ρ1 vs Hm1 H1 _ re1 s1 r1 h1 => ?_)
  cases e : intsOf os with
  | none => rw [e] at h1; exact h1.elim
  | some ns =>
    rw [e] at h1
    have ev := intsOf_ok r1 e
    match ns, h1, ev with
    | [i, j], h1, ev =>
      have h1' : Sat G E W σ Hm1 (fun xs _ Hm' _ J => Yields G Hm' J xs) R (gd (in62 i && in62 j) (M.pure (rngD i (j - i).toNat)) ρ1) := h1
      cases c : in62 i && in62 j with
      | false => rw [c] at h1'; exact h1'.elim
      | true =>
        rw [c] at h1'
        rw [Bool.and_eq_true] at c
        obtain ⟨a1, a2⟩ := in62_of c.1
        obtain ⟨b1, b2⟩ := in62_of c.2
        exact ⟨i, j, ev, ⟨a1, a2, b1, b2⟩, h1' _ Hm1 H1 re1 (Same.refl _) yields_rng⟩
    | [], h1, _ => exact h1.elim
    | [_], h1, _ => exact h1.elim
    | _ :: _ :: _ :: _, h1, _ => exact h1.elim
theorem ie_rng3 {a b c : Expr} {p : Pos} {f : M (List O)} (hg : Gl X "range") (hm : X.mg "range" = none) (ha : AE X G W [a, b, c] f) (hs : starEach [a, b, c] X.env = (false, eval a X.env) :: starEach [b, c] X.env := by rfl) (hpl : (backTo pos (starEach [b, c] X.env)).any (·.1) = false := by rfl) :
    IE X G W tg (.Call (.Name "range" p) [a, b, c] [] pos) (fRng3 f) := by
  obtain ⟨t, pa, ht⟩ := ha.ex
  refine ⟨_, pi_range3 hg hm pa hs hpl, fun E σ ρ Hm H R re h => ?_⟩
  refine ht E σ ρ Hm H _ re (h.bind fun os ρ1 vs Hm1 H1 _ re1 s1 r1 h1 => ?_)
  cases e : intsOf os with
  | none => rw [e] at h1; exact h1.elim
  | some ns =>
    rw [e] at h1
    have ev := intsOf_ok r1 e
    match ns, h1, ev with
    | [i, j, k], h1, ev =>
      have h1' : Sat G E W σ Hm1 (fun xs _ Hm' _ J => Yields G Hm' J xs) R (gd (okRg i j k) (M.pure (rngC i k (Builtin.Range.rangeSize i j k).toNat)) ρ1) := h1
      cases c : okRg i j k with
      | false => rw [c] at h1'; exact h1'.elim
      | true =>
        rw [c] at h1'
        unfold okRg at c
        simp only [Bool.and_eq_true, decide_eq_true_eq] at c
        exact ⟨i, j, k, _, ev, ⟨c.1.1.1, c.1.1.2, c.1.2, c.2⟩, h1' _ Hm1 H1 re1 (Same.refl _) yields_rngC⟩
    | [], h1, _ => exact h1.elim
    | [_], h1, _ => exact h1.elim
    | [_, _], h1, _ => exact h1.elim
    | _ :: _ :: _ :: _ :: _, h1, _ => exact h1.elim
/-- enumerate(xs) -/
def enumL : Nat → List D → List D
  | _, [] => []
  | n, d :: ds => .tup [.int (n : Nat), d] :: enumL (n + 1) ds
theorem enumL_length : ∀ (n : Nat) (ds : List D), (enumL n ds).length = ds.length
  | _, [] => rfl
  | n, d :: ds => by unfold enumL; rw [List.length_cons, List.length_cons, enumL_length]
theorem enumL_get : ∀ (n : Nat) (ds : List D) (i : Nat) {d : D}, (enumL n ds)[i]? = some d → ∃ e, ds[i]? = some e ∧ d = .tup [.int ((n + i : Nat) : Int), e]
  | _, [], i, d, h => by cases h
  | n, e :: ds, 0, d, h => by
    unfold enumL at h
    exact ⟨e, rfl, by
      have := Option.some.inj h
      rw [← this]; rfl⟩
  | n, e :: ds, i + 1, d, h => by
    unfold enumL at h
    obtain ⟨x, h1, h2⟩ := enumL_get (n + 1) ds i h
    exact ⟨x, h1, by rw [h2, show n + 1 + i = n + (i + 1) by omega]⟩
def pick1 : List O → Option (List D)
  | [.v (.lst ds)] => some ds
  | _ => none
def pick2 : List O → Option (List D × List D)
  | [.v (.lst ds), .v (.lst es)] => some (ds, es)
  | _ => none
theorem pick1_eq {os : List O} {ds : List D} (h : pick1 os = some ds) : os = [.v (.lst ds)] := by
  unfold pick1 at h
  split at h
  · cases h; rfl
  · cases h
theorem pick2_eq {os : List O} {p : List D × List D} (h : pick2 os = some p) : os = [.v (.lst p.1), .v (.lst p.2)] := by
  unfold pick2 at h
  split at h
  · cases h; rfl
  · cases h
def orBad {α β : Type} (x : Option α) (k : α → M β) : M β := match x with
  | some a => k a
  | none => fun _ => .bad
def fEnum (f : M (List O)) : M (List D) := M.bind f fun os => orBad (pick1 os) fun ds => M.pure (enumL 0 ds)
def fZip (f : M (List O)) : M (List D) := M.bind f fun os => orBad (pick2 os) fun p => M.pure (List.zipWith (fun d e => D.tup [d, e]) p.1 p.2)
theorem ie_enum {a : Expr} {p tpos : Pos} {elts : List Expr} {kk : Nat} {f : M (List O)} (hg : Gl X "enumerate") (hm : X.mg "enumerate" = none) (ha : AE X G W [a] f) (hs : starEach [a] X.env = [(false, eval a X.env)] := by rfl) (hK : G.K = X.K := by rfl) :
    IE X G W (.Tuple elts kk tpos) (.Call (.Name "enumerate" p) [a] [] pos) (fEnum f) := by
  obtain ⟨t, pa, ht⟩ := ha.ex
  refine ⟨_, pi_enum hg hm pa hs, fun E σ ρ Hm H R re h => ?_⟩
  refine ht E σ ρ Hm H _ re (h.bind fun os ρ1 vs Hm1 H1 _ re1 s1 r1 h1 => ?_)
  cases ep : pick1 os with
  | none => rw [ep] at h1; exact h1.elim
  | some ds =>
    rw [ep] at h1
    have eo := pick1_eq ep
    subst eo
    cases r1 with
    | cons q1 q2 =>
      cases q2
      have rp : Rep G Hm1 (.lst ds) _ := q1
      unfold Rep at rp
      obtain ⟨a, ws, e1, r, q⟩ := rp
      have r' : SqL X.K Hm1 a ws := .inl (.inl r)
      refine ⟨a, ws, by rw [e1], re1.sub.seq r', h1 _ Hm1 H1 re1 (Same.refl _) ?_⟩
      intro i Hm2 H2 s2 s3
      have hH : SqL X.K H2 a ws := s3.seq (s2.seq r')
      refine ⟨fun d hd => ?_, fun hl => ⟨ws, hH, by rw [enumL_length] at hl; rw [q.length]; exact hl⟩⟩
      obtain ⟨e, he, ed⟩ := enumL_get 0 ds i hd
      obtain ⟨w, ew, rv⟩ := q.get' he
      refine ⟨⟨ws, w, hH, ew⟩, fun x H' y => ?_⟩
      obtain ⟨T, x2, e2, nT, e3, y2⟩ := y
      have z := y2 ws hH
      rw [ew] at z
      cases z
      subst ed
      refine .inr ⟨T, _, e2, nT, e3, _, rfl, Reps.cons (by unfold Rep; rw [Nat.zero_add]) (Reps.cons (rv.mono s2) Reps.nil)⟩
theorem ie_zip {a b : Expr} {p tpos : Pos} {elts : List Expr} {kk : Nat} {f : M (List O)} (hg : Gl X "zip") (hm : X.mg "zip" = none) (ha : AE X G W [a, b] f) (hs : starEach [a, b] X.env = (false, eval a X.env) :: starEach [b] X.env := by rfl) (hpl : (backTo pos (starEach [b] X.env)).any (·.1) = false := by rfl) (hK : G.K = X.K := by rfl) :
    IE X G W (.Tuple elts kk tpos) (.Call (.Name "zip" p) [a, b] [] pos) (fZip f) := by
  obtain ⟨t, pa, ht⟩ := ha.ex
  refine ⟨_, pi_zip hg hm pa hs hpl, fun E σ ρ Hm H R re h => ?_⟩
  refine ht E σ ρ Hm H _ re (h.bind fun os ρ1 vs Hm1 H1 _ re1 s1 r1 h1 => ?_)
  cases ep : pick2 os with
  | none => rw [ep] at h1; exact h1.elim
  | some pp =>
    rw [ep] at h1
    have eo := pick2_eq ep
    subst eo
    obtain ⟨ds, es⟩ := pp
    cases r1 with
    | cons q1 q2 =>
      cases q2 with
      | cons q2 q3 =>
        cases q3
        have rp : Rep G Hm1 (.lst ds) _ := q1
        have rp2 : Rep G Hm1 (.lst es) _ := q2
        unfold Rep at rp rp2
        obtain ⟨a, ws, e1, r, q⟩ := rp
        obtain ⟨b, zs, e2, r2, q2⟩ := rp2
        have r' : SqL X.K Hm1 a ws := .inl (.inl r)
        have r2' : SqL X.K Hm1 b zs := .inl (.inl r2)
        refine ⟨a, b, ws, zs, by rw [e1, e2], re1.sub.seq r', re1.sub.seq r2', h1 _ Hm1 H1 re1 (Same.refl _) ?_⟩
        intro i Hm2 H2 s2 s3
        have hH : SqL X.K H2 a ws := s3.seq (s2.seq r')
        have hH2 : SqL X.K H2 b zs := s3.seq (s2.seq r2')
        refine ⟨fun d hd => ?_, fun hl => ⟨ws, zs, hH, hH2, by rw [List.length_zipWith] at hl; rw [q.length, q2.length]; simp only at hl; omega⟩⟩
        rw [List.getElem?_zipWith] at hd
        cases c1 : ds[i]? with
        | none => rw [c1] at hd; cases hd
        | some d1 =>
          cases c2 : es[i]? with
          | none => rw [c1, c2] at hd; cases hd
          | some d2 =>
            rw [c1, c2] at hd
            cases hd
            obtain ⟨w, ew, rv⟩ := q.get' c1
            obtain ⟨w2, ew2, rv2⟩ := q2.get' c2
            refine ⟨⟨ws, zs, w, w2, hH, hH2, ew, ew2⟩, fun x H' y => ?_⟩
            obtain ⟨T, x1, x2, e3, nT, e4, y1, y2⟩ := y
            have z1 := y1 ws hH
            have z2 := y2 zs hH2
            rw [ew] at z1
            rw [ew2] at z2
            cases z1
            cases z2
            exact .inr ⟨T, _, e3, nT, e4, _, rfl, Reps.cons (rv.mono s2) (Reps.cons (rv2.mono s2) Reps.nil)⟩
/-! ## for, while -/
def loopL (ft : D → List S → Option (List S)) (fb : M Fl) : List D → M Fl
  | [] => fun ρ => .ok .next ρ
  | d :: ds => fun ρ => match ft d ρ with
    | none => .bad
    | some ρ1 => match fb ρ1 with
      | .ok .next ρ2 => loopL ft fb ds ρ2
      | .ok .cont ρ2 => loopL ft fb ds ρ2
      | .ok .brk ρ2 => .ok .next ρ2
      | .ok (.ret r) ρ2 => .ok (.ret r) ρ2
      | .exc c d ρ2 => .exc c d ρ2
      | .bad => .bad
def sFor (fi : M (List D)) (ft : D → List S → Option (List S)) (fb : M Fl) : M Fl := M.bind fi fun xs => loopL ft fb xs
variable {fx : List Nat}
theorem ds_for {iter : Expr} {body : List Stmt} {ix : List Nat} {fi : M (List D)} {ft : D → List S → Option (List S)} {fb : M Fl} (hp : PassesOwn (model X.prog X.w) X.A X.env X.xe) (hc : X.calm = true) (hi : IE X G W tg iter fi) (hg : GE X G fx tg ix ft) (hb : DSs X G W fx body fb)
    (hs : ∀ x, foldedSetIterable iter X.env x = pure x := by intro _; rfl) : DS X G W fx (.For tg iter body [] pos) (sFor fi ft fb) := by
  obtain ⟨wi, pi, hwi⟩ := hi.ex
  obtain ⟨g, pg, hgg⟩ := hg.ex
  obtain ⟨tb, pb, htb⟩ := hb.ex
  refine ⟨_, ps_for hp hc pi pg pb hs, fun E σ ρ Hm H D ef re h => ?_⟩
  refine hwi E σ ρ Hm H _ re (h.bind fun xs ρ1 J Hm1 H1 _ re1 s1 yl h1 => ?_)
  refine ⟨fun i m σ H => i + m = xs.length ∧ ∃ ρ Hm2, RE G E σ ρ Hm2 H ∧ Same Hm1 Hm2 ∧ SatS G E W Hm2 D (loopL ft fb (xs.drop i) ρ), ⟨xs.length, by omega, ρ1, Hm1, re1, Same.refl _, by rw [List.drop_zero]; exact h1⟩, ?_⟩
  rintro i m σ2 H2 ⟨him, ρ2, Hm2, re2, s2, h2⟩
  obtain ⟨y1, y2⟩ := yl i Hm2 H2 s2 re2.sub
  by_cases hlt : i < xs.length
  · have hd : xs[i]? = some xs[i] := List.getElem?_eq_getElem hlt
    obtain ⟨go, yy⟩ := y1 _ hd
    rw [List.drop_eq_getElem_cons hlt] at h2
    refine .inr ⟨go, fun σ' H' => ∃ ρ Hm3, RE G E σ' ρ Hm3 H' ∧ Same Hm1 Hm3 ∧ SatS G E W Hm3 D (loopL ft fb (xs.drop (i + 1)) ρ), fun σ' H' ⟨ρ', Hm3, r3, s3, h3⟩ => ⟨m - 1, by omega, by omega, ρ', Hm3, r3, s3, h3⟩, fun x H' y => ?_⟩
    have step : ∀ Hm3, RE G E σ2 ρ2 Hm3 H' → Same Hm2 Hm3 → Rep G Hm3 xs[i] x → g x σ2 H' fun σ2 H2 => tb { D with nx := fun σ' H' => ∃ ρ Hm3, RE G E σ' ρ Hm3 H' ∧ Same Hm1 Hm3 ∧ SatS G E W Hm3 D (loopL ft fb (xs.drop (i + 1)) ρ), ct := fun σ' H' => ∃ ρ Hm3, RE G E σ' ρ Hm3 H' ∧ Same Hm1 Hm3 ∧ SatS G E W Hm3 D (loopL ft fb (xs.drop (i + 1)) ρ), bk := D.nx } σ2 H2 := by
      intro Hm3 re3 s3 rp
      refine hgg E σ2 ρ2 Hm3 H' x xs[i] _ ef re3 rp ?_
      unfold loopL at h2
      cases et : ft xs[i] ρ2 with
      | none => rw [et] at h2; exact h2.elim
      | some ρ3 =>
        rw [et] at h2
        refine fun σ4 re4 _ _ => htb E σ4 ρ3 Hm3 H' _ ef re4 ?_
        simp only at h2
        cases eb : fb ρ3 with
        | ok a ρ4 =>
          rw [eb] at h2
          cases a with
          | next => exact fun σ5 Hm5 H5 re5 s5 => ⟨ρ4, Hm5, re5, (s2.trans s3).trans s5, SatS.mono (s3.trans s5) h2⟩
          | cont => exact fun σ5 Hm5 H5 re5 s5 => ⟨ρ4, Hm5, re5, (s2.trans s3).trans s5, SatS.mono (s3.trans s5) h2⟩
          | brk => exact fun σ5 Hm5 H5 re5 s5 => h2 σ5 Hm5 H5 re5 (s3.trans s5)
          | ret r => exact fun σ5 v Hm5 H5 re5 s5 => h2 σ5 v Hm5 H5 re5 (s3.trans s5)
        | exc c d ρ4 =>
          rw [eb] at h2
          exact fun σ5 dx Hm5 H5 re5 s5 => h2 σ5 dx Hm5 H5 re5 (s3.trans s5)
        | bad =>
          rw [eb] at h2
          exact h2
    rcases yy x H' y with ⟨e1, rp⟩ | ⟨p, o, e1, np, e2, tp⟩
    · subst e1
      exact step Hm2 re2 (Same.refl _) rp
    · subst e1 e2
      obtain ⟨a1, a2, a3, a4⟩ := re2.new (o := o) np
      exact step _ (a1.share a2 upd_same a3 a4) (Same.upd a2) ((tp.mono (Same.upd a2)).rep upd_same)
  · refine .inl ⟨y2 (by omega), ?_⟩
    rw [List.drop_of_length_le (by omega)] at h2
    exact h2 σ2 Hm2 H2 re2 (Same.refl _)
/-- at most n turns -/
def whileN (c : M Bool) (b : M Fl) : Nat → M Fl
  | 0 => fun _ => .bad
  | n + 1 => fun ρ => match c ρ with
    | .ok true ρ1 => (match b ρ1 with
      | .ok .next ρ2 => whileN c b n ρ2
      | .ok .cont ρ2 => whileN c b n ρ2
      | .ok .brk ρ2 => .ok .next ρ2
      | .ok (.ret r) ρ2 => .ok (.ret r) ρ2
      | .exc c d ρ2 => .exc c d ρ2
      | .bad => .bad)
    | .ok false ρ1 => .ok .next ρ1
    | .exc c d ρ1 => .exc c d ρ1
    | .bad => .bad
open Classical in
noncomputable def sWhile (c : M Bool) (b : M Fl) : M Fl := fun ρ => if h : ∃ n, whileN c b n ρ ≠ .bad then whileN c b h.choose ρ else .bad
theorem whileN_more {c : M Bool} {b : M Fl} : ∀ (n : Nat) (ρ : List S), whileN c b n ρ ≠ .bad → whileN c b (n + 1) ρ = whileN c b n ρ
  | 0, ρ, h => absurd rfl h
  | n + 1, ρ, h => by
    have ih := fun ρ' => whileN_more (c := c) (b := b) n ρ'
    unfold whileN at h ⊢
    cases e : c ρ with
    | ok t ρ1 =>
      rw [e] at h
      cases t with
      | true =>
        simp only at h ⊢
        cases e2 : b ρ1 with
        | ok a ρ2 =>
          rw [e2] at h
          cases a with
          | next => exact ih ρ2 h
          | cont => exact ih ρ2 h
          | brk => rfl
          | ret r => rfl
        | exc c d ρ2 => rfl
        | bad => rfl
      | false => rfl
    | exc c d ρ1 => rfl
    | bad => rfl
theorem whileN_le {c : M Bool} {b : M Fl} {n m : Nat} {ρ : List S} (h : whileN c b n ρ ≠ .bad) (l : n ≤ m) : whileN c b m ρ = whileN c b n ρ := by
  induction m with
  | zero =>
    have : n = 0 := by omega
    rw [this]
  | succ m ih =>
    by_cases e : n = m + 1
    · rw [e]
    · have q := ih (by omega)
      rw [whileN_more m ρ (by rw [q]; exact h), q]
theorem sWhile_eq {c : M Bool} {b : M Fl} {n : Nat} {ρ : List S} (h : whileN c b n ρ ≠ .bad) : sWhile c b ρ = whileN c b n ρ := by
  have hx : ∃ n, whileN c b n ρ ≠ .bad := ⟨n, h⟩
  unfold sWhile
  rw [dif_pos hx]
  have q := hx.choose_spec
  rcases Nat.le_total n hx.choose with l | l
  · exact whileN_le h l
  · exact (whileN_le q l).symm
theorem ds_while {c : Expr} {body : List Stmt} {fc : M Bool} {fb : M Fl} (hp : PassesOwn (model X.prog X.w) X.A X.env X.xe) (hc : DT X G W c fc) (hb : DSs X G W fx body fb) : DS X G W fx (.While c body [] pos) (sWhile fc fb) := by
  obtain ⟨t, p, q⟩ := hc.ex
  obtain ⟨tb, pb, htb⟩ := hb.ex
  refine ⟨_, ps_while hp p pb, fun E σ ρ Hm H D ef re h => ?_⟩
  have hn : ∃ n, SatS G E W Hm D (whileN fc fb n ρ) := by
    unfold sWhile at h
    by_cases hx : ∃ n, whileN fc fb n ρ ≠ .bad
    · rw [dif_pos hx] at h; exact ⟨_, h⟩
    · rw [dif_neg hx] at h; exact h.elim
  obtain ⟨n, hn⟩ := hn
  refine ⟨fun m σ H => ∃ ρ Hm2, RE G E σ ρ Hm2 H ∧ SatS G E W Hm2 D (whileN fc fb m ρ), ⟨n, ρ, Hm, re, hn⟩, ?_⟩
  rintro m σ2 H2 ⟨ρ2, Hm2, re2, h2⟩
  cases m with
  | zero => exact h2.elim
  | succ m =>
    unfold whileN at h2
    refine q E σ2 ρ2 Hm2 H2 _ re2 ?_
    cases e : fc ρ2 with
    | bad => rw [e] at h2; exact h2
    | exc c d ρ3 => rw [e] at h2; exact fun dx Hm3 H3 re3 s3 r => h2 σ2 dx Hm3 H3 re3 s3 r
    | ok b ρ3 =>
      rw [e] at h2
      refine fun b' Hm3 H3 re3 s3 eb => ?_
      have eb' : b' = b := eb
      subst eb'
      cases b' with
      | false =>
        simp only at h2
        refine iteF ?_
        exact h2 σ2 Hm3 H3 re3 s3
      | true =>
        simp only at h2
        refine iteT ?_
        refine ⟨fun σ' H' => ∃ ρ Hm2, RE G E σ' ρ Hm2 H' ∧ SatS G E W Hm2 D (whileN fc fb m ρ), fun σ' H' hh => ⟨m, Nat.lt_succ_self m, hh⟩, ?_⟩
        refine htb E σ2 ρ3 Hm3 H3 _ ef re3 ?_
        cases e2 : fb ρ3 with
        | bad => rw [e2] at h2; exact h2
        | exc c d ρ4 => rw [e2] at h2; exact fun σ4 dx Hm4 H4 re4 s4 r => h2 σ4 dx Hm4 H4 re4 (s3.trans s4) r
        | ok a ρ4 =>
          rw [e2] at h2
          cases a with
          | next => exact fun σ5 Hm5 H5 re5 s5 => ⟨ρ4, Hm5, re5, SatS.mono (s3.trans s5) h2⟩
          | cont => exact fun σ5 Hm5 H5 re5 s5 => ⟨ρ4, Hm5, re5, SatS.mono (s3.trans s5) h2⟩
          | brk => exact fun σ5 Hm5 H5 re5 s5 => h2 σ5 Hm5 H5 re5 (s3.trans s5)
          | ret r => exact fun σ5 v Hm5 H5 re5 s5 => h2 σ5 v Hm5 H5 re5 (s3.trans s5)
end
end DL
set_option Elab.async false
set_option linter.all false
set_option maxRecDepth 100000
namespace DL
open PySem PySem.Spec PyProof.Rows L2
/-! ## list comprehensions -/
/-- the block's own names forgotten -/
def wipeS (ρ : List S) : List Nat → List S
  | [] => ρ
  | v :: vs => (wipeS ρ vs).set v .un
/-- the block's own names as they stood around it -/
def backS (ρ0 : List S) (ρ : List S) : List Nat → List S
  | [] => ρ
  | v :: vs => (backS ρ0 ρ vs).set v (match ρ0[v]? with | some (.val d) => .val d | _ => .un)
/-- none of the block's names holds an object of its own -/
def noOwn (ρ : List S) (vs : List Nat) : Bool := vs.all fun v => match ρ[v]? with
  | some (.own _) => false
  | _ => true
def lcL (vs : List Nat) (ft : D → List S → Option (List S)) (fc : M Bool) (fe : M R) : List D → List D → M (List D)
  | [], acc => fun ρ => .ok acc (wipeS ρ vs)
  | d :: ds, acc => fun ρ => match ft d (wipeS ρ vs) with
    | none => .bad
    | some ρ1 => match fc ρ1 with
      | .ok true ρ2 => (match fe ρ2 with
        | .ok r ρ3 => if acc.length < sizeD then lcL vs ft fc fe ds (acc ++ [r.d]) ρ3 else .bad
        | _ => .bad)
      | .ok false ρ2 => lcL vs ft fc fe ds acc ρ2
      | _ => .bad
def fLc (fi : M (List D)) (vs : List Nat) (ft : D → List S → Option (List S)) (fc : M Bool) (fe : M R) : M R :=
  M.bind fi fun xs => fun ρ => if noOwn ρ vs = true then (match lcL vs ft fc fe xs [] ρ with
    | .ok acc ρ' => .ok ⟨.lst acc, true⟩ (backS ρ ρ' vs)
    | _ => .bad) else .bad
section
variable {G : GC} {E : Ent} {σ : L2.St} {ρ ρ' : List S} {Hm H Hm' H' : Hp}
theorem wipeS_length : ∀ vs : List Nat, (wipeS ρ vs).length = ρ.length
  | [] => rfl
  | v :: vs => by unfold wipeS; rw [List.length_set, wipeS_length vs]
theorem backS_length : ∀ vs : List Nat, (backS ρ ρ' vs).length = ρ'.length
  | [] => rfl
  | v :: vs => by unfold backS; rw [List.length_set, backS_length vs]
/-- a slot that holds no object of its own is forgotten, in both -/
theorem RE.wipe1 {v : Nat} (re : RE G E σ ρ Hm H) (hx : v ∉ E.fx) : RE G E (σ.set v none) (ρ.set v .un) Hm H := by
  have oth : ∀ (j : Nat) (t : S), (ρ.set v .un)[j]? = some t → t ≠ .un → ρ[j]? = some t ∧ (σ.set v none)[j]? = σ[j]? := fun j t e n => by
    by_cases hj : v = j
    · subst hj
      by_cases hl : v < ρ.length
      · rw [List.getElem?_set_self hl] at e
        exact absurd (Option.some.inj e).symm n
      · rw [List.getElem?_eq_none (by rw [List.length_set]; omega)] at e; cases e
    · rw [List.getElem?_set_ne hj] at e
      exact ⟨e, List.getElem?_set_ne hj⟩
  have own_ne : ∀ t : S, isOwn t = true → t ≠ .un := fun t o z => by subst z; cases o
  refine ⟨re.sub, by rw [List.length_set, List.length_set]; exact re.len, fun j t hj => ?_, fun j k t u p n hj hk ot ou ej ek => ?_, fun j hj => ?_, re.pres, re.mono, re.frsh⟩
  · cases t with
    | un => trivial
    | val d =>
      obtain ⟨e1, e2⟩ := oth j _ hj (by intro z; cases z)
      rw [e2]; exact re.sl j _ e1
    | own d =>
      obtain ⟨e1, e2⟩ := oth j _ hj (by intro z; cases z)
      rw [e2]; exact re.sl j _ e1
  · obtain ⟨e1, e2⟩ := oth j t hj (own_ne t ot)
    obtain ⟨e3, e4⟩ := oth k u hk (own_ne u ou)
    rw [e2] at ej
    rw [e4] at ek
    exact re.sep j k t u p n e1 e3 ot ou ej ek
  · have n : v ≠ j := fun e => hx (e ▸ hj)
    rw [List.getElem?_set_ne n]
    exact re.fix j hj
theorem RE.wipeAll (re : RE G E σ ρ Hm H) : ∀ vs : List Nat, (∀ v ∈ vs, v ∉ E.fx) → RE G E (wipe σ vs) (wipeS ρ vs) Hm H
  | [], _ => re
  | v :: vs, h => (re.wipeAll vs fun v hv => h v (List.mem_cons_of_mem _ hv)).wipe1 (h v List.mem_cons_self)
theorem wipe_at : ∀ (vs : List Nat) (σ : L2.St) (j : Nat), (wipe σ vs)[j]? = if j ∈ vs ∧ j < σ.length then some none else σ[j]?
  | [], σ, j => by
    have : ¬ (j ∈ ([] : List Nat) ∧ j < σ.length) := fun h => by cases h.1
    rw [if_neg this]; rfl
  | v :: vs, σ, j => by
    unfold L2.wipe
    by_cases hj : v = j
    · subst hj
      by_cases hl : v < σ.length
      · rw [List.getElem?_set_self (by rw [wipe_length]; exact hl), if_pos ⟨List.mem_cons_self, hl⟩]
      · rw [List.getElem?_eq_none (by rw [List.length_set, wipe_length]; omega), if_neg (fun h => hl h.2), List.getElem?_eq_none (by omega)]
    · rw [List.getElem?_set_ne hj, wipe_at vs σ j]
      have : (j ∈ v :: vs ∧ j < σ.length) ↔ (j ∈ vs ∧ j < σ.length) := by
        constructor
        · rintro ⟨h1, h2⟩
          exact ⟨(List.mem_cons.mp h1).resolve_left (fun z => hj z.symm), h2⟩
        · rintro ⟨h1, h2⟩
          exact ⟨List.mem_cons_of_mem _ h1, h2⟩
      by_cases c : j ∈ vs ∧ j < σ.length
      · rw [if_pos c, if_pos (this.mpr c)]
      · rw [if_neg c, if_neg (fun z => c (this.mp z))]
theorem wipe_eq {vs ix : List Nat} {σ1 σ2 : L2.St} (hl : σ2.length = σ1.length) (h : ∀ j, j ∉ ix → σ2[j]? = σ1[j]?) (hs : ∀ j ∈ ix, j ∈ vs) : wipe σ2 vs = wipe σ1 vs := by
  apply List.ext_getElem?
  intro j
  rw [wipe_at, wipe_at, hl]
  by_cases c : j ∈ vs ∧ j < σ1.length
  · rw [if_pos c, if_pos c]
  · rw [if_neg c, if_neg c]
    by_cases hj : j ∈ ix
    · have : ¬ j < σ1.length := fun z => c ⟨hs j hj, z⟩
      rw [List.getElem?_eq_none (by omega), List.getElem?_eq_none (by omega)]
    · exact h j hj
theorem wipe_wipe {vs : List Nat} {σ : L2.St} : wipe (wipe σ vs) vs = wipe σ vs := by
  apply List.ext_getElem?
  intro j
  rw [wipe_at, wipe_length, wipe_at]
  by_cases c : j ∈ vs ∧ j < σ.length
  · rw [if_pos c, if_pos c]
  · rw [if_neg c, if_neg c]
theorem backS_at (lp : ρ'.length = ρ.length) : ∀ (ws : List Nat) (j : Nat), (backS ρ ρ' ws)[j]? = if j ∈ ws ∧ j < ρ.length then some (match ρ[j]? with | some (.val d) => .val d | _ => .un) else ρ'[j]? := by
  intro ws
  induction ws with
  | nil =>
    intro j
    have : ¬ (j ∈ ([] : List Nat) ∧ j < ρ.length) := fun h => by cases h.1
    rw [if_neg this]; rfl
  | cons v ws ih =>
    intro j
    unfold backS
    by_cases hj : v = j
    · subst hj
      by_cases hl : v < ρ.length
      · rw [List.getElem?_set_self (by rw [backS_length, lp]; exact hl), if_pos ⟨List.mem_cons_self, hl⟩]
      · rw [List.getElem?_eq_none (by rw [List.length_set, backS_length, lp]; omega), if_neg (fun h => hl h.2), List.getElem?_eq_none (by omega)]
    · rw [List.getElem?_set_ne hj, ih j]
      have : (j ∈ v :: ws ∧ j < ρ.length) ↔ (j ∈ ws ∧ j < ρ.length) := by
        constructor
        · rintro ⟨h1, h2⟩
          exact ⟨(List.mem_cons.mp h1).resolve_left (fun z => hj z.symm), h2⟩
        · rintro ⟨h1, h2⟩
          exact ⟨List.mem_cons_of_mem _ h1, h2⟩
      by_cases c : j ∈ ws ∧ j < ρ.length
      · rw [if_pos c, if_pos (this.mpr c)]
      · rw [if_neg c, if_neg (fun z => c (this.mp z))]
theorem backS_own (lp : ρ'.length = ρ.length) (ls : ρ.length = σ.length) {vs : List Nat} {j : Nat} {t : S} (e : (backS ρ ρ' vs)[j]? = some t) (o : isOwn t = true) : ρ'[j]? = some t ∧ (L2.wipe σ vs)[j]? = σ[j]? := by
  rw [backS_at lp] at e
  by_cases c : j ∈ vs ∧ j < ρ.length
  · rw [if_pos c] at e
    cases q : ρ[j]? with
    | none => rw [q] at e; cases e; cases o
    | some x => rw [q] at e; cases x <;> (cases e; cases o)
  · rw [if_neg c] at e
    exact ⟨e, by rw [wipe_at, if_neg (by rw [← ls]; exact c)]⟩
/-- behind the block -/
theorem RE.back (re : RE G E σ ρ Hm H) (vs : List Nat) (hn : noOwn ρ vs = true) (re2 : RE G E (wipe σ vs) ρ' Hm' H') (s : Same Hm Hm') : RE G E σ (backS ρ ρ' vs) Hm' H' := by
  have lp : ρ'.length = ρ.length := by rw [re2.len, wipe_length, re.len]
  have s_at : ∀ j, ¬ (j ∈ vs ∧ j < ρ.length) → (L2.wipe σ vs)[j]? = σ[j]? := fun j c => by
    rw [wipe_at, if_neg (by rw [← re.len]; exact c)]
  refine ⟨re2.sub, by rw [backS_length, lp]; exact re.len, fun j t hj => ?_, fun j k t u p n hj hk ot ou ej ek => ?_, re.fix, re2.pres, re2.mono, re2.frsh⟩
  · cases t with
    | un => trivial
    | own d =>
      obtain ⟨e1, e2⟩ := backS_own lp re.len hj rfl
      have := re2.sl j _ e1
      rw [e2] at this
      exact this
    | val d =>
      rw [backS_at lp] at hj
      by_cases c : j ∈ vs ∧ j < ρ.length
      · rw [if_pos c] at hj
        cases q : ρ[j]? with
        | none => rw [q] at hj; cases hj
        | some x =>
          rw [q] at hj
          cases x with
          | un => cases hj
          | own _ => cases hj
          | val d' =>
            cases hj
            obtain ⟨v, e, r⟩ := re.sl j _ q
            exact ⟨v, e, r.mono s⟩
      · rw [if_neg c] at hj
        have := re2.sl j _ hj
        rw [s_at j c] at this
        exact this
  · obtain ⟨e1, e2⟩ := backS_own lp re.len hj ot
    obtain ⟨e3, e4⟩ := backS_own lp re.len hk ou
    rw [← e2] at ej
    rw [← e4] at ek
    exact re2.sep j k t u p n e1 e3 ot ou ej ek
end
/-- a pending object is changed -/
theorem RE.updP {G : GC} {E : Ent} {σ : L2.St} {ρ : List S} {Hm H : Hp} {p : Addr} {o : HO} (re : RE G E σ ρ Hm H) (hn : Hm p = none) (he : E.H0 p = none ∨ p ∈ E.IO) (ha : p ∉ ownAddrs σ ρ) : RE G E σ ρ Hm (upd H p o) := by
  refine ⟨fun b x e => ?_, re.len, fun i s hi => ?_, re.sep, re.fix, fun a x e n => ?_, re.mono, re.frsh⟩
  · rw [upd_ne (ne_of_none e hn)]; exact re.sub b x e
  · have h := re.sl i s hi
    cases s with
    | un => trivial
    | val d => exact h
    | own d =>
      obtain ⟨q, ob, e, n, t, tp, z⟩ := h
      have : q ≠ p := fun z => ha (mem_own.mpr ⟨i, _, hi, rfl, by rw [← z]; exact e⟩)
      exact ⟨q, ob, e, n, by rw [upd_ne this]; exact t, tp, z⟩
  · have : a ≠ p := fun z => by
      subst z
      rcases he with q | q
      · rw [q] at e; cases e
      · exact n q
    rw [upd_ne this]; exact re.pres a x e n
/-- the walk of a comprehension between two turns -/
def LcInv (G : GC) (E : Ent) (W : WX) (σ : L2.St) (vs : List Nat) (ft : D → List S → Option (List S)) (fc : M Bool) (fe : M R) (ρ1 : List S) (Hm1 : Hp) (Q : V → Hp → Prop) (Dd : Addr) (xs : List D) (H2 : Hp) : Prop :=
  ∃ ρ2 acc av Hm2, RE G E (wipe σ vs) (wipeS ρ2 vs) Hm2 H2 ∧ Same Hm1 Hm2 ∧ H2 Dd = some (.lst av) ∧ Hm2 Dd = none ∧ Reps G Hm2 acc av ∧ (E.H0 Dd = none ∨ Dd ∈ E.IO) ∧ Dd ∉ ownAddrs (wipe σ vs) (wipeS ρ2 vs) ∧
    ∃ accF ρF, lcL vs ft fc fe xs acc ρ2 = .ok accF ρF ∧ Sat G E W σ Hm1 (fun r ρ' Hm' H' v => ROk G E σ ρ' Hm' H' v r) Q (.ok ⟨.lst accF, true⟩ (backS ρ1 ρF vs))
section
variable {X : Cx} {G : GC} {W : WX} {fx : List Nat}
theorem lc_turn {g : TG} {tt : TT} {te : TE} {vs ix : List Nat} {ft : D → List S → Option (List S)} {fc : M Bool} {fe : M R} (hx : ∀ v ∈ vs, v ∉ fx) (hix : ∀ j ∈ ix, j ∈ vs)
    (hg : ∀ E σ ρ Hm H x d Q, E.fx = fx → RE G E σ ρ Hm H → Rep G Hm d x → (match ft d ρ with | some ρ' => ∀ σ', RE G E σ' ρ' Hm H → σ'.length = σ.length → (∀ j, j ∉ ix → σ'[j]? = σ[j]?) → Q σ' H | none => False) → g x σ H Q)
    (ht : ∀ E σ ρ Hm H Q, RE G E σ ρ Hm H → Sat G E (fun _ _ _ _ => False) σ Hm (fun b _ _ _ c => c = b) Q (fc ρ) → tt σ H Q)
    (he : ∀ E σ ρ Hm H Q, RE G E σ ρ Hm H → Sat G E (fun _ _ _ _ => False) σ Hm (fun r ρ' Hm' H' v => ROk G E σ ρ' Hm' H' v r) Q (fe ρ) → te σ H Q)
    {E : Ent} {σ : L2.St} {ρ1 ρ2 : List S} {Hm1 Hm3 H' : Hp} {Q : V → Hp → Prop} {Dd : Addr} {d : D} {xs acc : List D} {av : List V} {x : V} {accF : List D} {ρF : List S} (ef : E.fx = fx)
    (re3 : RE G E (wipe σ vs) (wipeS ρ2 vs) Hm3 H') (s3 : Same Hm1 Hm3) (rpx : Rep G Hm3 d x) (hD : H' Dd = some (.lst av)) (nD : Hm3 Dd = none) (rp : Reps G Hm3 acc av) (zD : E.H0 Dd = none ∨ Dd ∈ E.IO) (aD : Dd ∉ ownAddrs (wipe σ vs) (wipeS ρ2 vs))
    (el : lcL vs ft fc fe (d :: xs) acc ρ2 = .ok accF ρF) (hQ : Sat G E W σ Hm1 (fun r ρ' Hm' H' v => ROk G E σ ρ' Hm' H' v r) Q (.ok ⟨.lst accF, true⟩ (backS ρ1 ρF vs))) :
    g x (wipe σ vs) H' fun σ2 H2 => wipe σ2 vs = wipe σ vs ∧ tt σ2 H2 fun b H3 =>
      if b = true then te σ2 H3 fun y H4 => ∃ acc, H4 Dd = some (.lst acc) ∧ acc.length < sizeLine ∧ LcInv G E W σ vs ft fc fe ρ1 Hm1 Q Dd xs (upd H4 Dd (.lst (acc ++ [y]))) else LcInv G E W σ vs ft fc fe ρ1 Hm1 Q Dd xs H3 := by
  unfold lcL at el
  have re3b := re3.rebase
  refine hg (reb E (wipe σ vs) (wipeS ρ2 vs) Hm3 H') (wipe σ vs) (wipeS ρ2 vs) Hm3 H' x d _ ef re3b rpx ?_
  cases et : ft d (wipeS ρ2 vs) with
  | none => rw [et] at el; cases el
  | some ρ3 =>
    rw [et] at el
    simp only at el ⊢
    refine fun σ3 re4 l4 k4 => ?_
    have ws : wipe σ3 vs = wipe σ vs := by rw [wipe_eq (vs := vs) (ix := ix) l4 k4 hix, wipe_wipe]
    have hfx : ∀ i ∈ E.fx, σ3[i]? = (wipe σ vs)[i]? := fun i hi => k4 i fun z => hx i (hix i z) (by rw [← ef]; exact hi)
    -- back to the entry E, the names of the block forgotten
    have back : ∀ {ρ5 : List S} {Hm5 H5 : Hp}, RE G (reb E (wipe σ vs) (wipeS ρ2 vs) Hm3 H') σ3 ρ5 Hm5 H5 → RE G E (wipe σ vs) (wipeS ρ5 vs) Hm5 H5 ∧ H5 Dd = some (.lst av) ∧ Hm5 Dd = none ∧ Dd ∉ ownAddrs σ3 ρ5 := fun {ρ5 Hm5 H5} r5 => by
      obtain ⟨a1, a2, a3⟩ := r5.pend hD nD aD
      have q := (re3.unbase r5 hfx).wipeAll vs (by rw [ef]; exact hx)
      rw [ws] at q
      exact ⟨q, a1, a2, fun z => by
        obtain ⟨i, s, e1, o1, e2⟩ := mem_own.mp z
        exact a3 i s e1 o1 e2⟩
    have wOwn : ∀ {ρ5 : List S}, Dd ∉ ownAddrs σ3 ρ5 → Dd ∉ ownAddrs (wipe σ vs) (wipeS ρ5 vs) := fun {ρ5} n z => by
      obtain ⟨i, s, e1, o1, e2⟩ := mem_own.mp z
      refine n (mem_own.mpr ⟨i, s, ?_, o1, ?_⟩)
      · have : ∀ (ws : List Nat), (wipeS ρ5 ws)[i]? = some s → ρ5[i]? = some s := fun ws => by
          induction ws with
          | nil => exact id
          | cons v ws ih =>
            intro e
            unfold wipeS at e
            by_cases hv : v = i
            · subst hv
              by_cases hl : v < (wipeS ρ5 ws).length
              · rw [List.getElem?_set_self hl] at e; cases e; cases o1
              · rw [List.getElem?_eq_none (by rw [List.length_set]; omega)] at e; cases e
            · rw [List.getElem?_set_ne hv] at e; exact ih e
        exact this vs e1
      · rw [← ws, wipe_at] at e2
        by_cases c : i ∈ vs ∧ i < σ3.length
        · rw [if_pos c] at e2; cases e2
        · rw [if_neg c] at e2; exact e2
    refine ⟨ws, ht _ σ3 ρ3 Hm3 H' _ re4 ?_⟩
    cases ec : fc ρ3 with
    | bad => rw [ec] at el; cases el
    | exc c d ρ4 => rw [ec] at el; cases el
    | ok b ρ4 =>
      rw [ec] at el
      refine fun b' Hm4 H4 re5 s5 eb => ?_
      have eb' : b' = b := eb
      subst eb'
      cases b' with
      | false =>
        simp only at el
        obtain ⟨q1, q2, q3, q4⟩ := back re5
        exact iteF ⟨ρ4, acc, av, Hm4, q1, s3.trans s5, q2, q3, rp.mono s5, zD, wOwn q4, accF, ρF, el, hQ⟩
      | true =>
        simp only at el
        refine iteT (he _ σ3 ρ4 Hm4 H4 _ re5 ?_)
        cases ee : fe ρ4 with
        | bad => rw [ee] at el; cases el
        | exc c d ρ5 => rw [ee] at el; cases el
        | ok r ρ5 =>
          rw [ee] at el
          simp only at el
          refine fun y Hm5 H5 re6 s6 ro => ?_
          by_cases hl : acc.length < sizeD
          · rw [if_pos hl] at el
            obtain ⟨Hm6, re7, s7, ry⟩ := ro.share re6
            obtain ⟨q1, q2, q3, q4⟩ := back re7
            have s37 : Same Hm3 Hm6 := (s5.trans s6).trans s7
            refine ⟨av, q2, by rw [rp.length, sizeD_eq]; exact hl, ρ5, acc ++ [r.d], av ++ [y], Hm6, q1.updP q3 zD (wOwn q4), s3.trans s37, upd_same, q3, (rp.mono s37).append (Reps.cons ry Reps.nil), zD, wOwn q4, accF, ρF, el, hQ⟩
          · rw [if_neg hl] at el; cases el
/-- the reading of a comprehension -/
theorem lc_ok {wi : TI} {g : TG} {tt : TT} {te : TE} {vs ix : List Nat} {fi : M (List D)} {ft : D → List S → Option (List S)} {fc : M Bool} {fe : M R} (hx : ∀ v ∈ vs, v ∉ fx) (hix : ∀ j ∈ ix, j ∈ vs)
    (hwi : ∀ E σ ρ Hm H R, RE G E σ ρ Hm H → Sat G E W σ Hm (fun xs _ Hm' _ J => Yields G Hm' J xs) R (fi ρ) → wi σ H R)
    (hg : ∀ E σ ρ Hm H x d Q, E.fx = fx → RE G E σ ρ Hm H → Rep G Hm d x → (match ft d ρ with | some ρ' => ∀ σ', RE G E σ' ρ' Hm H → σ'.length = σ.length → (∀ j, j ∉ ix → σ'[j]? = σ[j]?) → Q σ' H | none => False) → g x σ H Q)
    (ht : ∀ E σ ρ Hm H Q, RE G E σ ρ Hm H → Sat G E (fun _ _ _ _ => False) σ Hm (fun b _ _ _ c => c = b) Q (fc ρ) → tt σ H Q)
    (he : ∀ E σ ρ Hm H Q, RE G E σ ρ Hm H → Sat G E (fun _ _ _ _ => False) σ Hm (fun r ρ' Hm' H' v => ROk G E σ ρ' Hm' H' v r) Q (fe ρ) → te σ H Q) :
    ∀ E σ ρ Hm H Q, E.fx = fx → RE G E σ ρ Hm H → Sat G E W σ Hm (fun r ρ' Hm' H' v => ROk G E σ ρ' Hm' H' v r) Q (fLc fi vs ft fc fe ρ) → tLc wi g tt te vs σ H Q := by
  intro E σ ρ Hm H Q ef re h
  refine hwi E σ ρ Hm H _ re (h.bind fun xs ρ1 J Hm1 H1 _ re1 s1 yl h1 => fun Dd nD => ?_)
  have h1' : Sat G E W σ Hm1 (fun r ρ' Hm' H' v => ROk G E σ ρ' Hm' H' v r) Q (if noOwn ρ1 vs = true then (match lcL vs ft fc fe xs [] ρ1 with | .ok acc ρ' => .ok ⟨.lst acc, true⟩ (backS ρ1 ρ' vs) | _ => .bad) else .bad) := h1
  by_cases hn : noOwn ρ1 vs = true
  · rw [if_pos hn] at h1'
    have nDm : Hm1 Dd = none := Same.free re1.sub nD
    refine ⟨fun i m H2 => i + m = xs.length ∧ LcInv G E W σ vs ft fc fe ρ1 Hm1 Q Dd (xs.drop i) H2, ⟨xs.length, by omega, ?_⟩, ?_⟩
    · have rw1 := (re1.wipeAll vs (by rw [ef]; exact hx)).new (o := HO.lst []) nD
      cases el : lcL vs ft fc fe xs [] ρ1 with
      | ok accF ρF =>
        rw [el] at h1'
        refine ⟨ρ1, [], [], Hm1, rw1.1, Same.refl _, upd_same, nDm, Reps.nil, rw1.2.2.1, fun z => ?_, accF, ρF, by rw [List.drop_zero]; exact el, h1'⟩
        obtain ⟨i, s, e1, o1, e2⟩ := mem_own.mp z
        exact rw1.2.2.2 i s e1 o1 e2
      | exc c d ρF => rw [el] at h1'; exact h1'.elim
      | bad => rw [el] at h1'; exact h1'.elim
    · rintro i m H2 ⟨him, ρ2, acc, av, Hm2, re2, s2, hD, nD2, rp, zD, aD, accF, ρF, el, hQ⟩
      obtain ⟨y1, y2⟩ := yl i Hm2 H2 s2 re2.sub
      by_cases hlt : i < xs.length
      · have hd : xs[i]? = some xs[i] := List.getElem?_eq_getElem hlt
        obtain ⟨go, yy⟩ := y1 _ hd
        rw [List.drop_eq_getElem_cons hlt] at el
        refine .inr ⟨go, fun H' => LcInv G E W σ vs ft fc fe ρ1 Hm1 Q Dd (xs.drop (i + 1)) H', fun H' hh => ⟨m - 1, by omega, by omega, hh⟩, fun x H' y => ?_⟩
        rcases yy x H' y with ⟨e1, rpx⟩ | ⟨p, o, e1, np, e2, tp⟩
        · subst e1
          exact lc_turn hx hix hg ht he ef re2 s2 rpx hD nD2 rp zD aD el hQ
        · subst e1 e2
          obtain ⟨a1, a2, a3, a4⟩ := re2.new (o := o) np
          have pD : Dd ≠ p := fun z => by rw [z, np] at hD; cases hD
          exact lc_turn hx hix hg ht he ef (a1.share a2 upd_same a3 a4) (s2.trans (Same.upd a2)) ((tp.mono (Same.upd a2)).rep upd_same) (by rw [upd_ne pD]; exact hD) (by rw [upd_ne pD]; exact nD2) (rp.mono (Same.upd a2)) zD aD el hQ
      · rw [List.drop_of_length_le (by omega)] at el
        unfold lcL at el
        cases el
        refine .inl ⟨y2 (by omega), ?_⟩
        have rb := re1.back vs hn re2 s2
        refine hQ _ Hm2 H2 rb s2 ⟨Dd, _, rfl, nD2, hD, ⟨av, rfl, rp⟩, zD, fun k s hk os ek => ?_⟩
        have lp : (wipeS ρ2 vs).length = ρ1.length := by rw [re2.len, wipe_length, re1.len]
        obtain ⟨e1, e2⟩ := backS_own lp re1.len hk os
        exact aD (mem_own.mpr ⟨k, s, e1, os, by rw [e2]; exact ek⟩)
  · rw [if_neg hn] at h1'; exact h1'.elim
structure DTs (X : Cx) (G : GC) (W : WX) (ifs : List Expr) (f : M Bool) : Prop where
  ex : ∃ t, PTs X ifs t ∧ ∀ E σ ρ Hm H Q, RE G E σ ρ Hm H → Sat G E W σ Hm (fun b _ _ _ c => c = b) Q (f ρ) → t σ H Q
theorem dts_nil : DTs X G W [] (M.pure true) := ⟨_, pts_nil, fun E σ ρ Hm H Q re h => h true Hm H re (Same.refl _) rfl⟩
theorem dts_one {c : Expr} {f : M Bool} (h : DT X G W c f) : DTs X G W [c] f := let ⟨_, p, q⟩ := h.ex; ⟨_, pts_one p, q⟩
end
/-- no error leaves a comprehension -/
abbrev W0 : WX := fun _ _ _ _ => False
/-- the fixed slots left out of the entry -/
abbrev Ent.fx0 (E : Ent) : Ent := { E with fx := [] }
section
variable {X : Cx} {G : GC} {W : WX} {E : Ent} {σ : L2.St} {ρ ρ' : List S} {Hm H Hm' H' : Hp}
theorem RE.fx0 (re : RE G E σ ρ Hm H) : RE G E.fx0 σ ρ Hm H :=
  ⟨re.sub, re.len, re.sl, re.sep, (fun _ h => nomatch h), re.pres, re.mono, re.frsh⟩
theorem RE.fxE (re : RE G E σ ρ Hm H) (re1 : RE G E.fx0 σ ρ' Hm' H') : RE G E σ ρ' Hm' H' :=
  ⟨re1.sub, re1.len, re1.sl, re1.sep, re.fix, re1.pres, re1.mono, re1.frsh⟩
theorem Sat.fx0 {Q : V → Hp → Prop} (re : RE G E σ ρ Hm H) {x : Res R} (h : Sat G E W σ Hm (fun r ρ' Hm' H' v => ROk G E σ ρ' Hm' H' v r) Q x) : Sat G E.fx0 W σ Hm (fun r ρ' Hm' H' v => ROk G E.fx0 σ ρ' Hm' H' v r) Q x := by
  cases x with
  | ok r ρ1 => exact fun v Hm1 H1 re1 s1 r1 => h v Hm1 H1 (re.fxE re1) s1 r1
  | exc c d ρ1 => exact fun dx Hm1 H1 re1 s1 r1 => h dx Hm1 H1 (re.fxE re1) s1 r1
  | bad => exact h
/-- one reading for all blocks -/
theorem all_de {ι : Type} {Y : ι → Cx} {e : Expr} {f : M R} (h : ∀ i, DE (Y i) G W e f) : ∃ t, (∀ i, PE (Y i) e t) ∧ ∀ E σ ρ Hm H Q, RE G E σ ρ Hm H → Sat G E W σ Hm (fun r ρ' Hm' H' v => ROk G E σ ρ' Hm' H' v r) Q (f ρ) → t σ H Q :=
  ⟨fun σ H Q => ∀ i, (h i).ex.choose σ H Q, fun i => ⟨fun pins s σ H Q I q => (h i).ex.choose_spec.1.run pins s σ H Q I (q i)⟩, fun E σ ρ Hm H Q re q i => (h i).ex.choose_spec.2 E σ ρ Hm H Q re q⟩
theorem all_dts {ι : Type} {Y : ι → Cx} {es : List Expr} {f : M Bool} (h : ∀ i, DTs (Y i) G W es f) : ∃ t, (∀ i, PTs (Y i) es t) ∧ ∀ E σ ρ Hm H Q, RE G E σ ρ Hm H → Sat G E W σ Hm (fun b _ _ _ c => c = b) Q (f ρ) → t σ H Q :=
  ⟨fun σ H Q => ∀ i, (h i).ex.choose σ H Q, fun i => ⟨fun pins s σ H Q I q => (h i).ex.choose_spec.1.run pins s σ H Q I (q i)⟩, fun E σ ρ Hm H Q re q i => (h i).ex.choose_spec.2 E σ ρ Hm H Q re q⟩
theorem all_ge {ι : Type} {Y : ι → Cx} {fx : List Nat} {tg : Expr} {ix : List Nat} {f : D → List S → Option (List S)} (h : ∀ i, GE (Y i) G fx tg ix f) : ∃ g, (∀ i, PG (Y i) tg g) ∧ ∀ E σ ρ Hm H x d Q, E.fx = fx → RE G E σ ρ Hm H → Rep G Hm d x →
    (match f d ρ with | some ρ' => ∀ σ', RE G E σ' ρ' Hm H → σ'.length = σ.length → (∀ j, j ∉ ix → σ'[j]? = σ[j]?) → Q σ' H | none => False) → g x σ H Q :=
  ⟨fun x σ H Q => ∀ i, (h i).ex.choose x σ H Q, fun i => ⟨fun pins s σ H v u Q I r q => (h i).ex.choose_spec.1.run pins s σ H v u Q I r (q i)⟩, fun E σ ρ Hm H x d Q ef re rp q i => (h i).ex.choose_spec.2 E σ ρ Hm H x d Q ef re rp q⟩
/-- where a comprehension's block runs -/
structure BlkAt where
  s : Shared
  H : Hp
  C : Addr
  cl : List (Str × Addr)
  fp : List Addr
abbrev Cx.at_ (X : Cx) (scope : Scope) (b : BlkAt) : Cx := X.blk b.s b.H scope (compEnvC scope b.cl b.C X.env) b.fp
variable {tg iter elt : Expr} {ifs : List Expr} {scope : Scope} {own : List (Str × Nat)} {ix : List Nat} {fi : M (List D)} {ft : D → List S → Option (List S)} {fc : M Bool} {fe : M R} {pos : Pos}
theorem lc_all {wi : TI} (hwi : ∀ E σ ρ Hm H R, RE G E σ ρ Hm H → Sat G E W σ Hm (fun xs _ Hm' _ J => Yields G Hm' J xs) R (fi ρ) → wi σ H R) (hix : ∀ j ∈ ix, j ∈ own.map (·.2))
    (hg : ∀ b, GE (Cx.at_ X scope b) G [] tg ix ft) (ht : ∀ b, DTs (Cx.at_ X scope b) G W0 ifs fc) (he : ∀ b, DE (Cx.at_ X scope b) G W0 elt fe) :
    ∃ g tt te, (∀ (s : Shared) (H : Hp) (C : Addr) (cl : List (Str × Addr)) (fp : List Addr), PG (X.blk s H scope (compEnvC scope cl C X.env) fp) tg g) ∧
      (∀ (s : Shared) (H : Hp) (C : Addr) (cl : List (Str × Addr)) (fp : List Addr), PTs (X.blk s H scope (compEnvC scope cl C X.env) fp) ifs tt) ∧
      (∀ (s : Shared) (H : Hp) (C : Addr) (cl : List (Str × Addr)) (fp : List Addr), PE (X.blk s H scope (compEnvC scope cl C X.env) fp) elt te) ∧
      ∀ E σ ρ Hm H Q, RE G E σ ρ Hm H → Sat G E W σ Hm (fun r ρ' Hm' H' v => ROk G E σ ρ' Hm' H' v r) Q (fLc fi (own.map (·.2)) ft fc fe ρ) → tLc wi g tt te (own.map (·.2)) σ H Q := by
  obtain ⟨g, g1, g2⟩ := all_ge hg
  obtain ⟨tt, t1, t2⟩ := all_dts ht
  obtain ⟨te, e1, e2⟩ := all_de he
  exact ⟨g, tt, te, fun s H C cl fp => g1 ⟨s, H, C, cl, fp⟩, fun s H C cl fp => t1 ⟨s, H, C, cl, fp⟩, fun s H C cl fp => e1 ⟨s, H, C, cl, fp⟩,
    fun E σ ρ Hm H Q re h => lc_ok (W := W) (fx := []) (fun _ _ z => by cases z) hix hwi g2 t2 e2 E.fx0 σ ρ Hm H Q rfl re.fx0 (Sat.fx0 re h)⟩
theorem de_lc (hc : X.calm = true) (hN : X.N.Nodup) (hi : IE X G W tg iter fi) (ok : BlkOk X.N X.env.scope scope own) (hix : ∀ j ∈ ix, j ∈ own.map (·.2))
    (hg : ∀ b, GE (Cx.at_ X scope b) G [] tg ix ft) (ht : ∀ b, DTs (Cx.at_ X scope b) G W0 ifs fc) (he : ∀ b, DE (Cx.at_ X scope b) G W0 elt fe) (hs : ∀ x, foldedSetIterable iter X.env x = pure x := by intro _; rfl) :
    DE X G W (.ListComp elt [⟨tg, iter, ifs, 0⟩] scope pos) (fLc fi (own.map (·.2)) ft fc fe) := by
  obtain ⟨wi, pi, hwi⟩ := hi.ex
  obtain ⟨g, tt, te, g1, t1, e1, q⟩ := lc_all (W := W) (own := own) hwi hix hg ht he
  exact ⟨_, pe_lc hc hN pi ok g1 t1 e1 hs, q⟩
/-- y = [..] on one line, y a local -/
theorem ds_setLc {i : Nat} {y : Str} {py spos : Pos} {fx : List Nat} (hc : X.calm = true) (hN : X.N.Nodup) (hy : X.N[i]? = some y) (hyl : X.env.scope.names.lookup y = some .local) (hf : i ∉ fx)
    (hsw : swapsWith (.ListComp elt [⟨tg, iter, ifs, 0⟩] scope pos) (some (.Name y py)) spos.line X.env = pure true) (hi : IE X G W tg iter fi) (ok : BlkOk X.N X.env.scope scope own) (hix : ∀ j ∈ ix, j ∈ own.map (·.2))
    (hg : ∀ b, GE (Cx.at_ X scope b) G [] tg ix ft) (ht : ∀ b, DTs (Cx.at_ X scope b) G W0 ifs fc) (he : ∀ b, DE (Cx.at_ X scope b) G W0 elt fe) (hs : ∀ x, foldedSetIterable iter X.env x = pure x := by intro _; rfl) :
    DS X G W fx (.Assign [.Name y py] (.ListComp elt [⟨tg, iter, ifs, 0⟩] scope pos) spos) (sSet i (fLc fi (own.map (·.2)) ft fc fe)) := by
  obtain ⟨wi, pi, hwi⟩ := hi.ex
  obtain ⟨g, tt, te, g1, t1, e1, q⟩ := lc_all (W := W) (own := own) hwi hix hg ht he
  refine ⟨_, ps_setLc hc hN hy hyl hsw pi ok g1 t1 e1 hs, fun E σ ρ Hm H D ef re h => ?_⟩
  refine q E σ ρ Hm H _ re (h.bind fun r ρ1 v Hm1 H1 _ re1 s1 r1 h1 => ?_)
  have h1' : SatS G E W Hm1 D (if i < ρ1.length then Res.ok .next (setR i r ρ1) else .bad) := h1
  by_cases hl : i < ρ1.length
  · rw [if_pos hl] at h1'
    exact h1' _ Hm1 H1 (re1.storeR hl (by rw [ef]; exact hf) r1) (Same.refl _)
  · rw [if_neg hl] at h1'
    exact h1'.elim
end
end DL
set_option Elab.async false
set_option linter.all false
set_option maxRecDepth 100000
namespace DL
open PySem PySem.Spec PyProof.Rows L2
/-! ## what a def promises by its function on data -/
def spD (G : GC) (n : Nat) (fx : List Nat) (F : M R) : Sp := fun vs H Q XE => vs.length = n ∧ ∃ Hm IO ss, RE G ⟨H, Hm, IO, vs.map some, fx⟩ (vs.map some) ss Hm H ∧
  Sat G ⟨H, Hm, IO, vs.map some, fx⟩ (fun c d _ H' => XE c d H') (vs.map some) Hm (fun r ρ' Hm' H' v => ROk G ⟨H, Hm, IO, vs.map some, fx⟩ (vs.map some) ρ' Hm' H' v r) Q (F ss)
/-- what the parameters hold at the end: those that are handed back -/
def outs (fx : List Nat) (n : Nat) (ρ : List S) : List S := (List.range n).map fun i => if fx.contains i = true then ρ.getD i .un else .un
/-- a body as a function: N names, n parameters -/
def bodyF (fx : List Nat) (n N : Nat) (fb : M Fl) : M R := fun ss => match fb (ss ++ List.replicate (N - n) .un) with
  | .ok .next ρ => .ok ⟨.non, false⟩ (outs fx n ρ)
  | .ok (.ret r) ρ => .ok r (outs fx n ρ)
  | .ok _ _ => .bad
  | .exc c d ρ => .exc c d (outs fx n ρ)
  | .bad => .bad
section
variable {G : GC} {E : Ent} {σ : L2.St} {ρ : List S} {Hm H : Hp}
theorem outs_at {fx : List Nat} {n i : Nat} {s : S} (h : (outs fx n ρ)[i]? = some s) : i < n ∧ ((fx.contains i = true ∧ ρ.getD i .un = s) ∨ s = .un) := by
  unfold outs at h
  rw [List.getElem?_map] at h
  by_cases hi : i < n
  · rw [List.getElem?_range hi] at h
    have e : (if fx.contains i = true then ρ.getD i .un else .un) = s := Option.some.inj h
    refine ⟨hi, ?_⟩
    by_cases c : fx.contains i = true
    · rw [if_pos c] at e; exact .inl ⟨c, e⟩
    · rw [if_neg c] at e; exact .inr e.symm
  · rw [List.getElem?_eq_none (by rw [List.length_range]; omega)] at h
    cases h
theorem getD_some {i : Nat} {s : S} (h : ρ.getD i .un = s) (n : s ≠ .un) : ρ[i]? = some s := by
  rw [List.getD_eq_getElem?_getD] at h
  cases q : ρ[i]? with
  | none => rw [q] at h; exact absurd h.symm n
  | some x => rw [q] at h; exact congrArg some h
/-- at a body's end, as the caller sees it -/
theorem RE.leave {vs : List V} {H0 : Hp} {M0 : Hp} {IO : List Addr} {s0 : L2.St} {fx : List Nat} (hs0 : ∀ i, i < vs.length → s0[i]? = (vs.map some)[i]?) (re : RE G ⟨H0, M0, IO, s0, fx⟩ σ ρ Hm H) :
    RE G ⟨H0, M0, IO, vs.map some, fx⟩ (vs.map some) (outs fx vs.length ρ) Hm H := by
  have same : ∀ (i : Nat), i < vs.length → fx.contains i = true → σ[i]? = (vs.map some)[i]? := fun i hi c => by
    have hm : i ∈ fx := by simpa using c
    exact (re.fix i hm).trans (hs0 i hi)
  refine ⟨re.sub, by unfold outs; rw [List.length_map, List.length_range, List.length_map], fun i s hi => ?_, fun i j s t p n hi hj os ot ei ej => ?_, fun _ _ => rfl, re.pres, re.mono, re.frsh⟩
  · obtain ⟨l, h⟩ := outs_at hi
    rcases h with ⟨c, e⟩ | e
    · cases s with
      | un => trivial
      | val d =>
        have := re.sl i _ (getD_some e (by intro z; cases z))
        rw [same i l c] at this
        exact this
      | own d =>
        have := re.sl i _ (getD_some e (by intro z; cases z))
        rw [same i l c] at this
        exact this
    · subst e; trivial
  · obtain ⟨li, h1⟩ := outs_at hi
    obtain ⟨lj, h2⟩ := outs_at hj
    rcases h1 with ⟨c1, e1⟩ | e1
    · rcases h2 with ⟨c2, e2⟩ | e2
      · rw [← same i li c1] at ei
        rw [← same j lj c2] at ej
        exact re.sep i j s t p n (getD_some e1 (by intro z; subst z; cases os)) (getD_some e2 (by intro z; subst z; cases ot)) os ot ei ej
      · subst e2; cases ot
    · subst e1; cases os
theorem ROk.leave {vs : List V} {H0 : Hp} {M0 : Hp} {IO : List Addr} {s0 : L2.St} {fx : List Nat} {v : V} {r : R} (hs0 : ∀ i, i < vs.length → s0[i]? = (vs.map some)[i]?) (re : RE G ⟨H0, M0, IO, s0, fx⟩ σ ρ Hm H) (h : ROk G ⟨H0, M0, IO, s0, fx⟩ σ ρ Hm H v r) :
    ROk G ⟨H0, M0, IO, vs.map some, fx⟩ (vs.map some) (outs fx vs.length ρ) Hm H v r := by
  obtain ⟨d, f⟩ := r
  cases f with
  | false => exact h
  | true =>
    obtain ⟨p, o, e, n, t, tp, z, w⟩ := h
    refine ⟨p, o, e, n, t, tp, z, fun i s hi os => ?_⟩
    obtain ⟨l, h⟩ := outs_at hi
    rcases h with ⟨c, e1⟩ | e1
    · have hm : i ∈ fx := by simpa using c
      rw [← hs0 i l, ← re.fix i hm]
      exact w i s (getD_some e1 (by intro z; subst z; cases os)) os
    · subst e1; cases os
/-- at a body's begin -/
theorem RE.enter {vs : List V} {N : List Str} {ss : List S} {H0 : Hp} {M0 : Hp} {IO : List Addr} {fx : List Nat} (re : RE G ⟨H0, M0, IO, vs.map some, fx⟩ (vs.map some) ss Hm H) (hf : ∀ i ∈ fx, i < vs.length) (hl : vs.length ≤ N.length) :
    RE G ⟨H0, M0, IO, L2.start N vs, fx⟩ (L2.start N vs) (ss ++ List.replicate (N.length - vs.length) .un) Hm H := by
  have ls : ss.length = vs.length := by have := re.len; rw [List.length_map] at this; exact this
  have st : ∀ i, i < vs.length → (L2.start N vs)[i]? = (vs.map some)[i]? := fun i hi => by
    unfold L2.start
    rw [List.getElem?_append_left (by rw [List.length_map]; exact hi)]
  have at_ : ∀ (i : Nat) (s : S), (ss ++ List.replicate (N.length - vs.length) S.un)[i]? = some s → (i < vs.length ∧ ss[i]? = some s) ∨ s = .un := fun i s h => by
    by_cases hi : i < ss.length
    · rw [List.getElem?_append_left hi] at h
      exact .inl ⟨by omega, h⟩
    · rw [List.getElem?_append_right (by omega)] at h
      rw [List.getElem?_replicate] at h
      split at h
      · cases h; exact .inr rfl
      · cases h
  refine ⟨re.sub, by unfold L2.start; rw [List.length_append, List.length_append, List.length_map, List.length_replicate, List.length_replicate, ls], fun i s hi => ?_, fun i j s t p n hi hj os ot ei ej => ?_, fun i hi => rfl, re.pres, re.mono, re.frsh⟩
  · rcases at_ i s hi with ⟨l, e⟩ | e
    · rw [st i l]
      have h := re.sl i s e
      cases s with
      | un => trivial
      | val d => exact h
      | own d => exact h
    · subst e; trivial
  · rcases at_ i s hi with ⟨l1, e1⟩ | e1
    · rcases at_ j t hj with ⟨l2, e2⟩ | e2
      · rw [st i l1] at ei
        rw [st j l2] at ej
        exact re.sep i j s t p n e1 e2 os ot ei ej
      · subst e2; cases ot
    · subst e1; cases os
end
/-! ## a def keeps the promise of its body -/
section
variable {P : Program} {w : World} {K : PySem.W.Frag} {mg : Str → Option Value} {base : Heap} {G : GC}
theorem fn_D {x qual : Str} {params : Arguments} {body : List Stmt} {scope : Scope} {dV kV doc pm cdv ct oc : Value} {an od : Option Addr} {osl : Array (Option Value)} {f : Addr} {N ps : List Str} {k : Nat} {fx : List Nat} {fb : M Fl}
    (lk : K.lookup f = some ⟨oc, od, .func (PySem.W.fnOf x qual params body scope dV kV doc pm an cdv ct), osl⟩) (hcd : PySem.W.codeIn K cdv qual = true) (S : FnScope N ps scope) (hf : ∀ i ∈ fx, i < ps.length)
    (hb : ∀ (A : Around) (outer : List Env) (s : Shared) (H : Hp) (E : XK), Room k (A.deeper (envOfC qual scope s.heap.objs.size f cdv)) → DSs (cxOf (L2.CX P w) P w K mg base N qual scope f cdv A outer s H E) G (fun c d _ H => E c d H) fx body fb) :
    FnOk P w K mg base (L2.CX P w) (k + 1) f (PySem.W.fnOf x qual params body scope dV kV doc pm an cdv ct) ps (spD G ps.length fx (bodyF fx ps.length N.length fb)) := by
  refine fn_of lk hcd S (fun vs H Q E h => h.1) fun A outer s H vs Q E hr hsp => ?_
  obtain ⟨hl, Hm, IO, ss, re, hs⟩ := hsp
  obtain ⟨t, pt, ht⟩ := (hb A outer s H E hr).ex
  refine ⟨t, pt, ?_⟩
  have hpl : vs.length ≤ N.length := by
    have := congrArg List.length S.pre
    rw [List.length_take] at this
    omega
  have hs0 : ∀ i, i < vs.length → (L2.start N vs)[i]? = (vs.map some)[i]? := fun i hi => by
    unfold L2.start
    rw [List.getElem?_append_left (by rw [List.length_map]; exact hi)]
  have re1 := re.enter (N := N) (by rw [hl]; exact hf) hpl
  refine ht ⟨H, Hm, IO, L2.start N vs, fx⟩ (L2.start N vs) _ Hm H _ rfl re1 ?_
  unfold bodyF at hs
  rw [hl]
  cases e : fb (ss ++ List.replicate (N.length - ps.length) .un) with
  | bad => rw [e] at hs; exact hs
  | exc c d ρ =>
    rw [e] at hs
    refine fun σ' dx Hm' H' re' s' xo => hs dx Hm' H' ?_ s' xo
    have := re'.leave hs0
    rw [hl] at this
    exact this
  | ok a ρ =>
    rw [e] at hs
    cases a with
    | next =>
      refine fun σ' Hm' H' re' s' => hs .non Hm' H' ?_ s' ?_
      · have := re'.leave hs0
        rw [hl] at this
        exact this
      · show Rep G Hm' .non .non
        unfold Rep; rfl
    | brk => exact hs.elim
    | cont => exact hs.elim
    | ret r =>
      refine fun σ' v Hm' H' re' s' ro => hs v Hm' H' ?_ s' ?_
      · have := re'.leave hs0
        rw [hl] at this
        exact this
      · have := ro.leave hs0 re'
        rw [hl] at this
        exact this
end
/-! ## a call -/
/-- the argument's state in the callee -/
def argS (ρ : List S) : O → Option S
  | .v d => some (.val d)
  | .r i => match ρ[i]? with
    | some (.own d) => some (.own d)
    | some (.val d) => some (.val d)
    | _ => none
def argSs (ρ : List S) : List O → Option (List S)
  | [] => some []
  | o :: os => match argS ρ o, argSs ρ os with
    | some s, some ss => some (s :: ss)
    | _, _ => none
/-- the names that are lent -/
def lent : List O → List Nat
  | [] => []
  | .v _ :: os => lent os
  | .r i :: os => i :: lent os
/-- behind the call: the names' states as they come back -/
def backO (ρ : List S) : List O → List S → List S
  | .v _ :: os, _ :: ss => backO ρ os ss
  | .r i :: os, s :: ss => (backO ρ os ss).set i (match ρ[i]? with | some (.own _) => s | some x => x | none => .un)
  | _, _ => ρ
def nodupB (l : List Nat) : Bool := decide l.Nodup
/-- only the parameters that are handed back are lent -/
def lentOk (fx : List Nat) : Nat → List O → Bool
  | _, [] => true
  | k, .v _ :: os => lentOk fx (k + 1) os
  | k, .r _ :: os => fx.contains k && lentOk fx (k + 1) os
def callM (fx : List Nat) (F : M R) (os : List O) : M R := fun ρ => match argSs ρ os with
  | some ss => if nodupB (lent os) = true ∧ lentOk fx 0 os = true then (match F ss with
      | .ok r ss' => .ok r (backO ρ os ss')
      | .exc c d ss' => .exc c d (backO ρ os ss')
      | .bad => .bad) else .bad
  | none => .bad
section
variable {G : GC} {E : Ent} {W : WX} {σ : L2.St} {ρ : List S} {Hm H Hm' H' : Hp}
theorem mem_lent {i : Nat} : ∀ {os : List O}, i ∈ lent os ↔ ∃ k : Nat, os[k]? = some (O.r i)
  | [] => by
    constructor
    · intro h; cases h
    · rintro ⟨k, h⟩; cases h
  | .v d :: os => by
    unfold lent
    rw [mem_lent (os := os)]
    constructor
    · rintro ⟨k, h⟩; exact ⟨k + 1, h⟩
    · rintro ⟨k, h⟩
      cases k with
      | zero => cases h
      | succ k => exact ⟨k, h⟩
  | .r j :: os => by
    unfold lent
    rw [List.mem_cons, mem_lent (os := os)]
    constructor
    · rintro (h | ⟨k, h⟩)
      · exact ⟨0, by rw [h]; rfl⟩
      · exact ⟨k + 1, h⟩
    · rintro ⟨k, h⟩
      cases k with
      | zero => cases h; exact .inl rfl
      | succ k => exact .inr ⟨k, h⟩
theorem lent_inj : ∀ {os : List O} {i k l : Nat}, (lent os).Nodup → os[k]? = some (O.r i) → os[l]? = some (O.r i) → k = l
  | [], _, _, _, _, h, _ => by cases h
  | .v d :: os, i, k, l, nd, h1, h2 => by
    cases k with
    | zero => cases h1
    | succ k =>
      cases l with
      | zero => cases h2
      | succ l => rw [lent_inj (os := os) nd h1 h2]
  | .r j :: os, i, k, l, nd, h1, h2 => by
    have nd' : j ∉ lent os ∧ (lent os).Nodup := List.nodup_cons.mp nd
    cases k with
    | zero =>
      cases h1
      cases l with
      | zero => rfl
      | succ l => exact absurd (mem_lent.mpr ⟨l, h2⟩) nd'.1
    | succ k =>
      cases l with
      | zero => cases h2; exact absurd (mem_lent.mpr ⟨k, h1⟩) nd'.1
      | succ l => rw [lent_inj (os := os) nd'.2 h1 h2]
theorem argSs_at : ∀ {os : List O} {ss : List S}, argSs ρ os = some ss → ss.length = os.length ∧ ∀ (k : Nat) (s : S), ss[k]? = some s → ∃ o, os[k]? = some o ∧ argS ρ o = some s
  | [], ss, h => by cases h; exact ⟨rfl, fun k s e => by cases e⟩
  | o :: os, ss, h => by
    unfold argSs at h
    cases e1 : argS ρ o with
    | none => rw [e1] at h; cases h
    | some s0 =>
      cases e2 : argSs ρ os with
      | none => rw [e1, e2] at h; cases h
      | some ss0 =>
        rw [e1, e2] at h
        cases h
        obtain ⟨l, q⟩ := argSs_at e2
        refine ⟨by rw [List.length_cons, List.length_cons, l], fun k s e => ?_⟩
        cases k with
        | zero => cases e; exact ⟨o, rfl, e1⟩
        | succ k => exact q k s e
theorem backO_at : ∀ {os : List O} {ss : List S}, (lent os).Nodup → ∀ (j : Nat) (t : S), (backO ρ os ss)[j]? = some t → (ρ[j]? = some t ∧ (j ∉ lent os ∨ isOwn t = false)) ∨ (∃ k : Nat, os[k]? = some (O.r j) ∧ ss[k]? = some t ∧ ∃ d, ρ[j]? = some (.own d)) ∨ os.length ≠ ss.length
  | [], [], _, j, t, h => .inl ⟨h, .inl (fun z => nomatch z)⟩
  | [], _ :: _, _, j, t, h => .inr (.inr (by simp))
  | _ :: _, [], _, j, t, h => .inr (.inr (by simp))
  | .v d :: os, s :: ss, nd, j, t, h => by
    rcases backO_at (os := os) (ss := ss) nd j t h with q | ⟨k, q1, q2, q3⟩ | q
    · exact .inl q
    · exact .inr (.inl ⟨k + 1, q1, q2, q3⟩)
    · exact .inr (.inr (by simpa using q))
  | .r i :: os, s :: ss, nd, j, t, h => by
    have nd' : i ∉ lent os ∧ (lent os).Nodup := List.nodup_cons.mp nd
    unfold backO at h
    by_cases hj : i = j
    · subst hj
      by_cases hl : i < (backO ρ os ss).length
      · rw [List.getElem?_set_self hl] at h
        cases q : ρ[i]? with
        | none =>
          rw [q] at h
          rcases backO_at (os := os) (ss := ss) nd'.2 i _ (List.getElem?_eq_getElem hl) with z | ⟨k, q1, q2, d, q3⟩ | z
          · rw [q] at z; cases z.1
          · rw [q] at q3; cases q3
          · exact .inr (.inr (by simpa using z))
        | some x =>
          rw [q] at h
          cases x with
          | own d => cases h; exact .inr (.inl ⟨0, rfl, rfl, d, rfl⟩)
          | un => cases h; exact .inl ⟨rfl, .inr rfl⟩
          | val d => cases h; exact .inl ⟨rfl, .inr rfl⟩
      · rw [List.getElem?_eq_none (by rw [List.length_set]; omega)] at h; cases h
    · rw [List.getElem?_set_ne hj] at h
      rcases backO_at (os := os) (ss := ss) nd'.2 j t h with ⟨q1, q2⟩ | ⟨k, q1, q2, q3⟩ | q
      · refine .inl ⟨q1, q2.imp (fun n z => ?_) id⟩
        rcases List.mem_cons.mp (show j ∈ i :: lent os from z) with e | e
        · exact hj e.symm
        · exact n e
      · exact .inr (.inl ⟨k + 1, q1, q2, q3⟩)
      · exact .inr (.inr (by simpa using q))
theorem backO_length : ∀ {os : List O} {ss : List S}, (backO ρ os ss).length = ρ.length
  | [], [] => rfl
  | [], _ :: _ => rfl
  | .v _ :: _, [] => rfl
  | .r _ :: _, [] => rfl
  | .v d :: os, s :: ss => by unfold backO; exact backO_length
  | .r i :: os, s :: ss => by unfold backO; rw [List.length_set]; exact backO_length
/-- the addresses that are lent -/
def lentA (σ : L2.St) (ρ : List S) (os : List O) : List Addr := (lent os).filterMap fun i => match ρ[i]?, σ[i]? with
  | some (S.own _), some (some (V.ref p)) => some p
  | _, _ => none
theorem mem_lentA {p : Addr} {os : List O} : p ∈ lentA σ ρ os ↔ ∃ (i : Nat) (d : D), i ∈ lent os ∧ ρ[i]? = some (.own d) ∧ σ[i]? = some (some (V.ref p)) := by
  unfold lentA
  rw [List.mem_filterMap]
  constructor
  · rintro ⟨i, hi, e⟩
    cases e1 : ρ[i]? with
    | none => rw [e1] at e; cases e
    | some s =>
      rw [e1] at e
      cases s with
      | own d =>
        cases e2 : σ[i]? with
        | none => rw [e2] at e; cases e
        | some x =>
          rw [e2] at e
          cases x with
          | none => cases e
          | some v =>
            cases v with
            | ref q => cases e; exact ⟨i, d, hi, e1, e2⟩
            | _ => cases e
      | un => cases e
      | val d => cases e
  · rintro ⟨i, d, hi, e1, e2⟩
    exact ⟨i, hi, by rw [e1, e2]⟩
theorem OOks.at : ∀ {vs : List V} {os : List O} {k : Nat} {o : O}, OOks G σ Hm vs os → os[k]? = some o → ∃ v, vs[k]? = some v ∧ OOk G σ Hm v o
  | _, _, k, o, .nil, e => by cases e
  | _, _, 0, o, .cons h _, e => by cases e; exact ⟨_, rfl, h⟩
  | _, _, k + 1, o, .cons _ t, e => OOks.at (k := k) t e
/-- into the callee -/
theorem RE.into {vs : List V} {os : List O} {ss : List S} {fx : List Nat} (re : RE G E σ ρ Hm H) (h : OOks G σ Hm vs os) (ha : argSs ρ os = some ss) (nd : (lent os).Nodup) :
    RE G ⟨H, Hm, lentA σ ρ os, vs.map some, fx⟩ (vs.map some) ss Hm H := by
  obtain ⟨l, at_⟩ := argSs_at ha
  have lv : vs.length = os.length := Paired.length h
  have vAt : ∀ (k : Nat) (v : V), vs[k]? = some v → (vs.map some)[k]? = some (some v) := fun k v e => by rw [List.getElem?_map, e]; rfl
  -- an object of its own is a lent name's
  have ownAt : ∀ (k : Nat) (s : S), ss[k]? = some s → isOwn s = true → ∃ i d, os[k]? = some (O.r i) ∧ ρ[i]? = some (.own d) ∧ s = .own d ∧ (vs.map some)[k]? = σ[i]? := fun k s e o => by
    obtain ⟨ob, h1, h2⟩ := at_ k s e
    cases ob with
    | v d => cases h2; cases o
    | r i =>
      obtain ⟨v, h3, h4⟩ := h.at h1
      have h4' : σ[i]? = some (some v) := h4
      unfold argS at h2
      simp only at h2
      cases q : ρ[i]? with
      | none => rw [q] at h2; cases h2
      | some x =>
        rw [q] at h2
        cases x with
        | un => cases h2
        | val d => cases h2; cases o
        | own d => cases h2; exact ⟨i, d, h1, q, rfl, by rw [vAt k v h3, h4']⟩
  refine ⟨re.sub, by rw [List.length_map, l, lv], fun k s e => ?_, fun k m s t p n hk hm os' ot ek em => ?_, fun _ _ => rfl, fun _ _ e _ => e, Same.refl _, fun _ _ e => .inl e⟩
  · obtain ⟨ob, h1, h2⟩ := at_ k s e
    cases ob with
    | v d =>
      cases h2
      obtain ⟨v, h3, h4⟩ := h.at h1
      exact ⟨v, vAt k v h3, h4⟩
    | r i =>
      obtain ⟨v, h3, h4⟩ := h.at h1
      have h4' : σ[i]? = some (some v) := h4
      unfold argS at h2
      simp only at h2
      cases q : ρ[i]? with
      | none => rw [q] at h2; cases h2
      | some x =>
        rw [q] at h2
        have so := re.sl i x q
        cases x with
        | un => cases h2
        | val d =>
          cases h2
          obtain ⟨w, e2, r⟩ := so
          rw [h4'] at e2; cases e2
          exact ⟨v, vAt k v h3, r⟩
        | own d =>
          cases h2
          obtain ⟨p, o, e2, n, t, tp, z⟩ := so
          rw [h4'] at e2; cases e2
          exact ⟨p, o, vAt k _ h3, n, t, tp, .inr (mem_lentA.mpr ⟨i, d, mem_lent.mpr ⟨k, h1⟩, q, h4'⟩)⟩
  · obtain ⟨i, d, a1, a2, a3, a4⟩ := ownAt k s hk os'
    obtain ⟨j, d', b1, b2, b3, b4⟩ := ownAt m t hm ot
    rw [a4] at ek
    rw [b4] at em
    by_cases hij : i = j
    · subst hij; exact n (lent_inj nd a1 b1)
    · exact re.sep i j _ _ p hij a2 b2 rfl rfl ek em
theorem RE.lentE {os : List O} (re : RE G E σ ρ Hm H) {p : Addr} (h : p ∈ lentA σ ρ os) : E.H0 p = none ∨ p ∈ E.IO := by
  obtain ⟨i, d, _, e1, e2⟩ := mem_lentA.mp h
  exact re.ownE (mem_own.mpr ⟨i, _, e1, rfl, e2⟩)
/-- behind the call -/
theorem RE.outOf {vs : List V} {os : List O} {ss' : List S} {fx : List Nat} (re : RE G E σ ρ Hm H) (h : OOks G σ Hm vs os) (nd : (lent os).Nodup)
    (re1 : RE G ⟨H, Hm, lentA σ ρ os, vs.map some, fx⟩ (vs.map some) ss' Hm' H') : RE G E σ (backO ρ os ss') Hm' H' := by
  have lv : vs.length = os.length := Paired.length h
  have l1 : os.length = ss'.length := by have := re1.len; rw [List.length_map] at this; omega
  have at_ : ∀ (j : Nat) (t : S), (backO ρ os ss')[j]? = some t → (ρ[j]? = some t ∧ (j ∉ lent os ∨ isOwn t = false)) ∨ ∃ k, os[k]? = some (O.r j) ∧ ss'[k]? = some t ∧ ∃ d, ρ[j]? = some (.own d) := fun j t e => by
    rcases backO_at nd j t e with q | q | q
    · exact .inl q
    · exact .inr q
    · exact absurd l1 q
  have wasOwn : ∀ (j : Nat) (t : S), (backO ρ os ss')[j]? = some t → isOwn t = true → ∃ d, ρ[j]? = some (.own d) := fun j t e o => by
    rcases at_ j t e with ⟨q, _⟩ | ⟨_, _, _, d, q⟩
    · cases t with
      | own d => exact ⟨d, q⟩
      | un => cases o
      | val d => cases o
    · exact ⟨d, q⟩
  have sAt : ∀ (k j : Nat), os[k]? = some (O.r j) → (vs.map some)[k]? = σ[j]? := fun k j e => by
    obtain ⟨v, h3, h4⟩ := h.at e
    have h4' : σ[j]? = some (some v) := h4
    rw [List.getElem?_map, h3, h4']; rfl
  refine ⟨re1.sub, by rw [backO_length]; exact re.len, fun j t e => ?_, fun i j s t p n hi hj os' ot ei ej => ?_, re.fix, fun a o e n => ?_, re.mono.trans re1.mono, fun a o e => ?_⟩
  · rcases at_ j t e with ⟨q, c⟩ | ⟨k, q1, q2, d, q3⟩
    · have so := re.sl j t q
      cases t with
      | un => trivial
      | val d => obtain ⟨v, e1, r⟩ := so; exact ⟨v, e1, r.mono re1.mono⟩
      | own d =>
        obtain ⟨p, o, e1, n1, t1, tp, z⟩ := so
        have hj : j ∉ lent os := c.resolve_right (by intro z; cases z)
        have np : p ∉ lentA σ ρ os := fun hp => by
          obtain ⟨i, d', hi, e2, e3⟩ := mem_lentA.mp hp
          exact re.sep i j _ _ p (fun z => hj (z ▸ hi)) e2 q rfl rfl e3 e1
        refine ⟨p, o, e1, ?_, re1.pres p o t1 np, tp.mono re1.mono, z⟩
        cases qm : Hm' p with
        | none => rfl
        | some x =>
          rcases re1.frsh p x qm with w | w | w
          · rw [show Hm p = some x from w] at n1; cases n1
          · rw [show H p = none from w] at t1; cases t1
          · exact absurd w np
    · have so := re1.sl k t q2
      rw [sAt k j q1] at so
      cases t with
      | un => trivial
      | val d' => exact so
      | own d' =>
        obtain ⟨p, o, e1, n1, t1, tp, z⟩ := so
        exact ⟨p, o, e1, n1, t1, tp, re.ownE (mem_own.mpr ⟨j, _, q3, rfl, e1⟩)⟩
  · obtain ⟨d1, q1⟩ := wasOwn i s hi os'
    obtain ⟨d2, q2⟩ := wasOwn j t hj ot
    exact re.sep i j _ _ p n q1 q2 rfl rfl ei ej
  · refine re1.pres a o (re.pres a o e n) fun z => ?_
    rcases re.lentE z with q | q
    · rw [q] at e; cases e
    · exact n q
  · rcases re1.frsh a o e with q | q | q
    · exact re.frsh a o q
    · right
      by_cases hi : a ∈ E.IO
      · exact .inr hi
      · refine .inl ?_
        cases q2 : E.H0 a with
        | none => rfl
        | some x =>
          have := re.pres a x q2 hi
          rw [show H a = none from q] at this; cases this
    · exact .inr (re.lentE q)
theorem ROk.outOf {vs : List V} {os : List O} {ss' : List S} {fx : List Nat} {v : V} {r : R} (re : RE G E σ ρ Hm H) (h : OOks G σ Hm vs os) (nd : (lent os).Nodup)
    (re1 : RE G ⟨H, Hm, lentA σ ρ os, vs.map some, fx⟩ (vs.map some) ss' Hm' H') (ro : ROk G ⟨H, Hm, lentA σ ρ os, vs.map some, fx⟩ (vs.map some) ss' Hm' H' v r) : ROk G E σ (backO ρ os ss') Hm' H' v r := by
  obtain ⟨d, f⟩ := r
  cases f with
  | false => exact ro
  | true =>
    have lv : vs.length = os.length := Paired.length h
    have l1 : os.length = ss'.length := by have := re1.len; rw [List.length_map] at this; omega
    obtain ⟨p, o, e, n, t, tp, z, w⟩ := ro
    refine ⟨p, o, e, n, t, tp, ?_, fun j s hj os' ej => ?_⟩
    · rcases z with q | q
      · by_cases hi : p ∈ E.IO
        · exact .inr hi
        · refine .inl ?_
          cases q2 : E.H0 p with
          | none => rfl
          | some x =>
            have := re.pres p x q2 hi
            rw [show H p = none from q] at this; cases this
      · exact re.lentE q
    · rcases backO_at nd j s hj with ⟨q, c⟩ | ⟨k, q1, q2, d', q3⟩ | q
      · have hjl : j ∉ lent os := c.resolve_right (by rw [os']; intro z; cases z)
        cases s with
        | own d' =>
          obtain ⟨p2, o2, e2, n2, t2, _, _⟩ := re.sl j _ q
          rw [ej] at e2; cases e2
          rcases z with q4 | q4
          · rw [show H p = none from q4] at t2; cases t2
          · obtain ⟨i, d2, hi, e3, e4⟩ := mem_lentA.mp q4
            exact re.sep i j _ _ p (fun z => hjl (z ▸ hi)) e3 q rfl rfl e4 ej
        | un => cases os'
        | val d' => cases os'
      · obtain ⟨v', h3, h4⟩ := h.at q1
        have h4' : σ[j]? = some (some v') := h4
        exact w k s q2 os' (by rw [List.getElem?_map, h3, ← ej, h4']; rfl)
      · exact q l1
/-- THE CALL -/
theorem call_ok {vs : List V} {os : List O} {fx : List Nat} {F : M R} {n : Nat} {Q : V → Hp → Prop} (re : RE G E σ ρ Hm H) (h : OOks G σ Hm vs os) (hn : vs.length = n)
    (hs : Sat G E W σ Hm (fun r ρ' Hm' H' v => ROk G E σ ρ' Hm' H' v r) Q (callM fx F os ρ)) : spD G n fx F vs H Q (WE W σ) := by
  unfold callM at hs
  cases ea : argSs ρ os with
  | none => rw [ea] at hs; exact hs.elim
  | some ss =>
    rw [ea] at hs
    simp only at hs
    by_cases c : nodupB (lent os) = true ∧ lentOk fx 0 os = true
    · rw [if_pos c] at hs
      have nd : (lent os).Nodup := of_decide_eq_true c.1
      refine ⟨hn, Hm, lentA σ ρ os, ss, re.into h ea nd, ?_⟩
      cases e : F ss with
      | bad => rw [e] at hs; exact hs
      | exc cc d ss' =>
        rw [e] at hs
        exact fun dx Hm1 H1 re1 s1 xo => hs dx Hm1 H1 (re.outOf h nd re1) s1 xo
      | ok r ss' =>
        rw [e] at hs
        exact fun v Hm1 H1 re1 s1 ro => hs v Hm1 H1 (re.outOf h nd re1) s1 (ro.outOf re h nd re1)
    · rw [if_neg c] at hs; exact hs.elim
end
end DL
set_option Elab.async false
set_option linter.all false
set_option maxRecDepth 100000
namespace DL
open PySem PySem.Spec PyProof.Rows L2
/-! ## calls of defs -/
def fCall (fx : List Nat) (F : M R) (n : Nat) (fa : M (List O)) : M R := M.bind fa fun os => gd (decide (os.length = n)) (callM fx F os)
/-- where a parameter's value comes from: 0 positional, 1 default, 2 keyword -/
def arr {α : Type} (spec : List (Nat × Nat)) (us its ws : List α) : List α := spec.filterMap fun q => match q.1 with
  | 0 => us[q.2]?
  | 1 => its[q.2]?
  | _ => ws[q.2]?
def arrOk (spec : List (Nat × Nat)) (n m k : Nat) : Bool := spec.all fun q => match q.1 with
  | 0 => decide (q.2 < n)
  | 1 => decide (q.2 < m)
  | _ => decide (q.2 < k)
def fCallK (fx : List Nat) (F : M R) (n m : Nat) (spec : List (Nat × Nat)) (dd : List D) (fa fk : M (List O)) : M R :=
  M.bind fa fun os => M.bind fk fun zs => gd (decide (os.length = n) && decide (zs.length = m)) (callM fx F (arr spec os (dd.map O.v) zs))
theorem arr_length {α : Type} {us its ws : List α} : ∀ {spec : List (Nat × Nat)}, arrOk spec us.length its.length ws.length = true → (arr spec us its ws).length = spec.length
  | [], _ => rfl
  | q :: spec, h => by
    have h' : (match q.1 with | 0 => decide (q.2 < us.length) | 1 => decide (q.2 < its.length) | _ => decide (q.2 < ws.length)) = true ∧ arrOk spec us.length its.length ws.length = true := by
      unfold arrOk at h
      rw [List.all_cons] at h
      exact (Bool.and_eq_true_iff).mp h
    obtain ⟨h1, h2⟩ := h'
    have ih := arr_length (α := α) (us := us) (its := its) (ws := ws) h2
    unfold arr at ih ⊢
    obtain ⟨a, b⟩ := q
    rw [List.filterMap_cons]
    match a, h1 with
    | 0, h1 =>
      have := of_decide_eq_true h1
      simp only [List.getElem?_eq_getElem this, List.length_cons, ih]
    | 1, h1 =>
      have := of_decide_eq_true h1
      simp only [List.getElem?_eq_getElem this, List.length_cons, ih]
    | n + 2, h1 =>
      have := of_decide_eq_true h1
      simp only [List.getElem?_eq_getElem this, List.length_cons, ih]
theorem Paired.atQ {α β : Type} {R : α → β → Prop} : ∀ {xs : List α} {ys : List β} (i : Nat), Paired R xs ys → (xs[i]? = none ∧ ys[i]? = none) ∨ ∃ x y, xs[i]? = some x ∧ ys[i]? = some y ∧ R x y
  | _, _, i, .nil => .inl ⟨rfl, rfl⟩
  | _, _, 0, .cons h _ => .inr ⟨_, _, rfl, rfl, h⟩
  | _, _, i + 1, .cons _ t => by
    rcases Paired.atQ i t with h | h
    · exact .inl h
    · exact .inr h
theorem Paired.arr {α β : Type} {R : α → β → Prop} {us its ws : List α} {us' its' ws' : List β} (h1 : Paired R us us') (h2 : Paired R its its') (h3 : Paired R ws ws') : ∀ {spec : List (Nat × Nat)}, Paired R (DL.arr spec us its ws) (DL.arr spec us' its' ws')
  | [] => .nil
  | (a, b) :: spec => by
    have ih := Paired.arr h1 h2 h3 (spec := spec)
    unfold DL.arr at ih ⊢
    rw [List.filterMap_cons, List.filterMap_cons]
    match a with
    | 0 =>
      rcases Paired.atQ b h1 with ⟨e1, e2⟩ | ⟨x, y, e1, e2, r⟩
      · simp only [e1, e2]; exact ih
      · simp only [e1, e2]; exact .cons r ih
    | 1 =>
      rcases Paired.atQ b h2 with ⟨e1, e2⟩ | ⟨x, y, e1, e2, r⟩
      · simp only [e1, e2]; exact ih
      · simp only [e1, e2]; exact .cons r ih
    | n + 2 =>
      rcases Paired.atQ b h3 with ⟨e1, e2⟩ | ⟨x, y, e1, e2, r⟩
      · simp only [e1, e2]; exact ih
      · simp only [e1, e2]; exact .cons r ih
/-- how a call binds: n positional values, keywords named ks -/
structure KBd (K : PySem.W.Frag) (fd : FuncData) (ps : List Str) (n : Nat) (ks : List Str) (spec : List (Nat × Nat)) (dvs : List V) : Prop where
  ex : ∃ its : List Value, Vals dvs its ∧ ∀ (s : Shared) (us ws : List Value), K.In s.heap → us.length = n → ws.length = ks.length → BindsTo s fd ⟨us, ks.zip ws⟩ (ps.zip (arr spec us its ws))
section
variable {K : PySem.W.Frag} {x qual : Str} {params : Arguments} {body : List Stmt} {scope : Scope} {dvs : List V} {f : Addr} {fd : FuncData} {ps : List Str}
theorem kbd_of (F : FunD K x qual params body scope dvs [] f fd) (n : Nat) (ks : List Str) (spec : List (Nat × Nat)) (hd : dvs ≠ [])
    (h : ∀ (T : Addr) (kV doc pm : Value) (an : Option Addr) (cdv ct : Value) (us its ws : List Value), us.length = n → its.length = dvs.length → ws.length = ks.length →
      ∃ k, bindArgs (PySem.W.fnOf x qual params body scope (.ref T) kV doc pm an cdv ct) ⟨us, ks.zip ws⟩ = seqItems? (.ref T) >>= k ∧ k (some its.toArray) = pure (ps.zip (arr spec us its ws))) : KBd K fd ps n ks spec dvs := by
  obtain ⟨oc, od, dV, kV, doc, pm, an, cdv, ct, osl, rfl, lk, hcd, hD, hK⟩ := F.ex
  rcases hD with ⟨e, _⟩ | ⟨_, T, o, its, m, rfl, lT, oT, rT⟩
  · exact absurd e hd
  · refine ⟨its, rT, fun s us ws X l1 l2 => ?_⟩
    obtain ⟨k, e1, e2⟩ := h T kV doc pm an cdv ct us its ws l1 rT.length.symm l2
    refine BindsTo.of_looks fun M => ?_
    rw [e1]
    exact looks_items X lT oT (.of_pure e2)
theorem kbd_0 (F : FunD K x qual params body scope [] [] f fd) (n : Nat) (ks : List Str) (spec : List (Nat × Nat))
    (h : ∀ (kV doc pm : Value) (an : Option Addr) (cdv ct : Value) (us ws : List Value), us.length = n → ws.length = ks.length →
      bindArgs (PySem.W.fnOf x qual params body scope .none kV doc pm an cdv ct) ⟨us, ks.zip ws⟩ = pure (ps.zip (arr spec us [] ws))) : KBd K fd ps n ks spec [] := by
  obtain ⟨oc, od, dV, kV, doc, pm, an, cdv, ct, osl, rfl, lk, hcd, hD, hK⟩ := F.ex
  rcases hD with ⟨_, rfl⟩ | ⟨e, _⟩
  · exact ⟨[], .nil, fun s us ws X l1 l2 => .of_eq (h kV doc pm an cdv ct us ws l1 l2)⟩
  · exact absurd rfl e
end
/-- keyword arguments -/
structure KEs (X : Cx) (G : GC) (W : WX) (kws : List Keyword) (f : M (List O)) : Prop where
  ex : ∃ t, PK X kws t ∧ ∀ E σ ρ Hm H Q, RE G E σ ρ Hm H → Sat G E W σ Hm (fun os ρ' Hm' H' vs => OOks G σ Hm' vs os) Q (f ρ) → t σ H Q
section
variable {X : Cx} {G : GC} {W : WX} {nm : Option Str} {kpos pos p : Pos} {e : Expr} {es : List Expr} {kws : List Keyword} {fo : M O} {fs fk : M (List O)}
theorem ke_nil : KEs X G W [] nilA := ⟨_, pk_nil, fun E σ ρ Hm H Q re h => h [] Hm H re (Same.refl _) .nil⟩
theorem ke_cons (he : OE X G W e fo) (hs : KEs X G W kws fs) : KEs X G W (⟨nm, e, kpos⟩ :: kws) (consA fo fs) := by
  obtain ⟨t, p, q⟩ := he.ex
  obtain ⟨t2, p2, q2⟩ := hs.ex
  refine ⟨_, pk_cons p p2, fun E σ ρ Hm H Q re h => ?_⟩
  unfold consA at h
  refine q E σ ρ Hm H _ re (h.bind fun o ρ1 v Hm1 H1 e1 re1 s1 r1 h1 => ?_)
  refine q2 E σ ρ1 Hm1 H1 _ re1 (h1.bind fun os ρ2 vs Hm2 H2 e2 re2 s2 r2 h2 => ?_)
  exact h2 (v :: vs) Hm2 H2 re2 (Same.refl _) (.cons (r1.mono s2) r2)
section
variable {k n : Nat} {f : Addr} {fd : FuncData} {ps ks : List Str} {E : L2.St → XK} {x : Str} {t tk : TA} {sp : Sp} {spec : List (Nat × Nat)} {dvs : List V}
theorem run_fnSK {CX : CXT} {pins : List (Addr × Obj)} {σ : L2.St} {H : Hp} {s : Shared} {Q : VK} {args : Args} {us : List Value} {vs : List V} (F : FnOk X.prog X.w X.K X.mg X.base CX k f fd ps sp) (hr : Room k X.A) (hx : PassesAt CX X σ (E σ))
    (I : L2.Inv X pins σ H s) (r : Vals vs us) (hb : BindsTo s fd args (ps.zip us)) (h : sp vs H Q (E σ)) : wpAny (model X.prog X.w) X.A (call (.ref f) args.pos args.kw) (EP X pins σ Q) X.xe s := by
  refine wpAny_call (codeAny_mono (F.run X.A X.stack s H args us vs Q (E σ) hr I.env0 hb r h) fun r s' hq => ?_)
  cases r with
  | error e => exact hx pins H s e s' I hq
  | ok fl =>
    cases fl with
    | ret u => exact I.after hq
    | next => exact False.elim hq
    | brk => exact False.elim hq
    | cont => exact False.elim hq
def tCallSK (n m : Nat) (sp : Sp) (spec : List (Nat × Nat)) (dvs : List V) (E : L2.St → XK) (t tk : TA) : TE := fun σ H Q => t σ H fun vs H1 => tk σ H1 fun zs H2 => vs.length = n ∧ zs.length = m ∧ sp (arr spec vs dvs zs) H2 Q (E σ)
theorem Vals.arrV {vs dvs zs : List V} {us its ws : List Value} (h1 : Vals vs us) (h2 : Vals dvs its) (h3 : Vals zs ws) : Vals (arr spec vs dvs zs) (arr spec us its ws) := Paired.arr h1 h2 h3
/-- f(e, .., k = v, ..) -/
theorem pe_callSK {CX : CXT} (F : FnOk X.prog X.w X.K X.mg X.base CX k f fd ps sp) (hr : Room k X.A) (hg : Gl X x) (hm : X.mg x = some (.ref f)) (hk : PySem.W.keepIn X.K (.ref f) = true) (hb : KBd X.K fd ps n ks spec dvs) (hx : ∀ σ, PassesAt CX X σ (E σ))
    (ha : PA X (e :: es) t) (hkw : PK X kws tk) (hall : (backToKw pos (keywordEach kws X.env)).all (·.1.isSome) = true := by rfl) (hks : (backToKw pos (keywordEach kws X.env)).filterMap (·.1) = ks := by rfl)
    (hdb : (x == ("__debug__" : Str)) = false := by decide) (he : starEach (e :: es) X.env = (false, eval e X.env) :: starEach es X.env := by rfl)
    (hpl : ((backTo pos (starEach (e :: es) X.env)).any (·.1) || (backToKw pos (keywordEach kws X.env)).any (·.1.isNone)) = false := by rfl) :
    PE X (.Call (.Name x p) (e :: es) kws pos) (tCallSK n ks.length sp spec dvs E t tk) := by
  refine ⟨fun pins s σ H Q I h => ?_⟩
  refine wpAny_Call_Name_kw (ld_glob I hg hm ?_ hdb)
  refine PySem.W.callWith_KW (h₀ := X.base) I.ok.mod.kin hk hall (thn (ha.run pos pins s σ H _ I h) fun us s1 ⟨vs, H1, I1, r, q⟩ => ?_) hpl he
  refine thn (hkw.run pos pins s1 σ H1 _ I1 q) fun ws s2 ⟨zs, H2, I2, rz, l1, l2, q2⟩ => ⟨I2.kIn, ?_⟩
  rw [hks]
  obtain ⟨its, ri, hB⟩ := hb.ex
  exact run_fnSK (args := ⟨us, ks.zip ws⟩) F hr (hx σ) I2 (Vals.arrV r ri rz) (hB s2 us ws I2.kIn (r.length.symm.trans l1) (rz.length.symm.trans l2)) q2
/-- f(k = v, ..) -/
theorem pe_callSK0 {CX : CXT} (F : FnOk X.prog X.w X.K X.mg X.base CX k f fd ps sp) (hr : Room k X.A) (hg : Gl X x) (hm : X.mg x = some (.ref f)) (hk : PySem.W.keepIn X.K (.ref f) = true) (hb : KBd X.K fd ps 0 ks spec dvs) (hx : ∀ σ, PassesAt CX X σ (E σ))
    (hkw : PK X kws tk) (hall : (backToKw pos (keywordEach kws X.env)).all (·.1.isSome) = true := by rfl) (hks : (backToKw pos (keywordEach kws X.env)).filterMap (·.1) = ks := by rfl)
    (hdb : (x == ("__debug__" : Str)) = false := by decide)
    (hpl : ((backTo pos (starEach [] X.env)).any (·.1) || (backToKw pos (keywordEach kws X.env)).any (·.1.isNone)) = false := by rfl) :
    PE X (.Call (.Name x p) [] kws pos) (tCallSK 0 ks.length sp spec dvs E tNil tk) := by
  refine ⟨fun pins s σ H Q I h => ?_⟩
  refine wpAny_Call_Name_kw (ld_glob I hg hm ?_ hdb)
  refine PySem.W.callWith_KW0 (h₀ := X.base) I.ok.mod.kin hk hall ?_ hpl
  refine thn (hkw.run pos pins s σ H _ I h) fun ws s2 ⟨zs, H2, I2, rz, l1, l2, q2⟩ => ⟨I2.kIn, ?_⟩
  rw [hks]
  obtain ⟨its, ri, hB⟩ := hb.ex
  exact run_fnSK (args := ⟨[], ks.zip ws⟩) F hr (hx σ) I2 (Vals.arrV .nil ri rz) (hB s2 [] ws I2.kIn rfl (rz.length.symm.trans l2)) q2
/-- f(e, ..), defaults fill up -/
theorem pe_callSD {CX : CXT} (F : FnOk X.prog X.w X.K X.mg X.base CX k f fd ps sp) (hr : Room k X.A) (hg : Gl X x) (hm : X.mg x = some (.ref f)) (hk : PySem.W.keepIn X.K (.ref f) = true) (hb : KBd X.K fd ps n [] spec dvs) (hx : ∀ σ, PassesAt CX X σ (E σ))
    (ha : PA X (e :: es) t) (hdb : (x == ("__debug__" : Str)) = false := by decide) (he : starEach (e :: es) X.env = (false, eval e X.env) :: starEach es X.env := by rfl) (hpl : (backTo pos (starEach es X.env)).any (·.1) = false := by rfl) :
    PE X (.Call (.Name x p) (e :: es) [] pos) (tCallSK n 0 sp spec dvs E t tNil) := by
  refine ⟨fun pins s σ H Q I h => ?_⟩
  refine wpAny_Call_Name_kw (ld_glob I hg hm ?_ hdb)
  refine PySem.W.callWith_K (h₀ := X.base) I.ok.mod.kin hk (thn (ha.run pos pins s σ H _ I h) fun us s1 ⟨vs, H1, I1, r, l1, l2, q⟩ => ⟨I1.kIn, ?_⟩) he hpl
  obtain ⟨its, ri, hB⟩ := hb.ex
  exact run_fnSK (args := ⟨us, []⟩) F hr (hx σ) I1 (Vals.arrV r ri .nil) (hB s1 us [] I1.kIn (r.length.symm.trans l1) rfl) q
theorem pe_callS0 {CX : CXT} (F : FnOk X.prog X.w X.K X.mg X.base CX k f fd ps sp) (hr : Room k X.A) (hg : Gl X x) (hm : X.mg x = some (.ref f)) (hk : PySem.W.keepIn X.K (.ref f) = true) (hb : KBd X.K fd ps 0 [] spec dvs) (hx : ∀ σ, PassesAt CX X σ (E σ))
    (hdb : (x == ("__debug__" : Str)) = false := by decide) : PE X (.Call (.Name x p) [] [] pos) (tCallSK 0 0 sp spec dvs E tNil tNil) := by
  refine ⟨fun pins s σ H Q I h => ?_⟩
  refine wpAny_Call_Name_kw (ld_glob I hg hm ?_ hdb)
  obtain ⟨its, ri, hB⟩ := hb.ex
  exact PySem.W.callWith_K0 I.kIn hk (run_fnSK (args := ⟨[], []⟩) F hr (hx σ) I (Vals.arrV .nil ri .nil) (hB s [] [] I.kIn rfl rfl) h.2.2)
end
/-- a def as this text may call it -/
structure Cl (X : Cx) (fx : List Nat) (x : Str) (n : Nat) (F : M R) (G : GC) (fd : FuncData) (ps : List Str) : Prop where
  ex : ∃ (k : Nat) (f : Addr), FnOk X.prog X.w X.K X.mg X.base (L2.CX X.prog X.w) k f fd ps (spD G n fx F) ∧ Room k X.A ∧ X.mg x = some (.ref f) ∧ PySem.W.keepIn X.K (.ref f) = true
variable {fx : List Nat} {F : M R} {n m np : Nat} {x : Str} {fd : FuncData} {ps ks : List Str} {spec : List (Nat × Nat)} {dvs : List V} {dd : List D}
theorem ook_dd {G : GC} {σ : L2.St} {Hm : Hp} : ∀ {dd : List D} {dvs : List V}, Reps G Hm dd dvs → OOks G σ Hm dvs (dd.map O.v)
  | [], _, h => by unfold Reps at h; subst h; exact .nil
  | d :: dd, _, h => by
    unfold Reps at h
    obtain ⟨w, ws, rfl, r, t⟩ := h
    exact .cons r (ook_dd t)
theorem de_call (C : Cl X fx x n F G fd ps) (tk : Takes X W) (hg : Gl X x) (hb : Binds X.K fd ps []) (ha : AE X G W (e :: es) fs) (hdb : (x == ("__debug__" : Str)) = false := by decide)
    (he : starEach (e :: es) X.env = (false, eval e X.env) :: starEach es X.env := by rfl) (hpl : (backTo pos (starEach es X.env)).any (·.1) = false := by rfl) : DE X G W (.Call (.Name x p) (e :: es) [] pos) (fCall fx F n fs) := by
  obtain ⟨k, f, hF, hr, hm, hk⟩ := C.ex
  obtain ⟨t, pt, ht⟩ := ha.ex
  refine ⟨_, pe_callS (E := WE W) hF hr hg hm hk hb (fun σ => passAt tk σ) pt hdb he hpl, fun E σ ρ Hm H Q re h => ?_⟩
  unfold fCall at h
  refine ht E σ ρ Hm H _ re (h.bind fun os ρ1 vs Hm1 H1 e1 re1 s1 r1 h1 => ?_)
  by_cases c : os.length = n
  · rw [decide_eq_true c] at h1
    exact call_ok re1 r1 ((Paired.length r1).trans c) h1
  · rw [decide_eq_false c] at h1
    exact h1.elim
theorem callK_ok {E : Ent} {σ : L2.St} {ρ : List S} {Hm H : Hp} {np : Nat} {Q : V → Hp → Prop} {t tk : TA} {fx : List Nat} {F : M R} {dd : List D} {dvs : List V} {spec : List (Nat × Nat)}
    (ht : ∀ E σ ρ Hm H Q, RE G E σ ρ Hm H → Sat G E W σ Hm (fun os ρ' Hm' H' vs => OOks G σ Hm' vs os) Q (fs ρ) → t σ H Q)
    (htk : ∀ E σ ρ Hm H Q, RE G E σ ρ Hm H → Sat G E W σ Hm (fun os ρ' Hm' H' vs => OOks G σ Hm' vs os) Q (fk ρ) → tk σ H Q)
    (hdd : ∀ Hm, Reps G Hm dd dvs) (hs : arrOk spec n dd.length m = true) (hl : spec.length = np) (re : RE G E σ ρ Hm H)
    (h : Sat G E W σ Hm (fun r ρ' Hm' H' v => ROk G E σ ρ' Hm' H' v r) Q (fCallK fx F n m spec dd fs fk ρ)) : tCallSK n m (spD G np fx F) spec dvs (WE W) t tk σ H Q := by
  unfold fCallK at h
  refine ht E σ ρ Hm H _ re (h.bind fun os ρ1 vs Hm1 H1 e1 re1 s1 r1 h1 => ?_)
  refine htk E σ ρ1 Hm1 H1 _ re1 (h1.bind fun zs ρ2 ws Hm2 H2 e2 re2 s2 r2 h2 => ?_)
  by_cases c : os.length = n ∧ zs.length = m
  · rw [decide_eq_true c.1, decide_eq_true c.2] at h2
    have l1 : vs.length = n := (Paired.length r1).trans c.1
    have l2 : ws.length = m := (Paired.length r2).trans c.2
    have ld : dvs.length = dd.length := (hdd Hm).length
    refine ⟨l1, l2, call_ok re2 (Paired.arr (OOks.mono s2 r1) (ook_dd (hdd Hm2)) r2) ?_ h2⟩
    rw [arr_length (by rw [l1, l2, ld]; exact hs), hl]
  · have e : (decide (os.length = n) && decide (zs.length = m)) = false := by
      cases q : (decide (os.length = n) && decide (zs.length = m)) with
      | false => rfl
      | true => exact absurd (by simpa using q) c
    rw [e] at h2
    exact h2.elim
theorem de_callK (C : Cl X fx x np F G fd ps) (tk : Takes X W) (hg : Gl X x) (hb : KBd X.K fd ps n ks spec dvs) (ha : AE X G W (e :: es) fs) (hkw : KEs X G W kws fk) (hdd : ∀ Hm, Reps G Hm dd dvs) (hs : arrOk spec n dd.length ks.length = true := by rfl) (hl : spec.length = np := by rfl)
    (hall : (backToKw pos (keywordEach kws X.env)).all (·.1.isSome) = true := by rfl) (hks : (backToKw pos (keywordEach kws X.env)).filterMap (·.1) = ks := by rfl)
    (hdb : (x == ("__debug__" : Str)) = false := by decide) (he : starEach (e :: es) X.env = (false, eval e X.env) :: starEach es X.env := by rfl)
    (hpl : ((backTo pos (starEach (e :: es) X.env)).any (·.1) || (backToKw pos (keywordEach kws X.env)).any (·.1.isNone)) = false := by rfl) : DE X G W (.Call (.Name x p) (e :: es) kws pos) (fCallK fx F n ks.length spec dd fs fk) := by
  obtain ⟨k, f, hF, hr, hm, hk⟩ := C.ex
  obtain ⟨t, pt, ht⟩ := ha.ex
  obtain ⟨u, pu, hu⟩ := hkw.ex
  exact ⟨_, pe_callSK (E := WE W) hF hr hg hm hk hb (fun σ => passAt tk σ) pt pu hall hks hdb he hpl, fun E σ ρ Hm H Q re h => callK_ok ht hu hdd hs hl re h⟩
theorem de_callK0 (C : Cl X fx x np F G fd ps) (tk : Takes X W) (hg : Gl X x) (hb : KBd X.K fd ps 0 ks spec dvs) (hkw : KEs X G W kws fk) (hdd : ∀ Hm, Reps G Hm dd dvs) (hs : arrOk spec 0 dd.length ks.length = true := by rfl) (hl : spec.length = np := by rfl)
    (hall : (backToKw pos (keywordEach kws X.env)).all (·.1.isSome) = true := by rfl) (hks : (backToKw pos (keywordEach kws X.env)).filterMap (·.1) = ks := by rfl)
    (hdb : (x == ("__debug__" : Str)) = false := by decide)
    (hpl : ((backTo pos (starEach [] X.env)).any (·.1) || (backToKw pos (keywordEach kws X.env)).any (·.1.isNone)) = false := by rfl) : DE X G W (.Call (.Name x p) [] kws pos) (fCallK fx F 0 ks.length spec dd nilA fk) := by
  obtain ⟨k, f, hF, hr, hm, hk⟩ := C.ex
  obtain ⟨u, pu, hu⟩ := hkw.ex
  exact ⟨_, pe_callSK0 (E := WE W) hF hr hg hm hk hb (fun σ => passAt tk σ) pu hall hks hdb hpl, fun E σ ρ Hm H Q re h => callK_ok (fs := nilA) (t := tNil) (fun E σ ρ Hm H Q re h => h [] Hm H re (Same.refl _) .nil) hu hdd hs hl re h⟩
theorem de_callD (C : Cl X fx x np F G fd ps) (tk : Takes X W) (hg : Gl X x) (hb : KBd X.K fd ps n [] spec dvs) (ha : AE X G W (e :: es) fs) (hdd : ∀ Hm, Reps G Hm dd dvs) (hs : arrOk spec n dd.length 0 = true := by rfl) (hl : spec.length = np := by rfl)
    (hdb : (x == ("__debug__" : Str)) = false := by decide) (he : starEach (e :: es) X.env = (false, eval e X.env) :: starEach es X.env := by rfl) (hpl : (backTo pos (starEach es X.env)).any (·.1) = false := by rfl) :
    DE X G W (.Call (.Name x p) (e :: es) [] pos) (fCallK fx F n 0 spec dd fs nilA) := by
  obtain ⟨k, f, hF, hr, hm, hk⟩ := C.ex
  obtain ⟨t, pt, ht⟩ := ha.ex
  exact ⟨_, pe_callSD (E := WE W) hF hr hg hm hk hb (fun σ => passAt tk σ) pt hdb he hpl, fun E σ ρ Hm H Q re h => callK_ok (fk := nilA) (tk := tNil) ht (fun E σ ρ Hm H Q re h => h [] Hm H re (Same.refl _) .nil) hdd hs hl re h⟩
theorem de_call0 (C : Cl X fx x np F G fd ps) (tk : Takes X W) (hg : Gl X x) (hb : KBd X.K fd ps 0 [] spec dvs) (hdd : ∀ Hm, Reps G Hm dd dvs) (hs : arrOk spec 0 dd.length 0 = true := by rfl) (hl : spec.length = np := by rfl)
    (hdb : (x == ("__debug__" : Str)) = false := by decide) : DE X G W (.Call (.Name x p) [] [] pos) (fCallK fx F 0 0 spec dd nilA nilA) := by
  obtain ⟨k, f, hF, hr, hm, hk⟩ := C.ex
  exact ⟨_, pe_callS0 (E := WE W) hF hr hg hm hk hb (fun σ => passAt tk σ) hdb, fun E σ ρ Hm H Q re h => callK_ok (fs := nilA) (fk := nilA) (t := tNil) (tk := tNil) (fun E σ ρ Hm H Q re h => h [] Hm H re (Same.refl _) .nil) (fun E σ ρ Hm H Q re h => h [] Hm H re (Same.refl _) .nil) hdd hs hl re h⟩
end
end DL
set_option Elab.async false
set_option linter.all false
set_option maxRecDepth 100000
namespace DL
open PySem PySem.Spec PyProof.Rows L2
/-! ## built-in functions on data -/
def cDat (G : GC) (g : List D → Option R) : List V → Hp → VK → Prop := fun vs H Q => ∃ Hm ds r, Same Hm H ∧ Paired (RepR G Hm H) vs ds ∧ g ds = some r ∧ ∀ v H', ResH G Hm H H' v r → Q v H'
def liftN (g : List D → Option R) (os : List O) : M R := fun ρ => match resOs ρ os with
  | some ds => (match g ds with | some r => .ok r ρ | none => .bad)
  | none => .bad
def fB (g : List D → Option R) (fs : M (List O)) : M R := M.bind fs fun os => liftN g os
section
variable {X : Cx} {G : GC} {W : WX} {Hm H : Hp}
theorem resOs_ok {E : Ent} {σ : L2.St} {ρ : List S} {Hm H : Hp} (re : RE G E σ ρ Hm H) : ∀ {vs : List V} {os : List O} {ds : List D}, OOks G σ Hm vs os → resOs ρ os = some ds → Paired (RepR G Hm H) vs ds
  | _, _, _, .nil, e => by cases e; exact .nil
  | _, o :: os, ds, .cons h1 h2, e => by
    unfold resOs at e
    cases e1 : resO ρ o with
    | none => rw [e1] at e; cases e
    | some d =>
      cases e2 : resOs ρ os with
      | none => rw [e1, e2] at e; cases e
      | some es =>
        rw [e1, e2] at e
        cases e
        exact .cons (resO_ok re h1 e1) (resOs_ok re h2 e2)
theorem liftN_ok {E : Ent} {σ : L2.St} {ρ : List S} {Hm H : Hp} {Q : V → Hp → Prop} {g : List D → Option R} {os : List O} {vs : List V} (re : RE G E σ ρ Hm H) (ha : OOks G σ Hm vs os)
    (h : Sat G E W σ Hm (fun r ρ' Hm' H' v => ROk G E σ ρ' Hm' H' v r) Q (liftN g os ρ)) : cDat G g vs H Q := by
  unfold liftN at h
  cases e1 : resOs ρ os with
  | none => rw [e1] at h; exact h.elim
  | some ds =>
    rw [e1] at h
    simp only at h
    cases e3 : g ds with
    | none => rw [e3] at h; exact h.elim
    | some r =>
      rw [e3] at h
      refine ⟨Hm, ds, r, re.sub, resOs_ok re ha e1, e3, fun v H' q => ?_⟩
      obtain ⟨r1, r2⟩ := q.ok re
      exact h v Hm H' r1 (Same.refl _) r2
theorem CallR.imp {f : Value} {r r' : List V → Hp → VK → Prop} (h : CallR X f r) (i : ∀ x H Q, r' x H Q → r x H Q) : CallR X f r' := fun pins s σ H xs us Q I rx q => h pins s σ H xs us Q I rx (i xs H Q q)
theorem CallR.or' {f : Value} {r r' : List V → Hp → VK → Prop} (h : CallR X f r) (h' : CallR X f r') : CallR X f (fun x H Q => r x H Q ∨ r' x H Q) := fun pins s σ H xs us Q I rx q => q.elim (h pins s σ H xs us Q I rx) (h' pins s σ H xs us Q I rx)
variable {x : Str} {p pos : Pos} {e : Expr} {es : List Expr} {fs : M (List O)} {g : List D → Option R} {id T : String}
theorem de_cb (hc : CallR X (.builtin id) (cDat G g)) (hg : Gl X x) (hm : X.mg x = none) (hv : bootBuiltins x = some (.builtin id)) (ha : AE X G W (e :: es) fs) (hn : x ≠ "__name__" := by decide) (hdb : (x == ("__debug__" : Str)) = false := by decide)
    (he : starEach (e :: es) X.env = (false, eval e X.env) :: starEach es X.env := by rfl) (hpl : (backTo pos (starEach es X.env)).any (·.1) = false := by rfl) : DE X G W (.Call (.Name x p) (e :: es) [] pos) (fB g fs) := by
  obtain ⟨t, pa, ht⟩ := ha.ex
  exact ⟨_, pe_callB hc hg hm hv pa hn hdb he hpl, fun E σ ρ Hm H Q re h => ht E σ ρ Hm H _ re (h.bind fun os ρ1 vs Hm1 H1 _ re1 s1 r1 h1 => liftN_ok re1 r1 h1)⟩
theorem de_ct (hc : CallR X (.type T) (cDat G g)) (hg : Gl X x) (hm : X.mg x = none) (hv : bootBuiltins x = some (.type T)) (ha : AE X G W (e :: es) fs) (hn : x ≠ "__name__" := by decide) (hdb : (x == ("__debug__" : Str)) = false := by decide)
    (he : starEach (e :: es) X.env = (false, eval e X.env) :: starEach es X.env := by rfl) (hpl : (backTo pos (starEach es X.env)).any (·.1) = false := by rfl) : DE X G W (.Call (.Name x p) (e :: es) [] pos) (fB g fs) := by
  obtain ⟨t, pa, ht⟩ := ha.ex
  exact ⟨_, pe_callTy hc hg hm hv pa hn hdb he hpl, fun E σ ρ Hm H Q re h => ht E σ ρ Hm H _ re (h.bind fun os ρ1 vs Hm1 H1 _ re1 s1 r1 h1 => liftN_ok re1 r1 h1)⟩
/-! ### the functions -/
def intsD : List D → Option (List Int)
  | [] => some []
  | .int i :: ds => (intsD ds).map (i :: ·)
  | _ => none
def blsD : List D → Option (List Bool)
  | [] => some []
  | .bl i :: ds => (blsD ds).map (i :: ·)
  | _ => none
theorem intsD_eq : ∀ {ds : List D} {ns : List Int}, intsD ds = some ns → ds = ns.map D.int
  | [], ns, h => by cases h; rfl
  | .int i :: ds, ns, h => by
    unfold intsD at h
    cases q : intsD ds with
    | none => rw [q] at h; cases h
    | some m => rw [q] at h; cases h; rw [List.map_cons, ← intsD_eq q]
  | .non :: _, _, h => by cases h
  | .bl _ :: _, _, h => by cases h
  | .str _ :: _, _, h => by cases h
  | .lst _ :: _, _, h => by cases h
  | .tup _ :: _, _, h => by cases h
  | .dic _ :: _, _, h => by cases h
  | .obj _ _ :: _, _, h => by cases h
  | .con _ :: _, _, h => by cases h
theorem blsD_eq : ∀ {ds : List D} {ns : List Bool}, blsD ds = some ns → ds = ns.map D.bl
  | [], ns, h => by cases h; rfl
  | .bl i :: ds, ns, h => by
    unfold blsD at h
    cases q : blsD ds with
    | none => rw [q] at h; cases h
    | some m => rw [q] at h; cases h; rw [List.map_cons, ← blsD_eq q]
  | .non :: _, _, h => by cases h
  | .int _ :: _, _, h => by cases h
  | .str _ :: _, _, h => by cases h
  | .lst _ :: _, _, h => by cases h
  | .tup _ :: _, _, h => by cases h
  | .dic _ :: _, _, h => by cases h
  | .obj _ _ :: _, _, h => by cases h
  | .con _ :: _, _, h => by cases h
@[simp] theorem intsD_map (ns : List Int) : intsD (ns.map D.int) = some ns := by
  induction ns with
  | nil => rfl
  | cons n ns ih => rw [List.map_cons]; unfold intsD; rw [ih]; rfl
@[simp] theorem blsD_map (ns : List Bool) : blsD (ns.map D.bl) = some ns := by
  induction ns with
  | nil => rfl
  | cons n ns ih => rw [List.map_cons]; unfold blsD; rw [ih]; rfl
def lenD : List D → Option R
  | [.lst ds] => ri (ds.length : Nat)
  | [.tup ds] => ri (ds.length : Nat)
  | _ => none
def intD1 : List D → Option R
  | [.int i] => ri i
  | [.bl b] => ri (if b then 1 else 0)
  | _ => none
def absD : List D → Option R
  | [.int i] => ri (if i < 0 then -i else i)
  | _ => none
/-- the greatest, the least of some ints -/
def maxL : List Int → Int
  | [] => 0
  | [x] => x
  | x :: y :: r => let m := maxL (y :: r); if m > x then m else x
def minL : List Int → Int
  | [] => 0
  | [x] => x
  | x :: y :: r => let m := minL (y :: r); if m < x then m else x
def ne1 (f : List Int → Int) : List Int → Option R
  | [] => none
  | n :: ns => ri (f (n :: ns))
def maxD : List D → Option R
  | [.int i, .int j] => ri (if j > i then j else i)
  | [.lst ds] => (intsD ds).bind (ne1 maxL)
  | _ => none
def minD : List D → Option R
  | [.int i, .int j] => ri (if j < i then j else i)
  | [.lst ds] => (intsD ds).bind (ne1 minL)
  | _ => none
def sumD : List D → Option R
  | [.lst ds] => (intsD ds).bind fun ns => ri ns.sum
  | _ => none
def allD : List D → Option R
  | [.lst ds] => (blsD ds).bind fun ns => rb (ns.all _root_.id)
  | _ => none
def anyD : List D → Option R
  | [.lst ds] => (blsD ds).bind fun ns => rb (ns.any _root_.id)
  | _ => none
def listD1 : List D → Option R
  | [.lst ds] => some ⟨.lst ds, true⟩
  | [.tup ds] => some ⟨.lst ds, true⟩
  | _ => none
def tupD1 : List D → Option R
  | [.lst ds] => some ⟨.tup ds, true⟩
  | _ => none
theorem maxL_spec : ∀ {ns : List Int}, 0 < ns.length → maxL ns ∈ ns ∧ ∀ y ∈ ns, y ≤ maxL ns
  | [x], _ => ⟨List.mem_singleton.mpr rfl, fun y h => by rw [List.mem_singleton.mp h]; exact Int.le_refl _⟩
  | x :: y :: r, _ => by
    obtain ⟨h1, h2⟩ := maxL_spec (ns := y :: r) (by simp)
    unfold maxL
    by_cases c : maxL (y :: r) > x
    · rw [if_pos c]
      refine ⟨List.mem_cons_of_mem _ h1, fun z hz => ?_⟩
      rcases List.mem_cons.mp hz with e | hz
      · rw [e]; omega
      · exact h2 z hz
    · rw [if_neg c]
      refine ⟨List.mem_cons_self .., fun z hz => ?_⟩
      rcases List.mem_cons.mp hz with e | hz
      · rw [e]; exact Int.le_refl _
      · have := h2 z hz; omega
theorem minL_spec : ∀ {ns : List Int}, 0 < ns.length → minL ns ∈ ns ∧ ∀ y ∈ ns, minL ns ≤ y
  | [x], _ => ⟨List.mem_singleton.mpr rfl, fun y h => by rw [List.mem_singleton.mp h]; exact Int.le_refl _⟩
  | x :: y :: r, _ => by
    obtain ⟨h1, h2⟩ := minL_spec (ns := y :: r) (by simp)
    unfold minL
    by_cases c : minL (y :: r) < x
    · rw [if_pos c]
      refine ⟨List.mem_cons_of_mem _ h1, fun z hz => ?_⟩
      rcases List.mem_cons.mp hz with e | hz
      · rw [e]; omega
      · exact h2 z hz
    · rw [if_neg c]
      refine ⟨List.mem_cons_self .., fun z hz => ?_⟩
      rcases List.mem_cons.mp hz with e | hz
      · rw [e]; exact Int.le_refl _
      · have := h2 z hz; omega
theorem cd1 {vs : List V} {d : D} (h : Paired (RepR G Hm H) vs [d]) : ∃ v, vs = [v] ∧ RepR G Hm H v d := by
  cases h with
  | cons h t => cases t; exact ⟨_, rfl, h⟩
theorem cd2 {vs : List V} {d d2 : D} (h : Paired (RepR G Hm H) vs [d, d2]) : ∃ v w, vs = [v, w] ∧ RepR G Hm H v d ∧ RepR G Hm H w d2 := by
  cases h with
  | cons h t =>
    cases t with
    | cons h2 t => cases t; exact ⟨_, _, rfl, h, h2⟩
theorem cr_len (hK : G.K = X.K := by rfl) : CallR X (.builtin "len") (cDat G lenD) := by
  refine CallR.imp call_len_seq fun xs H Q q => ?_
  obtain ⟨Hm, ds, r, s, h, e, w⟩ := q
  match ds, h, e with
  | [.lst ds], h, e =>
    obtain ⟨v, rfl, k⟩ := cd1 h
    obtain ⟨a, vs, rfl, r1, q1⟩ := k.lst s
    exact ⟨a, vs, rfl, .inl (hK ▸ r1), w _ _ (by rw [ri_some e, q1.length]; exact ResH.int)⟩
  | [.tup ds], h, e =>
    obtain ⟨v, rfl, k⟩ := cd1 h
    obtain ⟨a, vs, rfl, r1, q1⟩ := k.tup s
    exact ⟨a, vs, rfl, .inr (hK ▸ r1), w _ _ (by rw [ri_some e, q1.length]; exact ResH.int)⟩
theorem cr_int : CallR X (.type "int") (cDat G intD1) := by
  refine CallR.imp call_int1 fun xs H Q q => ?_
  obtain ⟨Hm, ds, r, s, h, e, w⟩ := q
  match ds, h, e with
  | [.int i], h, e =>
    obtain ⟨v, rfl, k⟩ := cd1 h
    exact .inl ⟨i, by rw [k.int], w _ _ (by rw [ri_some e]; exact ResH.int)⟩
  | [.bl b], h, e =>
    obtain ⟨v, rfl, k⟩ := cd1 h
    exact .inr ⟨b, by rw [k.bl], w _ _ (by rw [ri_some e]; exact ResH.int)⟩
theorem cr_abs : CallR X (.builtin "abs") (cDat G absD) := by
  refine CallR.imp call_abs fun xs H Q q => ?_
  obtain ⟨Hm, ds, r, s, h, e, w⟩ := q
  match ds, h, e with
  | [.int i], h, e =>
    obtain ⟨v, rfl, k⟩ := cd1 h
    exact ⟨i, by rw [k.int], w _ _ (by rw [ri_some e]; exact ResH.int)⟩
theorem ints_at {v : V} {ds : List D} {ns : List Int} (hK : G.K = X.K) (s : Same Hm H) (h : RepR G Hm H v (.lst ds)) (e : intsD ds = some ns) : ∃ a, v = .ref a ∧ SqL X.K H a (ns.map V.int) := by
  obtain ⟨a, vs, rfl, r1, q1⟩ := h.lst s
  rw [intsD_eq e] at q1
  rw [q1.ints] at r1
  exact ⟨a, rfl, hK ▸ r1⟩
theorem bls_at {v : V} {ds : List D} {ns : List Bool} (hK : G.K = X.K) (s : Same Hm H) (h : RepR G Hm H v (.lst ds)) (e : blsD ds = some ns) : ∃ a, v = .ref a ∧ SqL X.K H a (ns.map V.bl) := by
  obtain ⟨a, vs, rfl, r1, q1⟩ := h.lst s
  rw [blsD_eq e] at q1
  rw [q1.bls] at r1
  exact ⟨a, rfl, hK ▸ r1⟩
theorem cr_maxG (hc : X.calm = true) (hK : G.K = X.K := by rfl) : CallR X (.builtin "max") (cDat G maxD) := by
  refine CallR.imp (CallR.or' (call_max2 hc) (L2.cr_max hc)) fun xs H Q q => ?_
  obtain ⟨Hm, ds, r, s, h, e, w⟩ := q
  match ds, h, e with
  | [.int i, .int j], h, e =>
    obtain ⟨v, u, rfl, h1, h2⟩ := cd2 h
    exact .inl ⟨i, j, by rw [h1.int, h2.int], w _ _ (by rw [ri_some e]; exact ResH.int)⟩
  | [.lst ds], h, e =>
    obtain ⟨v, rfl, k⟩ := cd1 h
    have e : ((intsD ds).bind (ne1 maxL)) = some r := e
    cases q : intsD ds with
    | none => rw [q] at e; cases e
    | some ns =>
      rw [q] at e
      cases ns with
      | nil => cases e
      | cons n ns =>
        obtain ⟨a, rfl, r1⟩ := ints_at (X := X) hK s k q
        obtain ⟨m1, m2⟩ := maxL_spec (ns := n :: ns) (by simp)
        refine .inr ⟨a, n :: ns, rfl, r1, by simp, fun m k1 k2 => w _ _ ?_⟩
        have e2 : m = maxL (n :: ns) := Int.le_antisymm (m2 m k1) (k2 _ m1)
        rw [ri_some e, e2]
        exact ResH.int
theorem cr_minG (hc : X.calm = true) (hK : G.K = X.K := by rfl) : CallR X (.builtin "min") (cDat G minD) := by
  refine CallR.imp (CallR.or' (call_min2 hc) (L2.cr_min hc)) fun xs H Q q => ?_
  obtain ⟨Hm, ds, r, s, h, e, w⟩ := q
  match ds, h, e with
  | [.int i, .int j], h, e =>
    obtain ⟨v, u, rfl, h1, h2⟩ := cd2 h
    exact .inl ⟨i, j, by rw [h1.int, h2.int], w _ _ (by rw [ri_some e]; exact ResH.int)⟩
  | [.lst ds], h, e =>
    obtain ⟨v, rfl, k⟩ := cd1 h
    have e : ((intsD ds).bind (ne1 minL)) = some r := e
    cases q : intsD ds with
    | none => rw [q] at e; cases e
    | some ns =>
      rw [q] at e
      cases ns with
      | nil => cases e
      | cons n ns =>
        obtain ⟨a, rfl, r1⟩ := ints_at (X := X) hK s k q
        obtain ⟨m1, m2⟩ := minL_spec (ns := n :: ns) (by simp)
        refine .inr ⟨a, n :: ns, rfl, r1, by simp, fun m k1 k2 => w _ _ ?_⟩
        have e2 : m = minL (n :: ns) := Int.le_antisymm (k2 _ m1) (m2 m k1)
        rw [ri_some e, e2]
        exact ResH.int
theorem cr_sumG (hc : X.calm = true) (hK : G.K = X.K := by rfl) : CallR X (.builtin "sum") (cDat G sumD) := by
  refine CallR.imp (L2.cr_sum hc) fun xs H Q q => ?_
  obtain ⟨Hm, ds, r, s, h, e, w⟩ := q
  match ds, h, e with
  | [.lst ds], h, e =>
    obtain ⟨v, rfl, k⟩ := cd1 h
    have e : ((intsD ds).bind fun ns => ri ns.sum) = some r := e
    cases q : intsD ds with
    | none => rw [q] at e; cases e
    | some ns =>
      rw [q] at e
      obtain ⟨a, rfl, r1⟩ := ints_at (X := X) hK s k q
      exact ⟨a, ns, rfl, r1, w _ _ (by rw [ri_some (i := ns.sum) e]; exact ResH.int)⟩
theorem cr_allG (hc : X.calm = true) (hK : G.K = X.K := by rfl) : CallR X (.builtin "all") (cDat G allD) := by
  refine CallR.imp (L2.cr_all hc) fun xs H Q q => ?_
  obtain ⟨Hm, ds, r, s, h, e, w⟩ := q
  match ds, h, e with
  | [.lst ds], h, e =>
    obtain ⟨v, rfl, k⟩ := cd1 h
    have e : ((blsD ds).bind fun ns => rb (ns.all _root_.id)) = some r := e
    cases q : blsD ds with
    | none => rw [q] at e; cases e
    | some ns =>
      rw [q] at e
      obtain ⟨a, rfl, r1⟩ := bls_at (X := X) hK s k q
      exact ⟨a, ns, rfl, r1, w _ _ (by rw [rb_some (i := ns.all _root_.id) e]; exact ResH.bl)⟩
theorem cr_anyG (hc : X.calm = true) (hK : G.K = X.K := by rfl) : CallR X (.builtin "any") (cDat G anyD) := by
  refine CallR.imp (L2.cr_any hc) fun xs H Q q => ?_
  obtain ⟨Hm, ds, r, s, h, e, w⟩ := q
  match ds, h, e with
  | [.lst ds], h, e =>
    obtain ⟨v, rfl, k⟩ := cd1 h
    have e : ((blsD ds).bind fun ns => rb (ns.any _root_.id)) = some r := e
    cases q : blsD ds with
    | none => rw [q] at e; cases e
    | some ns =>
      rw [q] at e
      obtain ⟨a, rfl, r1⟩ := bls_at (X := X) hK s k q
      exact ⟨a, ns, rfl, r1, w _ _ (by rw [rb_some (i := ns.any _root_.id) e]; exact ResH.bl)⟩
theorem cr_listG (hK : G.K = X.K := by rfl) : CallR X (.type "list") (cDat G listD1) := by
  refine CallR.imp call_list_of fun xs H Q q => ?_
  obtain ⟨Hm, ds, r, s, h, e, w⟩ := q
  match ds, h, e with
  | [.lst ds], h, e =>
    obtain ⟨v, rfl, k⟩ := cd1 h
    obtain ⟨a, vs, rfl, r1, q1⟩ := k.lst s
    cases e
    exact ⟨a, vs, rfl, .inl (hK ▸ r1), fun p hp => w _ _ (ResH.lst hp q1)⟩
  | [.tup ds], h, e =>
    obtain ⟨v, rfl, k⟩ := cd1 h
    obtain ⟨a, vs, rfl, r1, q1⟩ := k.tup s
    cases e
    exact ⟨a, vs, rfl, .inr (hK ▸ r1), fun p hp => w _ _ (ResH.lst hp q1)⟩
theorem cr_tupG (hK : G.K = X.K := by rfl) : CallR X (.type "tuple") (cDat G tupD1) := by
  refine CallR.imp call_tuple_of fun xs H Q q => ?_
  obtain ⟨Hm, ds, r, s, h, e, w⟩ := q
  match ds, h, e with
  | [.lst ds], h, e =>
    obtain ⟨v, rfl, k⟩ := cd1 h
    obtain ⟨a, vs, rfl, r1, q1⟩ := k.lst s
    cases e
    exact ⟨a, vs, rfl, .inl ⟨hK ▸ r1, fun p hp => w _ _ (ResH.tup hp q1)⟩⟩
end
end DL
set_option Elab.async false
set_option linter.all false
set_option maxRecDepth 100000
namespace DL
open PySem PySem.Spec PyProof.Rows L2
/-! ## sorted -/
theorem toPs_map : ∀ ds : List D, toPs ds = ds.map toP
  | [] => rfl
  | d :: ds => by unfold toPs; rw [toPs_map ds]; rfl
def alikeB (ps : List PyData) : Bool := ps.all fun d => ps.all fun e => PySem.W.alike d e
def tupP : PyData → Bool
  | .tuple (_ :: _) => true
  | _ => false
def othP : PyData → Bool
  | .none => false
  | .tuple _ => false
  | _ => true
def sortB (ps : List PyData) : Bool := ps.all tupP || ps.all othP
def sortOk (ds : List D) : Bool := alikeB (ds.map toP) && sortB (ds.map toP) && ds.all okP
def sortL (ds : List D) : List D := ds.mergeSort (PySem.W.dataLe false toP)
def sortedD : List D → Option R
  | [.lst ds] => if sortOk ds = true then some ⟨.lst (sortL ds), true⟩ else none
  | _ => none
theorem alikeB_ok {ps : List PyData} (h : alikeB ps = true) : PySem.W.AllAlike ps := fun d hd e he => List.all_eq_true.mp (List.all_eq_true.mp h d hd) e he
theorem sortB_ok {ps : List PyData} (h : sortB ps = true) : PySem.W.Sortable ps := by
  unfold sortB at h
  rw [Bool.or_eq_true] at h
  rcases h with h | h
  · refine .inl fun d hd => ?_
    have := List.all_eq_true.mp h d hd
    unfold tupP at this
    split at this
    · exact ⟨_, _, rfl⟩
    · cases this
  · refine .inr fun d hd => ?_
    have := List.all_eq_true.mp h d hd
    constructor
    · rintro rfl; cases this
    · rintro xs rfl; cases this
section
variable {X : Cx} {G : GC} {W : WX} {Hm H : Hp}
def rSortD (G : GC) (K : PySem.W.Frag) : List V → Hp → VK → Prop := fun vs H Q => ∃ (Hm : Hp) (a : Addr) (xs : List V) (ds : List D), vs = [V.ref a] ∧ Same Hm H ∧ SqL K H a xs ∧ Reps G Hm ds xs ∧ sortOk ds = true ∧
  ∀ (ys : List V) (p : Addr), Reps G Hm (sortL ds) ys → H p = none → Q (.ref p) (upd H p (.lst ys))
theorem each_of {P : V → Value → D → Prop} {Hm : Hp} (hP : ∀ v u d, RelV v u → Rep G Hm d v → P v u d) : ∀ {ds : List D} {xs : List V} {us : List Value}, Reps G Hm ds xs → Vals xs us → PySem.W.EachIs (fun u d => ∃ v, RelV v u ∧ Rep G Hm d v) us ds
  | [], xs, us, h, r => by unfold Reps at h; subst h; cases r; exact .nil
  | d :: ds, xs, us, h, r => by
    unfold Reps at h
    obtain ⟨w, ws, rfl, h1, h2⟩ := h
    cases r with
    | cons r1 r2 => exact .cons ⟨w, r1, h1⟩ (each_of hP h2 r2)
theorem each_back {Hm : Hp} : ∀ {ds : List D} {us : List Value}, PySem.W.EachIs (fun u d => ∃ v, RelV v u ∧ Rep G Hm d v) us ds → ∃ xs, Reps G Hm ds xs ∧ Vals xs us
  | [], us, h => by cases h; exact ⟨[], Reps.nil, .nil⟩
  | d :: ds, us, h => by
    cases h with
    | cons h t =>
      obtain ⟨v, r1, r2⟩ := h
      obtain ⟨xs, q1, q2⟩ := each_back t
      exact ⟨v :: xs, Reps.cons r2 q1, .cons r1 q2⟩
theorem EachIs.imp {α β : Type} {R R' : α → β → Prop} : ∀ {as : List α} {bs : List β}, PySem.W.EachIs R as bs → (∀ a b, b ∈ bs → R a b → R' a b) → PySem.W.EachIs R' as bs
  | _, _, .nil, _ => .nil
  | _, _, .cons h t, f => .cons (f _ _ (List.mem_cons_self ..) h) (EachIs.imp t fun a b hb => f a b (List.mem_cons_of_mem _ hb))
theorem cr_sortD (hu : X.A.units + 66 < cLine) (hK : G.K = X.K) : CallR X (.builtin "sorted") (rSortD G X.K) := by
  intro pins s σ H vs us Q I r h
  obtain ⟨Hm, a, xs, ds, rfl, sm, hs, hr, ok, q⟩ := h
  obtain ⟨its, rv, hl, hz⟩ := I.list hs
  rw [Vals.ref1 r]
  unfold sortOk at ok
  rw [Bool.and_eq_true, Bool.and_eq_true] at ok
  obtain ⟨⟨ok1, ok2⟩, ok3⟩ := ok
  have e0 := each_of (G := G) (P := fun _ _ _ => True) (fun _ _ _ _ _ => trivial) hr rv
  have e1 : PySem.W.EachIs (fun u d => ∃ as, Reads s.heap u (toP d) as) its ds := EachIs.imp e0 fun u d hd ⟨v, r1, r2⟩ => by
    have o := List.all_eq_true.mp ok3 d hd
    exact Dp.reads I (toP d) v u ((r2.mono sm).dp hK (SeqAt.canLay_of_shaped o)) r1
  have ln : ds.length ≤ sizeLine := by have := hr.length; omega
  refine PySem.W.sorted_data (R := fun u d => ∃ v, RelV v u ∧ Rep G Hm d v) hl.isList e0 e1 (alikeB_ok ok1) (sortB_ok ok2) ln (fun b hb => ?_) fun out l1 l2 => ?_
  · have := SeqAt.depth_of_shaped (List.all_eq_true.mp ok3 b hb)
    omega
  · obtain ⟨ys, q1, q2⟩ := each_back l2
    obtain ⟨ep, he'⟩ := PyProof.Rows.sortedAll_at s.heap its out.toArray
    refine ⟨.ref _, upd H (s.heap.objs.size + 1) (.lst ys), I.laid (t' := s.toks) (fun _ _ => PyProof.Rows.sortedAll_old) (Nat.le_succ _) ⟨?_, out, ep, q2, he'⟩, rfl, q _ _ q1 (I.hok.fresh (Nat.le_succ _))⟩
    have := q2.length
    omega
theorem cr_sortG (hu : X.A.units + 66 < cLine) (hK : G.K = X.K := by rfl) : CallR X (.builtin "sorted") (cDat G sortedD) := by
  refine CallR.imp (cr_sortD (G := G) hu hK) fun xs H Q q => ?_
  obtain ⟨Hm, ds, r, s, h, e, w⟩ := q
  match ds, h, e with
  | [.lst ds], h, e =>
    obtain ⟨v, rfl, k⟩ := cd1 h
    obtain ⟨a, vs, rfl, r1, q1⟩ := k.lst s
    have e : (if sortOk ds = true then some (⟨.lst (sortL ds), true⟩ : R) else none) = some r := e
    by_cases c : sortOk ds = true
    · rw [if_pos c] at e
      cases e
      exact ⟨Hm, a, vs, ds, rfl, s, hK ▸ r1, q1, c, fun ys p hy hp => w _ _ (ResH.lst hp hy)⟩
    · rw [if_neg c] at e; cases e
end
/-! ## isinstance -/
def tyD : D → String
  | .non => "NoneType"
  | .bl _ => "bool"
  | .int _ => "int"
  | .str _ => "str"
  | .lst _ => "list"
  | .tup _ => "tuple"
  | .dic _ => "dict"
  | .obj _ _ => ""
  | .con _ => ""
def isT (T : String) (d : D) : Bool := tyD d == T || (tyD d == "bool" && T == "int")
def noObj : D → Bool
  | .obj _ _ => false
  | .con _ => false
  | _ => true
def isiD (T : String) (d : D) : Option R := if noObj d = true then rb (isT T d) else none
/-- T is a class whose answers are as isT says -/
def IsiOk (T : String) : Prop := ∀ d, noObj d = true → kitB (tyD d) T = some (isT T d)
def tys : List String := ["NoneType", "bool", "int", "str", "list", "tuple", "dict"]
theorem tys_mem {d : D} (h : noObj d = true) : tyD d ∈ tys := by
  cases d with
  | obj _ _ => cases h
  | con _ => cases h
  | non => exact List.mem_cons_self ..
  | bl _ => exact List.mem_cons_of_mem _ (List.mem_cons_self ..)
  | int _ => exact List.mem_cons_of_mem _ (List.mem_cons_of_mem _ (List.mem_cons_self ..))
  | str _ => exact List.mem_cons_of_mem _ (List.mem_cons_of_mem _ (List.mem_cons_of_mem _ (List.mem_cons_self ..)))
  | lst _ => exact List.mem_cons_of_mem _ (List.mem_cons_of_mem _ (List.mem_cons_of_mem _ (List.mem_cons_of_mem _ (List.mem_cons_self ..))))
  | tup _ => exact List.mem_cons_of_mem _ (List.mem_cons_of_mem _ (List.mem_cons_of_mem _ (List.mem_cons_of_mem _ (List.mem_cons_of_mem _ (List.mem_cons_self ..)))))
  | dic _ => exact List.mem_cons_of_mem _ (List.mem_cons_of_mem _ (List.mem_cons_of_mem _ (List.mem_cons_of_mem _ (List.mem_cons_of_mem _ (List.mem_cons_of_mem _ (List.mem_cons_self ..))))))
theorem isi_of {T : String} (h : ∀ t ∈ tys, kitB t T = some (t == T || (t == "bool" && T == "int"))) : IsiOk T := fun d o => h _ (tys_mem o)
theorem isi_int : IsiOk "int" := isi_of (by decide +kernel)
theorem isi_bool : IsiOk "bool" := isi_of (by decide +kernel)
theorem isi_list : IsiOk "list" := isi_of (by decide +kernel)
theorem isi_tuple : IsiOk "tuple" := isi_of (by decide +kernel)
section
variable {X : Cx} {G : GC} {W : WX} {Hm H : Hp} {x : Str} {p p2 pos : Pos} {e : Expr} {fo : M O} {T : String} {y : Str}
theorem tyX_of {K : PySem.W.Frag} {v : V} {d : D} (hK : G.K = K) (s : Same Hm H) (h : RepR G Hm H v d) (n : noObj d = true) : TyX K H v (.type (tyD d)) := by
  cases d with
  | non => rw [h.non]; exact .base .non
  | bl b => rw [h.bl]; exact .base (.bl b)
  | int i => rw [h.int]; exact .base (.int i)
  | str x => rw [h.str]; exact .base (.str x)
  | lst ds =>
    obtain ⟨a, vs, rfl, r, _⟩ := h.lst s
    subst hK
    rcases r with (r | ⟨o, r⟩) | ⟨o, its, n, r, c, _⟩
    · exact .base (.lst r)
    · exact .base (.frz r)
    · exact .kList r c
  | tup ds =>
    obtain ⟨a, vs, rfl, r, _⟩ := h.tup s
    subst hK
    rcases r with (r | ⟨o, r⟩) | ⟨o, its, n, r, c, _⟩
    · exact .base (.tup r)
    · exact .fTuple r
    · exact .kTuple r c
  | dic ks =>
    obtain ⟨a, vs, rfl, r, _⟩ := h.dic s
    rcases r with r | ⟨o, r⟩
    · exact .base (.dK r)
    · exact .fDict r
  | obj c fs => cases n
  | con ns => cases n
theorem de_isi (ok : IsiOk T) (hg : Gl X "isinstance") (hm : X.mg "isinstance" = none) (hgT : Gl X y) (hmT : X.mg y = none) (hvT : bootBuiltins y = some (.type T)) (ha : OE X G W e fo) (hK : G.K = X.K := by rfl) (hn : y ≠ "__name__" := by decide) (hdb : (y == ("__debug__" : Str)) = false := by decide)
    (he : starEach [e, .Name y p2] X.env = (false, eval e X.env) :: starEach [.Name y p2] X.env := by rfl) (he2 : starEach [.Name y p2] X.env = (false, eval (.Name y p2) X.env) :: starEach [] X.env := by rfl)
    (hpl : (backTo pos (starEach [.Name y p2] X.env)).any (·.1) = false := by rfl) : DE X G W (.Call (.Name "isinstance" p) [e, .Name y p2] [] pos) (fUn (isiD T) fo) := by
  obtain ⟨t, pa, ht⟩ := ha.ex
  have p1 : PA X [e, .Name y p2] (tCons t (tCons (tC (.ty T)) tNil)) := pa_cons pa (pa_cons (pe_bltn hgT hmT hvT rfl hn hdb) pa_nil he2) he
  refine ⟨_, pe_callB call_isi hg hm PyProof.Rows.boot_isinstance p1 (by decide) (by decide) he hpl, fun E σ ρ Hm H Q re h => ?_⟩
  refine ht E σ ρ Hm H _ re (h.bind fun oa ρ1 x Hm1 H1 _ re1 s1 r1 h1 => ?_)
  obtain ⟨Hm', d, r, sm, rp, ed, w⟩ := lift1_ok re1 r1 h1
  have ed : (if noObj d = true then rb (isT T d) else none) = some r := ed
  by_cases c : noObj d = true
  · rw [if_pos c] at ed
    refine ⟨x, .ty T, _, _, isT T d, rfl, .ty T, tyX_of hK sm rp c, kit_ty (ok d c), w _ _ ?_⟩
    rw [rb_some ed]
    exact ResH.bl
  · rw [if_neg c] at ed; cases ed
end
end DL
set_option Elab.async false
set_option linter.all false
set_option maxRecDepth 100000
namespace DL
open PySem PySem.Spec PyProof.Rows L2
/-! ## methods of lists -/
def chkT (T : String) (a : O) : M Unit := fun ρ => match resO ρ a with
  | some d => gd (tyD d == T) (M.pure ()) ρ
  | none => .bad
def liftM (g : D → List D → Option R) (a : O) (os : List O) : M R := fun ρ => match resO ρ a, resOs ρ os with
  | some d, some ds => (match g d ds with | some r => .ok r ρ | none => .bad)
  | _, _ => .bad
def fMeth (T : String) (g : D → List D → Option R) (fo : M O) (fs : M (List O)) : M R := M.bind fo fun a => M.bind (chkT T a) fun _ => M.bind fs fun os => liftM g a os
def mDat (G : GC) (g : D → List D → Option R) : V → List V → Hp → VK → Prop := fun x vs H Q => ∃ Hm d ds r, Same Hm H ∧ RepR G Hm H x d ∧ Paired (RepR G Hm H) vs ds ∧ g d ds = some r ∧ ∀ v H', ResH G Hm H H' v r → Q v H'
section
variable {X : Cx} {G : GC} {W : WX} {Hm H : Hp}
theorem MtR.imp {id : String} {r r' : V → List V → Hp → VK → Prop} (h : MtR X id r) (i : ∀ x xs H Q, r' x xs H Q → r x xs H Q) : MtR X id r' := fun pins s σ H x xs v us Q I rx rs q => h pins s σ H x xs v us Q I rx rs (i x xs H Q q)
theorem liftM_ok {E : Ent} {σ : L2.St} {ρ : List S} {Hm H : Hp} {Q : V → Hp → Prop} {g : D → List D → Option R} {a : O} {os : List O} {x : V} {vs : List V} (re : RE G E σ ρ Hm H) (h0 : OOk G σ Hm x a) (ha : OOks G σ Hm vs os)
    (h : Sat G E W σ Hm (fun r ρ' Hm' H' v => ROk G E σ ρ' Hm' H' v r) Q (liftM g a os ρ)) : mDat G g x vs H Q := by
  unfold liftM at h
  cases e0 : resO ρ a with
  | none => rw [e0] at h; exact h.elim
  | some d =>
    cases e1 : resOs ρ os with
    | none => rw [e0, e1] at h; exact h.elim
    | some ds =>
      rw [e0, e1] at h
      simp only at h
      cases e3 : g d ds with
      | none => rw [e3] at h; exact h.elim
      | some r =>
        rw [e3] at h
        refine ⟨Hm, d, ds, r, re.sub, resO_ok re h0 e0, resOs_ok re ha e1, e3, fun v H' q => ?_⟩
        obtain ⟨r1, r2⟩ := q.ok re
        exact h v Hm H' r1 (Same.refl _) r2
theorem gd_ok {α : Type} {c : Bool} {m : M α} {ρ : List S} {β : Type} {E : Ent} {σ : L2.St} {rel : α → List S → Hp → Hp → β → Prop} {Q : β → Hp → Prop} (h : Sat G E W σ Hm rel Q (gd c m ρ)) : c = true ∧ Sat G E W σ Hm rel Q (m ρ) := by
  cases c with
  | true => exact ⟨rfl, h⟩
  | false => exact h.elim
theorem tyV_list {v : V} {d : D} (hK : G.K = X.K) (s : Same Hm H) (h : RepR G Hm H v d) (e : (tyD d == "list") = true) : tyV X.K "list" v H := by
  cases d with
  | lst ds =>
    obtain ⟨a, vs, rfl, r, _⟩ := h.lst s
    exact .inl ⟨rfl, vs, hK ▸ r⟩
  | non => exact absurd (show (("NoneType" : String) == "list") = true from e) (by decide)
  | bl _ => exact absurd (show (("bool" : String) == "list") = true from e) (by decide)
  | int _ => exact absurd (show (("int" : String) == "list") = true from e) (by decide)
  | str _ => exact absurd (show (("str" : String) == "list") = true from e) (by decide)
  | tup _ => exact absurd (show (("tuple" : String) == "list") = true from e) (by decide)
  | dic _ => exact absurd (show (("dict" : String) == "list") = true from e) (by decide)
  | obj _ _ => exact absurd (show (("" : String) == "list") = true from e) (by decide)
  | con _ => exact absurd (show (("" : String) == "list") = true from e) (by decide)
theorem chkT_ok {α β : Type} {T : String} {a : O} {x : V} {E : Ent} {σ : L2.St} {ρ : List S} {Hm H : Hp} {k : Unit → M α} {rel : α → List S → Hp → Hp → β → Prop} {Q : β → Hp → Prop} (re : RE G E σ ρ Hm H) (h0 : OOk G σ Hm x a)
    (h : Sat G E W σ Hm rel Q (M.bind (chkT T a) k ρ)) : ∃ d, RepR G Hm H x d ∧ (tyD d == T) = true ∧ Sat G E W σ Hm rel Q (k () ρ) := by
  unfold M.bind chkT at h
  cases e : resO ρ a with
  | none => rw [e] at h; exact h.elim
  | some d =>
    rw [e] at h
    cases c : (tyD d == T) with
    | false => simp only [c] at h; exact h.elim
    | true =>
      simp only [c] at h
      exact ⟨d, resO_ok re h0 e, c, h⟩
variable {o e : Expr} {es : List Expr} {fo : M O} {fs : M (List O)} {name : Str} {apos cpos : Pos} {id : String} {g : D → List D → Option R}
theorem de_lm (slot : Slot "list" name id) (hty : typeOf (.builtin id) = pure (.type "method_descriptor")) (hm : MtR X id (mDat G g)) (ho : OE X G W o fo) (ha : AE X G W (e :: es) fs) (hK : G.K = X.K := by rfl)
    (hbase : attributeBase o name X.env (eval o X.env) = eval o X.env := by rfl)
    (hfew : ((backTo cpos (starEach (e :: es) X.env)).all (fun x => !x.1) && (backToKw cpos (keywordEach [] X.env)).all (fun x => x.1.isSome)
      && decide ((e :: es).length + ([] : List Keyword).length + (if ([] : List Keyword).isEmpty then 0 else 1) < 30)) = true := by rfl)
    (hline : (apos.endLine == cpos.line) = true := by rfl) (hs : starEach (e :: es) X.env = (false, eval e X.env) :: starEach es X.env := by rfl) (hplain : (backTo cpos (starEach es X.env)).any (·.1) = false := by rfl) :
    DE X G W (.Call (.Attribute o name apos) (e :: es) [] cpos) (fMeth "list" g fo fs) := by
  obtain ⟨to, po, hto⟩ := ho.ex
  obtain ⟨t, pa, hta⟩ := ha.ex
  refine ⟨_, pe_bm PySem.F.plainAttrs_list slot hty hm po pa hbase hfew hline hs hplain, fun E σ ρ Hm H Q re h => ?_⟩
  unfold fMeth at h
  refine hto E σ ρ Hm H _ re (h.bind fun oa ρ1 x Hm1 H1 _ re1 s1 r1 h1 => ?_)
  obtain ⟨d, rd, ty, h2⟩ := chkT_ok re1 r1 h1
  refine ⟨tyV_list hK re1.sub rd ty, ?_⟩
  exact hta E σ ρ1 Hm1 H1 _ re1 (h2.bind fun os ρ2 vs Hm2 H2 _ re2 s2 r2 h3 => liftM_ok re2 (r1.mono s2) r2 h3)
def countD : D → List D → Option R
  | .lst xs, [.int k] => (intsD xs).bind fun ns => ri (ns.count k : Nat)
  | _, _ => none
def indexD : D → List D → Option R
  | .lst xs, [d] => if okP (.lst xs) = true ∧ okP d = true then ((toPs xs).findIdx? fun z => PyData.eqv z (toP d)).bind fun j => ri (j : Nat) else none
  | _, _ => none
theorem mt_countG (hK : G.K = X.K := by rfl) : MtR X "list.count" (mDat G countD) := by
  refine MtR.imp mt_lcount fun x xs H Q q => ?_
  obtain ⟨Hm, d, ds, r, s, h0, h, e, w⟩ := q
  unfold countD at e
  split at e
  · rename_i xs k
    obtain ⟨v, rfl, kk⟩ := cd1 h
    cases q : intsD xs with
    | none => rw [q] at e; cases e
    | some ns =>
      rw [q] at e
      obtain ⟨a, rfl, r1⟩ := ints_at (X := X) hK s h0 q
      exact ⟨a, ns, k, rfl, by rw [kk.int], r1, w _ _ (by rw [ri_some (i := (ns.count k : Nat)) e]; exact ResH.int)⟩
  · cases e
theorem mt_indexG (hu : X.A.units + 65 < cLine) (hK : G.K = X.K := by rfl) : MtR X "list.index" (mDat G indexD) := by
  refine MtR.imp (mt_indexD hu) fun x xs H Q q => ?_
  obtain ⟨Hm, d, ds, r, s, h0, h, e, w⟩ := q
  unfold indexD at e
  split at e
  rotate_left
  · cases e
  · rename_i xs d
    obtain ⟨v, rfl, kk⟩ := cd1 h
    by_cases c : okP (.lst xs) = true ∧ okP d = true
    · rw [if_pos c] at e
      cases q : (toPs xs).findIdx? fun z => PyData.eqv z (toP d) with
      | none => rw [q] at e; cases e
      | some j =>
        rw [q] at e
        have D1 := okP.dp hK s h0 c.1
        have D2 := okP.dp hK s kk c.2
        obtain ⟨a, vs, rfl, _, _⟩ := h0.lst s
        rw [List.findIdx?_eq_some_iff_getElem] at q
        obtain ⟨hj, hj2, hno⟩ := q
        refine ⟨a, v, toP d, toPs xs, j, (toPs xs)[j], rfl, rfl, by have := D1; unfold toP at this; exact this, D2, by have := c.1; unfold okP toP at this; exact this, c.2, List.getElem?_eq_getElem hj, hj2, fun m z' hm hz => ?_, w _ _ (by rw [ri_some (i := (j : Nat)) e]; exact ResH.int)⟩
        obtain ⟨hm2, e2⟩ := List.getElem?_eq_some_iff.mp hz
        have := hno m hm
        rw [e2] at this
        simpa using this
    · rw [if_neg c] at e; cases e
/-! ## changes of a name's own object -/
theorem RE.updOwn {E : Ent} {σ : L2.St} {ρ : List S} {Hm H : Hp} {i : Nat} {p : Addr} {s : S} {o' : HO} {d' : D} (re : RE G E σ ρ Hm H) (hi : ρ[i]? = some s) (os : isOwn s = true) (e : σ[i]? = some (some (.ref p))) (tp : Top G Hm o' d') :
    RE G E σ (ρ.set i (.own d')) Hm (upd H p o') := by
  obtain ⟨p', ob, e', n, t, z⟩ := (re.sl i s hi).own os
  rw [e] at e'; cases e'
  have hl : i < ρ.length := (List.getElem?_eq_some_iff.mp hi).1
  refine ⟨fun b x q => ?_, by rw [List.length_set]; exact re.len, fun j t' hj => ?_, fun j k s1 t1 q hjk hj hk o1 o2 e1 e2 => ?_, re.fix, fun a x q n' => ?_, re.mono, re.frsh⟩
  · rw [upd_ne (ne_of_none q n)]; exact re.sub b x q
  · by_cases hij : i = j
    · subst hij
      rw [List.getElem?_set_self hl] at hj
      cases hj
      exact ⟨p, o', e, n, upd_same, tp, z⟩
    · rw [List.getElem?_set_ne hij] at hj
      have h := re.sl j t' hj
      cases t' with
      | un => trivial
      | val d => exact h
      | own d =>
        obtain ⟨q, ob2, e2, n2, t2, tp2, z2⟩ := h
        have : q ≠ p := fun w => by subst w; exact re.sep i j _ _ q hij hi hj os rfl e e2
        exact ⟨q, ob2, e2, n2, by rw [upd_ne this]; exact t2, tp2, z2⟩
  · have was : ∀ (m : Nat) (u : S), (ρ.set i (.own d'))[m]? = some u → isOwn u = true → ∃ u', ρ[m]? = some u' ∧ isOwn u' = true := fun m u hm om => by
      by_cases h : i = m
      · subst h; exact ⟨s, hi, os⟩
      · rw [List.getElem?_set_ne h] at hm; exact ⟨u, hm, om⟩
    obtain ⟨u1, k1, k2⟩ := was j s1 hj o1
    obtain ⟨u2, k3, k4⟩ := was k t1 hk o2
    exact re.sep j k u1 u2 q hjk k1 k3 k2 k4 e1 e2
  · have : a ≠ p := fun w => by
      subst w
      rcases z with w | w
      · rw [w] at q; cases q
      · exact n' w
    rw [upd_ne this]; exact re.pres a x q n'
def rMut (G : GC) (g : D → List D → Option (D × D)) : V → List V → Hp → VK → Prop := fun x vs H Q => ∃ Hm p o d ds r, x = V.ref p ∧ H p = some o ∧ Top G Hm o d ∧ Reps G Hm ds vs ∧ g d ds = some r ∧ Same Hm H ∧
  ∀ v o', Top G Hm o' r.1 → Rep G Hm r.2 v → Q v (upd H p o')
def mutS (g : D → List D → Option (D × D)) (i : Nat) (os : List O) : M R := fun ρ => match ρ[i]?, valsOf os with
  | some (.own d), some ds => (match g d ds with | some r => .ok ⟨r.2, false⟩ (ρ.set i (.own r.1)) | none => .bad)
  | _, _ => .bad
def fMut (T : String) (g : D → List D → Option (D × D)) (i : Nat) (fs : M (List O)) : M R := M.bind (chkT T (.r i)) fun _ => M.bind fs fun os => mutS g i os
theorem mutS_ok {E : Ent} {σ : L2.St} {ρ : List S} {Hm H : Hp} {i : Nat} {x : V} {vs : List V} {os : List O} {g : D → List D → Option (D × D)} {Q : V → Hp → Prop} (re : RE G E σ ρ Hm H) (hx : σ[i]? = some (some x)) (ha : OOks G σ Hm vs os)
    (h : Sat G E W σ Hm (fun r ρ' Hm' H' v => ROk G E σ ρ' Hm' H' v r) Q (mutS g i os ρ)) : rMut G g x vs H Q := by
  unfold mutS at h
  cases e0 : ρ[i]? with
  | none => rw [e0] at h; exact h.elim
  | some s =>
    rw [e0] at h
    cases s with
    | un => exact h.elim
    | val d => exact h.elim
    | own d =>
      cases e1 : valsOf os with
      | none => rw [e1] at h; exact h.elim
      | some ds =>
        rw [e1] at h
        simp only at h
        cases e2 : g d ds with
        | none => rw [e2] at h; exact h.elim
        | some r =>
          rw [e2] at h
          obtain ⟨p, o, e3, n, t, tp, z⟩ := re.sl i _ e0
          rw [hx] at e3; cases e3
          exact ⟨Hm, p, o, d, ds, r, rfl, t, tp, valsOf_ok ha e1, e2, re.sub, fun v o' t' rv => h v Hm _ (re.updOwn e0 rfl hx t') (Same.refl _) rv⟩
theorem chkT_has {α β : Type} {T : String} {i : Nat} {E : Ent} {σ : L2.St} {ρ : List S} {Hm H : Hp} {k : Unit → M α} {rel : α → List S → Hp → Hp → β → Prop} {Q : β → Hp → Prop} (re : RE G E σ ρ Hm H) (h : Sat G E W σ Hm rel Q (M.bind (chkT T (.r i)) k ρ)) : ∃ v, σ[i]? = some (some v) := by
  unfold M.bind chkT resO at h
  cases e : ρ[i]? with
  | none => simp only [e] at h; exact h.elim
  | some s =>
    refine re.has e ?_
    rintro rfl
    simp only [e] at h
    exact h.elim
theorem de_lmut {i : Nat} {g : D → List D → Option (D × D)} (slot : Slot "list" name id) (hty : typeOf (.builtin id) = pure (.type "method_descriptor")) (hm : MtR X id (rMut G g)) (ho : PE X o (tVar i)) (ha : AE X G W (e :: es) fs) (hK : G.K = X.K := by rfl)
    (hbase : attributeBase o name X.env (eval o X.env) = eval o X.env := by rfl)
    (hfew : ((backTo cpos (starEach (e :: es) X.env)).all (fun x => !x.1) && (backToKw cpos (keywordEach [] X.env)).all (fun x => x.1.isSome)
      && decide ((e :: es).length + ([] : List Keyword).length + (if ([] : List Keyword).isEmpty then 0 else 1) < 30)) = true := by rfl)
    (hline : (apos.endLine == cpos.line) = true := by rfl) (hs : starEach (e :: es) X.env = (false, eval e X.env) :: starEach es X.env := by rfl) (hplain : (backTo cpos (starEach es X.env)).any (·.1) = false := by rfl) :
    DE X G W (.Call (.Attribute o name apos) (e :: es) [] cpos) (fMut "list" g i fs) := by
  obtain ⟨t, pa, hta⟩ := ha.ex
  refine ⟨_, pe_bm PySem.F.plainAttrs_list slot hty hm ho pa hbase hfew hline hs hplain, fun E σ ρ Hm H Q re h => ?_⟩
  unfold fMut at h
  obtain ⟨v, hv⟩ := chkT_has re h
  obtain ⟨d, rd, ty, h2⟩ := chkT_ok re (show OOk G σ Hm v (.r i) from hv) h
  refine ⟨v, hv, tyV_list hK re.sub rd ty, ?_⟩
  exact hta E σ ρ Hm H _ re (h2.bind fun os ρ2 vs Hm2 H2 _ re2 s2 r2 h3 => mutS_ok re2 hv r2 h3)
theorem de_lmut0 {i : Nat} {g : D → List D → Option (D × D)} (slot : Slot "list" name id) (hty : typeOf (.builtin id) = pure (.type "method_descriptor")) (hm : MtR X id (rMut G g)) (ho : PE X o (tVar i)) (hK : G.K = X.K := by rfl)
    (hbase : attributeBase o name X.env (eval o X.env) = eval o X.env := by rfl) (hline : (apos.endLine == cpos.line) = true := by rfl) :
    DE X G W (.Call (.Attribute o name apos) [] [] cpos) (fMut "list" g i nilA) := by
  refine ⟨_, pe_bm0 PySem.F.plainAttrs_list slot hty hm ho hbase hline, fun E σ ρ Hm H Q re h => ?_⟩
  unfold fMut at h
  obtain ⟨v, hv⟩ := chkT_has re h
  obtain ⟨d, rd, ty, h2⟩ := chkT_ok re (show OOk G σ Hm v (.r i) from hv) h
  refine ⟨v, hv, tyV_list hK re.sub rd ty, ?_⟩
  exact mutS_ok (os := []) (vs := []) re hv .nil h2
def appD : D → List D → Option (D × D)
  | .lst xs, [y] => if xs.length < sizeD then some (.lst (xs ++ [y]), .non) else none
  | _, _ => none
def popD : D → List D → Option (D × D)
  | .lst xs, [] => xs[xs.length - 1]?.map fun y => (.lst xs.dropLast, y)
  | .lst xs, [.int i] => if -(2 ^ 63) ≤ i ∧ i < 2 ^ 63 then (seqIndex? i xs.length).bind fun k => xs[k]?.map fun y => (.lst (xs.eraseIdx k), y) else none
  | _, _ => none
def revM : D → List D → Option (D × D)
  | .lst xs, [] => some (.lst xs.reverse, .non)
  | _, _ => none
def clrD : D → List D → Option (D × D)
  | .lst xs, [] => some (.lst [], .non)
  | _, _ => none
theorem Rep.none_ {Hm : Hp} : Rep G Hm .non .non := by unfold Rep; rfl
theorem reps1 {d : D} {vs : List V} (h : Reps G Hm [d] vs) : ∃ v, vs = [v] ∧ Rep G Hm d v := by
  unfold Reps at h
  obtain ⟨w, ws, rfl, h1, h2⟩ := h
  unfold Reps at h2
  subst h2
  exact ⟨w, rfl, h1⟩
theorem mt_app : MtR X "list.append" (rMut G appD) := by
  refine MtR.imp mt_append fun x vs H Q q => ?_
  obtain ⟨Hm, p, o, d, ds, r, rfl, hp, tp, hr, e, s, w⟩ := q
  match d, ds, tp, hr, e with
  | .lst xs, [y], tp, hr, e =>
    obtain ⟨v, rfl, ry⟩ := reps1 hr
    obtain ⟨ws, rfl, rw'⟩ := tp
    have e : (if xs.length < sizeD then some ((.lst (xs ++ [y]), .non) : D × D) else none) = some r := e
    by_cases c : xs.length < sizeD
    · rw [if_pos c] at e
      cases e
      exact ⟨p, ws, v, rfl, rfl, hp, by rw [rw'.length, sizeD_eq]; exact c, w _ _ ⟨_, rfl, rw'.append (Reps.cons ry Reps.nil)⟩ Rep.none_⟩
    · rw [if_neg c] at e; cases e
theorem Reps.dropLast {ds : List D} {vs : List V} (h : Reps G H ds vs) : Reps G H ds.dropLast vs.dropLast := by
  rw [List.dropLast_eq_take, List.dropLast_eq_take, h.length]
  exact h.take _
theorem Reps.eraseIdx {ds : List D} {vs : List V} (h : Reps G H ds vs) (k : Nat) : Reps G H (ds.eraseIdx k) (vs.eraseIdx k) := by
  rw [List.eraseIdx_eq_take_drop_succ, List.eraseIdx_eq_take_drop_succ]
  exact (h.take _).append (h.drop _)
theorem mt_popG : MtR X "list.pop" (rMut G popD) := by
  refine MtR.imp (MtR.or mt_pop mt_popAt) fun x vs H Q q => ?_
  obtain ⟨Hm, p, o, d, ds, r, rfl, hp, tp, hr, e, s, w⟩ := q
  unfold popD at e
  split at e
  · rename_i xs
    obtain ⟨ws, rfl, rw'⟩ := tp
    unfold Reps at hr
    subst hr
    cases q : xs[xs.length - 1]? with
    | none => rw [q] at e; cases e
    | some y =>
      rw [q] at e
      cases e
      obtain ⟨v, e1, rv⟩ := rw'.get' q
      exact .inl ⟨p, ws, v, rfl, rfl, hp, by rw [rw'.length]; exact e1, w _ _ ⟨_, rfl, rw'.dropLast⟩ rv⟩
  rotate_left
  · cases e
  · rename_i xs i
    obtain ⟨ws, rfl, rw'⟩ := tp
    obtain ⟨v, rfl, ry⟩ := reps1 hr
    unfold Rep at ry
    subst ry
    by_cases c : -(2 ^ 63) ≤ i ∧ i < 2 ^ 63
    · rw [if_pos c] at e
      cases q : seqIndex? i xs.length with
      | none => rw [q] at e; cases e
      | some k =>
        rw [q] at e
        simp only [Option.bind_some] at e
        cases q2 : xs[k]? with
        | none => rw [q2] at e; cases e
        | some y =>
          rw [q2] at e
          cases e
          obtain ⟨v, e1, rv⟩ := rw'.get' q2
          exact .inr ⟨p, ws, i, k, v, rfl, rfl, hp, c.1, c.2, by rw [rw'.length]; exact q, e1, w _ _ ⟨_, rfl, rw'.eraseIdx k⟩ rv⟩
    · rw [if_neg c] at e; cases e
theorem mt_clrG : MtR X "list.clear" (rMut G clrD) := by
  refine MtR.imp mt_clear fun x vs H Q q => ?_
  obtain ⟨Hm, p, o, d, ds, r, rfl, hp, tp, hr, e, s, w⟩ := q
  match d, ds, tp, hr, e with
  | .lst xs, [], tp, hr, e =>
    obtain ⟨ws, rfl, rw'⟩ := tp
    unfold Reps at hr
    subst hr
    cases e
    exact ⟨p, ws, rfl, rfl, hp, w _ _ ⟨_, rfl, Reps.nil⟩ Rep.none_⟩
theorem mt_revG : MtR X "list.reverse" (rMut G revM) := by
  refine MtR.imp mt_reverse fun x vs H Q q => ?_
  obtain ⟨Hm, p, o, d, ds, r, rfl, hp, tp, hr, e, s, w⟩ := q
  match d, ds, tp, hr, e with
  | .lst xs, [], tp, hr, e =>
    obtain ⟨ws, rfl, rw'⟩ := tp
    unfold Reps at hr
    subst hr
    cases e
    exact ⟨p, ws, rfl, rfl, hp, w _ _ ⟨_, rfl, rw'.reverse⟩ Rep.none_⟩
end
/-! ## xs[i] = e, xs[i] += e, x += e -/
/-- own list at name i, place k -/
def putS (i : Nat) (k : D) (d : D) : M Fl := fun ρ => match ρ[i]?, k with
  | some (.own (.lst xs)), .int z => (match ixN xs.length z with | some j => .ok .next (ρ.set i (.own (.lst (xs.set j d)))) | none => .bad)
  | _, _ => .bad
def shareD (f : M R) : M D := M.bind f fun r => M.pure r.d
def sPut (i : Nat) (fk fe : M R) : M Fl := M.bind (shareD fe) fun d => M.bind (chkT "list" (.r i)) fun _ => M.bind (shareD fk) fun k => putS i k d
section
variable {X : Cx} {G : GC} {W : WX} {fx : List Nat}
theorem putS_ok {E : Ent} {σ : L2.St} {ρ : List S} {Hm H : Hp} {i : Nat} {x y z : V} {k d : D} {D : Ends} (re : RE G E σ ρ Hm H) (hx : σ[i]? = some (some x)) (hk : Rep G Hm k y) (hd : Rep G Hm d z) (h : SatS G E W Hm D (putS i k d ρ)) :
    rSetL x y z H fun H' => D.nx σ H' := by
  unfold putS at h
  cases e0 : ρ[i]? with
  | none => rw [e0] at h; exact h.elim
  | some s =>
    rw [e0] at h
    cases s with
    | un => exact h.elim
    | val _ => exact h.elim
    | own d0 =>
      cases d0 with
      | lst xs =>
        cases k with
        | int n =>
          simp only at h
          cases e1 : ixN xs.length n with
          | none => rw [e1] at h; exact h.elim
          | some j =>
            rw [e1] at h
            obtain ⟨p, o, e3, nn, t, ⟨vs, rfl, rv⟩, w⟩ := re.sl i _ e0
            rw [hx] at e3; cases e3
            unfold Rep at hk
            subst hk
            exact ⟨p, vs, n, j, rfl, rfl, t, by rw [rv.length]; exact e1, h σ Hm _ (re.updOwn e0 rfl hx ⟨_, rfl, rv.set hd j⟩) (Same.refl _)⟩
        | _ => exact h.elim
      | _ => exact h.elim
theorem de_share {e : Expr} {f : M R} (h : DE X G W e f) : ∃ t, PE X e t ∧ ∀ E σ ρ Hm H Q, RE G E σ ρ Hm H → Sat G E W σ Hm (fun d ρ' Hm' H' v => Rep G Hm' d v) Q (shareD f ρ) → t σ H Q := by
  obtain ⟨t, p, q⟩ := h.ex
  refine ⟨t, p, fun E σ ρ Hm H Q re h => q E σ ρ Hm H Q re ?_⟩
  unfold shareD at h
  refine h.bind fun r ρ1 v Hm1 H1 e1 re1 s1 r1 h1 => ?_
  obtain ⟨Hm', re2, s2, rp⟩ := r1.share re1
  exact h1 v Hm' H1 re2 s2 rp
theorem chkS {T : String} {i : Nat} {E : Ent} {σ : L2.St} {ρ : List S} {Hm H : Hp} {k : Unit → M Fl} {D : Ends} (re : RE G E σ ρ Hm H) (h : SatS G E W Hm D (M.bind (chkT T (.r i)) k ρ)) : (∃ v, σ[i]? = some (some v)) ∧ SatS G E W Hm D (k () ρ) := by
  unfold M.bind chkT resO at h
  cases e : ρ[i]? with
  | none => simp only [e] at h; exact h.elim
  | some s =>
    simp only [e] at h
    cases s with
    | un => exact h.elim
    | val d =>
      refine ⟨re.has e (by intro z; cases z), ?_⟩
      cases c : (tyD d == T) with
      | false => simp only [c] at h; exact h.elim
      | true => simp only [c] at h; exact h
    | own d =>
      refine ⟨re.has e (by intro z; cases z), ?_⟩
      cases c : (tyD d == T) with
      | false => simp only [c] at h; exact h.elim
      | true => simp only [c] at h; exact h
theorem ds_put {o ie e : Expr} {i : Nat} {fk fe : M R} {pos spos : Pos} (ho : PE X o (tVar i)) (hi : DE X G W ie fk) (he : DE X G W e fe)
    (ha : ∀ v, assign (.Subscript o ie pos) X.env v = (do
      let ov ← holding [v] (eval o X.env)
      let iv ← holding [v, ov] (eval ie X.env)
      standAt pos
      holding [v, ov, iv] (setItem ov iv v)
      release [v, ov, iv] []) := by intro _; rfl) (hs : swapsWithSole [.Subscript o ie pos] e spos.line X.env = pure false := by rfl) (hw : swappedStores [.Subscript o ie pos] e X.env = pure none := by rfl)
    (h1 : (assignEach [.Subscript o ie pos] X.env).map (·.2) = [assign (.Subscript o ie pos) X.env] := by rfl) : DS X G W fx (.Assign [.Subscript o ie pos] e spos) (sPut i fk fe) := by
  obtain ⟨te, pe, hte⟩ := de_share he
  obtain ⟨ti, pi, hti⟩ := de_share hi
  refine ⟨_, ps_asg pe (pg_sub ho pi set_list ha) hs hw h1, fun E σ ρ Hm H D ef re h => ?_⟩
  unfold sPut at h
  refine hte E σ ρ Hm H _ re (h.bind fun d ρ1 v Hm1 H1 e1 re1 s1 r1 h1 => ?_)
  obtain ⟨⟨x, hx⟩, h1⟩ := chkS re1 h1
  refine ⟨x, hx, ?_⟩
  exact hti E σ ρ1 Hm1 H1 _ re1 (h1.bind fun k ρ2 y Hm2 H2 e2 re2 s2 r2 h2 => putS_ok re2 hx r2 (Rep.mono s2 r1) h2)
/-! ### xs[i] op= e, ints -/
def rGetL (K : PySem.W.Frag) : V → V → Hp → VK → Prop := rIxL K
theorem get_list : PGet X (rGetL X.K) := by
  intro pins s σ H o i ov iv Q I ro ri h
  obtain ⟨p, xs, k, z, rfl, rfl, hq, he, q⟩ := h
  cases ro
  obtain ⟨t, rfl⟩ := ri
  obtain ⟨its, r, pl, hz⟩ := I.list hq
  obtain ⟨j, h1, h2, h3, h4, h5⟩ := atI_get he
  obtain ⟨w, ew, rw'⟩ := r.get h2
  have hl := r.length
  have hn := line63
  have fin : EP X pins σ Q w s := ⟨z, H, I, rw', q⟩
  by_cases h0 : 0 ≤ k
  · have hj : k.toNat = j := by
      rw [seqIndex_of h0 h5] at h1
      exact Option.some.inj h1
    exact wpAny_getItem_list pl.isList h0 (by omega) (by rw [hj]; simpa using ew) fin
  · have hj : (k + (its.toArray.size : Int)).toNat = j := by
      rw [seqIndex_neg (by omega) h4] at h1
      rw [List.size_toArray, ← hl]
      exact Option.some.inj h1
    exact wpAny_getItem_list_neg (Q := fun r s' => EP X pins σ Q r s') pl.isList (by omega) (by rw [List.size_toArray] <;> omega) (by omega) (by rw [hj]; simpa using ew) fin
end
end DL
set_option Elab.async false
set_option linter.all false
set_option maxRecDepth 100000
namespace DL
open PySem PySem.Spec PyProof.Rows L2
/-! ## list(enumerate(xs)) -/
section
variable {prog : Program} {w : World} {A : Around}
def EnSt (e it l S : Addr) (items : Array Value) (i : Nat) (h : Heap) : Prop :=
  h.IsListIter it l i ∧ h.IsList l items ∧ ((∃ old, IsEnum h e it i old) ∨ ∃ old T f oT, IsEnumHeld h e it i old T f ∧ h.get? T = some oT ∧ T ≠ e ∧ T ≠ it ∧ T ≠ S)
theorem en_next {e it l S : Addr} {items : Array Value} {i : Nat} {s : Shared} {Q : Option Value → Shared → Prop} {E : Value → Shared → Prop} (hei : e ≠ it) (hle : l ≠ e) (hli : l ≠ it) (hS : S < s.heap.objs.size) (st : EnSt e it l S items i s.heap) (hi : i < items.size)
    (hQ : ∀ h' x t, items[i]? = some x → EnSt e it l S items (i + 1) h' → h'.get? s.heap.objs.size = some { cls := .type "tuple", data := .seq #[.int (i : Int) t, x] } → (∀ b o, b ≠ e → b ≠ it → s.heap.get? b = some o → h'.get? b = some o) → s.heap.objs.size ≠ e → s.heap.objs.size ≠ it →
      Q (some (.ref s.heap.objs.size)) { s with heap := h', toks := s.toks + 1 }) : wpAny (model prog w) A (pyNext (.ref e)) Q E s := by
  obtain ⟨hit, hl, he⟩ := st
  have ex := Array.getElem?_eq_getElem hi
  have ec : ((i + 1 : Nat) : Int) = (i : Int) + 1 := by omega
  have nit : s.heap.objs.size ≠ it := let ⟨_, x, _⟩ := hit; Nat.ne_of_gt (Heap.lt_size x)
  rcases he with ⟨old, he⟩ | ⟨old, T, f, oT, he, hT, r1, r2, r3⟩
  · refine wpAny_pyNext_enum_item he hit hl ex hei fun h' ho hit' hT hsz hk => ?_
    refine hQ h' _ _ ex ⟨hit', hl.at fun o x => hk l o hle hli x, .inr ⟨_, s.heap.objs.size, false, _, (by rw [ec]; exact ho), hT, Nat.ne_of_gt (Heap.lt_size he), nit, Nat.ne_of_gt hS⟩⟩ hT hk (Nat.ne_of_gt (Heap.lt_size he)) nit
  · refine wpAny_pyNext_enum_item_held he hT r1 r2 hit hl ex hei fun h' ho hit' hT' hsz hk => ?_
    refine hQ h' _ _ ex ⟨hit', hl.at fun o x => hk l o hle hli x, .inr ⟨_, T, true, _, (by rw [ec]; exact ho), hk T _ r1 r2 hT, r1, r2, r3⟩⟩ hT' hk (Nat.ne_of_gt (Heap.lt_size he)) nit
theorem en_end {e it l S : Addr} {items : Array Value} {s : Shared} {Q : Option Value → Shared → Prop} {E : Value → Shared → Prop} (hh : A.handled = none) (st : EnSt e it l S items items.size s.heap)
    (hQ : ∀ h', (∀ b o, b ≠ it → s.heap.get? b = some o → h'.get? b = some o) → Q none { s with heap := h' }) : wpAny (model prog w) A (pyNext (.ref e)) Q E s := by
  obtain ⟨hit, hl, he⟩ := st
  rcases he with ⟨old, he⟩ | ⟨old, T, f, oT, he, hT, r1, r2, r3⟩
  · exact wpAny_pyNext_enum_end hh he hit hl (Array.getElem?_eq_none (Nat.le_refl _)) fun h' hx => hQ h' fun b o hb y => hx b o hb y
  · exact wpAny_pyNext_enum_end_held hh he hit hl (Array.getElem?_eq_none (Nat.le_refl _)) fun h' hx => hQ h' fun b o hb y => hx b o hb y
theorem en_no_len : typeLookup (.type "enumerate") "__len__" = pure none := PySem.am_miss_of_fast (by decide +kernel)
theorem en_no_hint : typeLookup (.type "enumerate") "__length_hint__" = pure none := PySem.am_miss_of_fast (by decide +kernel)
end
/-- the pairs are laid one by one, the list grows -/
def enW (S : Addr) (Q : Hp → Prop) : Nat → List V → List V → Hp → Prop
  | _, [], _, H => Q H
  | i, x :: xs, ts, H => ∀ T, H T = none → T ≠ S → enW S Q (i + 1) xs (ts ++ [.ref T]) (upd (upd H T (.tup [.int (i : Int), x])) S (.lst (ts ++ [.ref T])))
theorem upd2 {H : Hp} {a : Addr} {o o' : HO} : upd (upd H a o) a o' = upd H a o' := by
  funext b
  by_cases h : b = a
  · subst h; rw [upd_same, upd_same]
  · rw [upd_ne h, upd_ne h, upd_ne h]
section
variable {X : Cx} {pins : List (Addr × Obj)} {σ : L2.St}
theorem fpUpd {H : Hp} {b a : Addr} {o : HO} (h : FpOk X pins H b) (n : b ≠ a) : FpOk X pins (upd H a o) b := ⟨by rw [upd_ne n]; exact h.1, h.2⟩
theorem en_loop {A : Around} {e it l S : Addr} {items : List Value} {res : Value} {Q : Hp → Prop} (hh : A.handled = none) (hei : e ≠ it) (hle : l ≠ e) (hli : l ≠ it) (hSe : S ≠ e) (hSi : S ≠ it) (hSl : S ≠ l) :
    ∀ (xs : List V) (i : Nat) (s : Shared) (ts : List V) (H : Hp), Vals xs (items.drop i) → EnSt e it l S items.toArray i s.heap → L2.Inv X pins σ H s → H S = some (.lst ts) → FpOk X pins H e → FpOk X pins H it → ts.length + xs.length ≤ sizeLine → ts.length = i → i ≤ items.length →
    enW S Q i xs ts H →
    codeAny (model X.prog X.w) A (.builtin "list.extend.loop" ⟨[.ref S, .ref e, res], []⟩) (fun r s' => r = .ok (.ret res) ∧ ∃ H', L2.Inv X pins σ H' s' ∧ Q H') s := by
  intro xs
  induction xs with
  | nil =>
    intro i s ts H hv hst I hS fe fi hz ht hil hw
    have hn : items.length = i := by
      have := hv.length
      rw [List.length_nil, List.length_drop] at this
      omega
    have hst' : EnSt e it l S items.toArray items.toArray.size s.heap := by rw [List.size_toArray, hn]; exact hst
    refine codeAny_builtin F.entry_extend_loop ?_
    rw [Around.under_plainId F.plain_extend_loop _]
    show wpAny _ A.in1 (pyNext (.ref e) >>= _) _ _ s
    refine wpAny_bind (en_end (A := A.in1) hh hst' fun h' hm => ?_)
    refine wpAny_pure ⟨rfl, H, I.turnedL (t' := s.toks) (ch := [it]) (fun b o hb q => hm b o (fun z => hb (by simp [z])) q) (fun b hb => ?_), hw⟩
    have : b = it := by simpa using hb
    rw [this]; exact fi
  | cons x xs ih =>
    intro i s ts H hv hst I hS fe fi hz ht hil hw
    have hlt : i < items.length := by
      have := hv.length
      rw [List.length_cons, List.length_drop] at this
      omega
    have hd : items.drop i = items[i] :: items.drop (i + 1) := List.drop_eq_getElem_cons hlt
    rw [hd] at hv
    obtain ⟨hz1, its, n, rS, hlS, eS⟩ := I.lstM hS
    refine codeAny_builtin F.entry_extend_loop ?_
    rw [Around.under_plainId F.plain_extend_loop _]
    show wpAny _ A.in1 (pyNext (.ref e) >>= _) _ _ s
    refine wpAny_bind (en_next (A := A.in1) hei hle hli (Heap.lt_size eS) hst (by rw [List.size_toArray]; exact hlt) fun h' u t hx hst' hT hm ne1 ne2 => ?_)
    have eu : u = items[i] := by
      rw [List.getElem?_toArray, List.getElem?_eq_getElem hlt] at hx
      exact (Option.some.inj hx).symm
    subst eu
    have neS : s.heap.objs.size ≠ S := Nat.ne_of_gt (Heap.lt_size eS)
    have fr : H s.heap.objs.size = none := I.hok.fresh (Nat.le_refl _)
    have rx : RelV x items[i] := by cases hv with | cons r _ => exact r
    have rxs : Vals xs (items.drop (i + 1)) := by cases hv with | cons _ r => exact r
    have I1 : L2.Inv X pins σ (upd H s.heap.objs.size (.tup [.int (i : Int), x])) { s with heap := h', toks := s.toks + 1 } := by
      refine I.turnedNew (ch := [e, it]) (fun b o hb q => hm b o (fun z => hb (by simp [z])) (fun z => hb (by simp [z])) q) (fun b hb => ?_) (Nat.le_refl _) ⟨by show 2 ≤ sizeLine; rw [sizeLine_eq]; omega, [.int (i : Int) t, items[i]], .cons ⟨t, rfl⟩ (.cons rx .nil), ⟨_, hT, rfl, _, rfl⟩⟩
      rcases List.mem_cons.mp hb with z | hb
      · rw [z]; exact fe
      · have : b = it := by simpa using hb
        rw [this]; exact fi
    have hS1 : upd H s.heap.objs.size (.tup [.int (i : Int), x]) S = some (.lst ts) := by rw [upd_ne (Ne.symm neS)]; exact hS
    have eS1 := hm S _ hSe hSi eS
    show wpAny _ A.in1 (updateSeq S (·.push (.ref s.heap.objs.size)) >>= _) _ _ _
    have oth : ∀ b o, b ≠ S → h'.get? b = some o → (h'.update S (Obj.mapSeq (·.push (.ref s.heap.objs.size)))).get? b = some o := fun b o hb q => (Heap.get?_update_other _ _ (Ne.symm hb)).trans q
    have I2 := I1.lset (its' := its ++ [.ref s.heap.objs.size]) (ys := ts ++ [.ref s.heap.objs.size]) (t' := s.toks + 1) (f := (·.push (.ref s.heap.objs.size))) hS1 eS1 (by simp) (Vals.append rS (.cons (show RelV (V.ref s.heap.objs.size) (.ref s.heap.objs.size) from rfl) .nil)) (by rw [List.length_append]; simp at hz ⊢; omega)
    refine wpAny_bind ?_
    refine wpAny_updateSeq eS1 rfl (wpAny_pure ⟨plainId_quiet F.plain_extend_loop _, ih (i + 1) _ (ts ++ [.ref s.heap.objs.size]) _ rxs ?_ I2 upd_same ?_ ?_ ?_ ?_ hlt (hw _ fr neS)⟩)
      (by rw [List.size_toArray, ← hlS]; simp at hz ⊢; omega) (by show (its.toArray.push _).size ≤ sizeLine + 1; rw [Array.size_push, List.size_toArray, ← hlS]; simp at hz ⊢; omega)
    · obtain ⟨a1, a2, a3⟩ := hst'
      refine ⟨a1.at fun o q => oth _ o (Ne.symm hSi) q, a2.at fun o q => oth _ o (Ne.symm hSl) q, ?_⟩
      rcases a3 with ⟨old, q⟩ | ⟨old, T, f, oT, q, hT2, r1, r2, r3⟩
      · exact .inl ⟨old, oth _ _ (Ne.symm hSe) q⟩
      · exact .inr ⟨old, T, f, oT, oth _ _ (Ne.symm hSe) q, oth _ _ r3 hT2, r1, r2, r3⟩
    · exact fpUpd (fpUpd fe (Ne.symm ne1)) (Ne.symm hSe)
    · exact fpUpd (fpUpd fi (Ne.symm ne2)) (Ne.symm hSi)
    · rw [List.length_append]; simp at hz ⊢; omega
    · rw [List.length_append, ht]; rfl
theorem en_extend {A : Around} {s : Shared} {e it l S : Addr} {items : List Value} {res : Value} {xs : List V} {H : Hp} {Q : Hp → Prop} (hh : A.handled = none) (hei : e ≠ it) (hle : l ≠ e) (hli : l ≠ it) (hSe : S ≠ e) (hSi : S ≠ it) (hSl : S ≠ l)
    (hv : Vals xs items) (he : IsEnum s.heap e it 0 .none) (hit : s.heap.IsListIter it l 0) (hl : s.heap.IsList l items.toArray) (I : L2.Inv X pins σ H s) (hS : H S = some (.lst [])) (fe : FpOk X pins H e) (fi : FpOk X pins H it) (hz : xs.length ≤ sizeLine)
    (hw : enW S Q 0 xs [] H) :
    wpAny (model X.prog X.w) A.in1 (Builtin.List.listExtendWith (.ref S) (.ref e) res)
      (fun fin s' => match fin with | .done f => (Except.ok f : Result) = .ok (.ret res) ∧ ∃ H', L2.Inv X pins σ H' s' ∧ Q H' | .again c' => c'.quiet = true ∧ codeAny (model X.prog X.w) A c' (fun r s' => r = .ok (.ret res) ∧ ∃ H', L2.Inv X pins σ H' s' ∧ Q H') s') (fun u s' => (Except.error u : Result) = .ok (.ret res) ∧ ∃ H', L2.Inv X pins σ H' s' ∧ Q H') s := by
  have hT : s.TypeIs (.ref e) "enumerate" := ⟨_, he, rfl⟩
  obtain ⟨hz1, its, n, rS, hlS, eS⟩ := I.lstM hS
  have e0 : its = [] := by cases its with | nil => rfl | cons _ _ => cases rS
  subst e0
  unfold Builtin.List.listExtendWith
  refine wpAny_bind (wpAny_typeOf hT ?_)
  have h1 : Builtin.List.listSameRef (.ref S) (.ref e) = false := by simp [Builtin.List.listSameRef, hSe]
  have h2 : (Value.type "enumerate" == Value.type "list") = false := by decide
  have h3 : (Value.type "enumerate" == Value.type "tuple") = false := by decide
  simp only [h1, h2, h3, Bool.or_false, Bool.false_eq_true, if_false]
  refine wpAny_bind (wpAny_pyIter_enum he ?_)
  refine wpAny_bind (wpAny_holding ?_)
  unfold Builtin.List.listLengthHint
  refine wpAny_bind (wpAny_specialOf hT en_no_len ?_)
  show wpAny _ A.in1 (specialOf (Value.ref e) (Str.ofString "__length_hint__") >>= _) _ _ _
  refine wpAny_bind (wpAny_specialOf hT en_no_hint ?_)
  refine wpAny_pure ?_
  show wpAny _ A.in1 (rule "list.extend.makes-room" >>= fun _ => Builtin.List.listTouch (.ref S) >>= fun _ =>
    again (.builtin "list.extend.loop" ⟨[.ref S, .ref e, res], []⟩)) _ _ _
  refine wpAny_bind (wpAny_rule ?_)
  refine wpAny_bind ?_
  show wpAny _ A.in1 (updateSeq S (·.push .none) >>= fun _ => updateSeq S (·.pop)) _ _ _
  refine wpAny_bind (wpAny_updateSeq (hz := by seq_fits) eS rfl ?_)
  have hS₂ := Heap.get?_update_self (Obj.mapSeq (·.push Value.none)) eS rfl
  refine wpAny_updateSeq (hz := by seq_fits) hS₂ rfl ?_
  have oth : ∀ b o, b ≠ S → s.heap.get? b = some o → ((s.heap.update S (Obj.mapSeq (·.push Value.none))).update S (Obj.mapSeq (·.pop))).get? b = some o :=
    fun b o hb q => (Heap.get?_update_other _ _ (Ne.symm hb)).trans ((Heap.get?_update_other _ _ (Ne.symm hb)).trans q)
  have I1 := I.lset (its' := [.none]) (ys := [.non]) (t' := s.toks) (f := (·.push Value.none)) hS eS (by simp) (.cons rfl .nil) (by show 1 ≤ sizeLine; rw [sizeLine_eq]; omega)
  obtain ⟨_, its1, n1, rS1, _, eS1⟩ := I1.lstM upd_same
  have e1 : its1 = [.none] := by
    cases rS1 with
    | cons a b => cases a; cases b; rfl
  subst e1
  have I2 := I1.lset (its' := []) (ys := []) (t' := s.toks) (f := (·.pop)) upd_same eS1 (by simp) .nil (by show 0 ≤ sizeLine; omega)
  rw [upd2] at I2
  refine wpAny_pure ⟨plainId_quiet F.plain_extend_loop _, en_loop hh hei hle hli hSe hSi hSl xs 0 _ [] _ (by rw [List.drop_zero]; exact hv) ?_ I2 upd_same (fpUpd fe (Ne.symm hSe)) (fpUpd fi (Ne.symm hSi)) (by simpa using hz) rfl (Nat.zero_le _) ?_⟩
  · exact ⟨hit.at fun o q => oth _ o (Ne.symm hSi) q, hl.at fun o q => oth _ o (Ne.symm hSl) q, .inl ⟨_, oth _ _ (Ne.symm hSe) he⟩⟩
  · have : upd H S (.lst []) = H := by
      funext b
      by_cases h : b = S
      · subst h; rw [upd_same, hS]
      · rw [upd_ne h]
    rw [this]; exact hw
end
end DL
set_option Elab.async false
set_option linter.all false
set_option maxRecDepth 100000
namespace DL
open PySem PySem.Spec PyProof.Rows L2
section
variable {X : Cx} {pins : List (Addr × Obj)} {σ : L2.St}
theorem call_list_enum {A : Around} {s : Shared} {e it l : Addr} {items : List Value} {xs : List V} {H : Hp} {Q : V → Hp → Prop} {E : Value → Shared → Prop} (hh : A.handled = none) (hei : e ≠ it) (hle : l ≠ e) (hli : l ≠ it)
    (hv : Vals xs items) (he : IsEnum s.heap e it 0 .none) (hit : s.heap.IsListIter it l 0) (hl : s.heap.IsList l items.toArray) (I : L2.Inv X pins σ H s) (fe : FpOk X pins H e) (fi : FpOk X pins H it) (hz : xs.length ≤ sizeLine)
    (hw : ∀ S, H S = none → enW S (fun H' => Q (.ref S) H') 0 xs [] (upd H S (.lst []))) : wpAny (model X.prog X.w) A (call (.type "list") [.ref e]) (EP X pins σ Q) E s := by
  refine callType_codes (Q₁ := fun obj s₁ => obj = .ref s.heap.objs.size ∧ s₁ = { s with heap := s.heap.push { cls := .type "list", data := .seq #[] } }) F.called_list (F.typeCall_list_1 _) F.entry_list_init
    (code_list_new _ ⟨rfl, rfl⟩) fun obj s₁ h₁ => ?_
  obtain ⟨rfl, rfl⟩ := h₁
  have hS : (s.heap.push { cls := .type "list", data := .seq #[] }).get? s.heap.objs.size = some { cls := .type "list", data := .seq #[] } := Heap.get?_push_size _ rfl
  refine ⟨⟨_, hS, rfl⟩, F.args_list_init_2 _ _, ?_⟩
  have ne1 : s.heap.objs.size ≠ e := Nat.ne_of_gt (Heap.lt_size he)
  have ne2 : s.heap.objs.size ≠ it := let ⟨_, x, _⟩ := hit; Nat.ne_of_gt (Heap.lt_size x)
  have ne3 : s.heap.objs.size ≠ l := let ⟨_, x, _⟩ := hl; Nat.ne_of_gt (Heap.lt_size x)
  have I0 : L2.Inv X pins σ (upd H s.heap.objs.size (.lst [])) { s with heap := s.heap.push { cls := .type "list", data := .seq #[] } } :=
    I.laid (t' := s.toks) (fun b o q => Heap.get?_push_of_some _ q) (Nat.le_refl _) ⟨by show 0 ≤ sizeLine; omega, [], 0, .nil, hS⟩
  show wpAny _ _ (do let old ← Builtin.List.listItems (.ref s.heap.objs.size); Builtin.List.listUpdate (.ref s.heap.objs.size) (fun _ => #[]); letGo old.toList.reverse; Builtin.List.listExtendWith (.ref s.heap.objs.size) (.ref e) .none) _ _ _
  refine wpAny_bind ?_
  unfold Builtin.List.listItems
  refine wpAny_bind (wpAny_seqItems hS rfl (wpAny_pure ?_))
  show wpAny _ _ (updateSeq s.heap.objs.size (fun _ => #[]) >>= fun _ => letGo (#[] : Array Value).toList.reverse >>= fun _ => Builtin.List.listExtendWith (.ref s.heap.objs.size) (.ref e) .none) _ _ _
  refine wpAny_bind (wpAny_updateSeq hS rfl ?_)
  have oth : ∀ b o, b ≠ s.heap.objs.size → s.heap.get? b = some o → ((s.heap.push { cls := .type "list", data := .seq #[] }).update s.heap.objs.size (Obj.mapSeq (fun _ => (#[] : Array Value)))).get? b = some o :=
    fun b o hb q => (Heap.get?_update_other _ _ (Ne.symm hb)).trans (Heap.get?_push_of_some _ q)
  have I1 := I0.lset (its := []) (n := 0) (its' := []) (ys := []) (t' := s.toks) (f := fun _ => (#[] : Array Value)) upd_same hS (by simp) .nil (by show 0 ≤ sizeLine; omega)
  rw [upd2] at I1
  refine wpAny_bind (wpAny_letGo ?_)
  have fr : H s.heap.objs.size = none := I.hok.fresh (Nat.le_refl _)
  have key := en_extend (A := A.in1) (res := .none) (Q := fun H' => Q (.ref s.heap.objs.size) H') hh hei hle hli ne1 ne2 ne3 hv (oth _ _ (Ne.symm ne1) he) (hit.at fun o q => oth _ o (Ne.symm ne2) q) (hl.at fun o q => oth _ o (Ne.symm ne3) q) I1 upd_same (fpUpd fe (Ne.symm ne1)) (fpUpd fi (Ne.symm ne2)) hz (hw _ fr)
  refine wpAny_mono key (fun fin s' h => ?_) fun u s' h => ?_
  · cases fin with
    | done f =>
      obtain ⟨h1, H', h2, h3⟩ := h
      cases h1
      exact ⟨rfl, .ref _, H', h2, rfl, h3⟩
    | again c' =>
      refine ⟨h.1, ?_⟩
      refine codeAny_mono h.2 fun r s'' hr => ?_
      obtain ⟨h1, H', h2, h3⟩ := hr
      subst h1
      exact ⟨rfl, .ref _, H', h2, rfl, h3⟩
  · exact absurd h.1 (by intro z; cases z)
def tListEn (K : PySem.W.Frag) (ta : TE) : TE := fun σ H Q => ta σ H fun x H1 => ∃ l xs, x = .ref l ∧ SqL K H1 l xs ∧ ∀ S, H1 S = none → enW S (fun H' => Q (.ref S) H') 0 xs [] (upd H1 S (.lst []))
theorem pe_listEnum {a : Expr} {ta : TE} {p p2 pos pos2 : Pos} (hc : X.calm = true) (hg : Gl X "list") (hm : X.mg "list" = none) (hgE : Gl X "enumerate") (hmE : X.mg "enumerate" = none) (ha : PE X a ta)
    (na : starEach [a] X.env = (false, eval a X.env) :: starEach [] X.env := by rfl)
    (nb : starEach [.Call (.Name "enumerate" p2) [a] [] pos2] X.env = (false, eval (.Call (.Name "enumerate" p2) [a] [] pos2) X.env) :: starEach [] X.env := by rfl) :
    PE X (.Call (.Name "list" p) [.Call (.Name "enumerate" p2) [a] [] pos2] [] pos) (tListEn X.K ta) := by
  refine ⟨fun pins s σ H Q I h => ?_⟩
  have first : wpAny (model X.prog X.w) X.A (eval (.Call (.Name "enumerate" p2) [a] [] pos2) X.env) (fun x s1 => ∃ (e it l : Addr) (items : List Value) (xs : List V) (H1 : Hp), x = .ref e ∧ e ≠ it ∧ l ≠ e ∧ l ≠ it ∧ Vals xs items ∧ IsEnum s1.heap e it 0 .none ∧ s1.heap.IsListIter it l 0 ∧
      s1.heap.IsList l items.toArray ∧ L2.Inv X pins σ H1 s1 ∧ FpOk X pins H1 e ∧ FpOk X pins H1 it ∧ xs.length ≤ sizeLine ∧ ∀ S, H1 S = none → enW S (fun H' => Q (.ref S) H') 0 xs [] (upd H1 S (.lst []))) X.xe s := by
    refine Call_ (ld_blt I hgE hmE boot_enumerate (PyProof.Rows.callWith_type1 (one_arg ha I h (fun v s1 x H1 I1 r1 q1 => ?_) na) na))
    obtain ⟨l, xs, rfl, hq, q⟩ := q1
    cases r1
    obtain ⟨its, rv, p', hz⟩ := I1.list hq
    refine call_enumerate_list p'.isList fun h' he hit hsz hk => ?_
    have I2 : L2.Inv X pins σ H1 { s1 with heap := h' } := I1.kept (t' := s1.toks) hk
    have nl : l < s1.heap.objs.size := let ⟨_, x, _⟩ := p'.isList; Heap.lt_size x
    refine ⟨s1.heap.objs.size + 1, s1.heap.objs.size, l, its, xs, H1, rfl, Nat.succ_ne_self _, Nat.ne_of_lt (Nat.lt_succ_of_lt nl), Nat.ne_of_lt nl, rv, he, hit, p'.isList.at fun o x => hk _ o x, I2, ?_, ?_, hz, q⟩
    · exact I1.fpOk (Nat.le_succ _) (I1.hok.fresh (Nat.le_succ _))
    · exact I1.fpOk (Nat.le_refl _) (I1.hok.fresh (Nat.le_refl _))
  refine Call_ (ld_blt I hg hm boot_list (PyProof.Rows.callWith_type1 (args_cons (thn first fun x s1 hx => args_nil ?_) nb) nb))
  obtain ⟨e, it, l, items, xs, H1, rfl, h1, h2, h3, h4, h5, h6, h7, I1, f1, f2, hz, q⟩ := hx
  exact call_list_enum (I1.ok.hd hc) h1 h2 h3 h4 h5 h6 h7 I1 f1 f2 hz q
end
/-! ### on data -/
section
variable {X : Cx} {G : GC} {W : WX}
theorem enumL_append (n : Nat) : ∀ (ds : List D) , enumL n ds = ds.mapIdx (fun k d => D.tup [.int ((n + k : Nat) : Int), d]) := by
  intro ds
  induction ds generalizing n with
  | nil => rfl
  | cons d ds ih =>
    rw [List.mapIdx_cons]
    unfold enumL
    rw [ih (n + 1)]
    congr 2
    funext k d
    rw [Nat.add_assoc, Nat.add_comm 1 k]
def fListEn (f : M R) : M R := M.bind (shareD f) fun d => match d with
  | .lst xs => M.pure ⟨.lst (enumL 0 xs), true⟩
  | _ => fun _ => .bad
theorem enW_ok {E : Ent} {σ : L2.St} {ρ : List S} {S : Addr} {Hm0 : Hp} {Q : V → Hp → Prop} {dF : List D}
    (hQ : ∀ Hm H, RE G E σ ρ Hm H → Same Hm0 Hm → (∀ vs, H S = some (.lst vs) → Hm S = none → Reps G Hm dF vs → (E.H0 S = none ∨ S ∈ E.IO) → S ∉ ownAddrs σ ρ → Q (.ref S) H)) :
    ∀ (ds : List D) (xs : List V) (i : Nat) (Hm H : Hp) (done : List D) (ts : List V), RE G E σ ρ Hm H → Same Hm0 Hm → Reps G Hm ds xs → H S = some (.lst ts) → Hm S = none → Reps G Hm done ts → (E.H0 S = none ∨ S ∈ E.IO) → S ∉ ownAddrs σ ρ → done ++ enumL i ds = dF →
      enW S (fun H' => Q (.ref S) H') i xs ts H
  | [], xs, i, Hm, H, done, ts, re, sm, hr, hS, hn, hd, z, ho, ed => by
    unfold Reps at hr
    subst hr
    unfold enumL at ed
    rw [List.append_nil] at ed
    subst ed
    exact hQ Hm H re sm ts hS hn hd z ho
  | d :: ds, xs, i, Hm, H, done, ts, re, sm, hr, hS, hn, hd, z, ho, ed => by
    unfold Reps at hr
    obtain ⟨w, ws, rfl, h1, h2⟩ := hr
    intro T hT neT
    obtain ⟨re1, n1, z1, w1⟩ := re.new (o := .tup [.int (i : Int), w]) hT
    have re2 := re1.share n1 upd_same z1 w1
    have s2 : Same Hm (upd Hm T (.tup [.int (i : Int), w])) := Same.upd n1
    have nS : S ≠ T := Ne.symm neT
    have hn2 : upd Hm T (.tup [.int (i : Int), w]) S = none := by rw [upd_ne nS]; exact hn
    have re3 := re2.updP (o := .lst (ts ++ [.ref T])) hn2 z ho
    refine enW_ok hQ ds ws (i + 1) _ _ (done ++ [.tup [.int (i : Int), d]]) (ts ++ [.ref T]) re3 (sm.trans s2) (h2.mono s2) upd_same hn2 ?_ z ho ?_
    · refine (hd.mono s2).append (Reps.cons ?_ Reps.nil)
      unfold Rep
      refine ⟨T, [.int (i : Int), w], rfl, .inl (.inl upd_same), Reps.cons ?_ (Reps.cons (h1.mono s2) Reps.nil)⟩
      unfold Rep; rfl
    · rw [List.append_assoc, ← ed]
      rfl
theorem de_listEn {a : Expr} {f : M R} {p p2 pos pos2 : Pos} (hc : X.calm = true) (hg : Gl X "list") (hm : X.mg "list" = none) (hgE : Gl X "enumerate") (hmE : X.mg "enumerate" = none) (ha : DE X G W a f) (hK : G.K = X.K := by rfl)
    (na : starEach [a] X.env = (false, eval a X.env) :: starEach [] X.env := by rfl)
    (nb : starEach [.Call (.Name "enumerate" p2) [a] [] pos2] X.env = (false, eval (.Call (.Name "enumerate" p2) [a] [] pos2) X.env) :: starEach [] X.env := by rfl) :
    DE X G W (.Call (.Name "list" p) [.Call (.Name "enumerate" p2) [a] [] pos2] [] pos) (fListEn f) := by
  obtain ⟨t, pa, ht⟩ := de_share ha
  refine ⟨_, pe_listEnum hc hg hm hgE hmE pa na nb, fun E σ ρ Hm H Q re h => ?_⟩
  unfold fListEn at h
  refine ht E σ ρ Hm H _ re (h.bind fun d ρ1 v Hm1 H1 e1 re1 s1 r1 h1 => ?_)
  cases d with
  | lst ds =>
    unfold Rep at r1
    obtain ⟨l, xs, rfl, hq, hr⟩ := r1
    refine ⟨l, xs, rfl, Same.seq re1.sub (.inl (.inl hq)), fun S hS => ?_⟩
    obtain ⟨re2, n2, z2, w2⟩ := re1.new (o := .lst []) hS
    refine enW_ok (G := G) (E := E) (σ := σ) (ρ := ρ1) (Hm0 := Hm1) (dF := enumL 0 ds) (fun Hm' H' re' s' vs k1 k2 k3 k4 k5 => ?_) ds xs 0 Hm1 _ [] [] re2 (Same.refl _) hr upd_same n2 Reps.nil z2 (fun z => ?_) rfl
    · refine h1 _ Hm' H' re' s' ⟨S, .lst vs, rfl, k2, k1, ⟨vs, rfl, k3⟩, k4, fun i s hi os ei => k5 (mem_own.mpr ⟨i, s, hi, os, ei⟩)⟩
    · obtain ⟨i, s, hi, os, ei⟩ := mem_own.mp z
      exact w2 i s hi os ei
  | _ => exact h1.elim
end
end DL
set_option Elab.async false
set_option linter.all false
set_option maxRecDepth 100000
namespace DL
open PySem PySem.Spec PyProof.Rows L2
/-! ## list(range(..)) -/
section
variable {X : Cx} {G : GC} {W : WX}
theorem reps_rng {Hm : Hp} (lo : Int) (n : Nat) : Reps G Hm (rngD lo n) ((List.range n).map fun k => V.int (lo + (k : Nat))) := by
  unfold rngD
  have e1 : ((List.range n).map fun k => D.int (lo + (k : Nat))) = ((List.range n).map fun k => lo + ((k : Nat) : Int)).map D.int := by rw [List.map_map]; rfl
  have e2 : ((List.range n).map fun k => V.int (lo + (k : Nat))) = ((List.range n).map fun k => lo + ((k : Nat) : Int)).map V.int := by rw [List.map_map]; rfl
  rw [e1, e2]
  exact Reps.ofInts _
theorem reps_rngC {Hm : Hp} (lo c : Int) (n : Nat) : Reps G Hm (rngC lo c n) ((List.range n).map fun k => V.int (lo + (k : Nat) * c)) := by
  unfold rngC
  have e1 : ((List.range n).map fun k => D.int (lo + (k : Nat) * c)) = ((List.range n).map fun k => lo + ((k : Nat) : Int) * c).map D.int := by rw [List.map_map]; rfl
  have e2 : ((List.range n).map fun k => V.int (lo + (k : Nat) * c)) = ((List.range n).map fun k => lo + ((k : Nat) : Int) * c).map V.int := by rw [List.map_map]; rfl
  rw [e1, e2]
  exact Reps.ofInts _
def okR (a b : Int) : Bool := in62 a && in62 b && decide ((b - a).toNat ≤ sizeD)
def fListR1 (f : M R) : M R := M.bind (shareD f) fun d => match d with
  | .int n => gd (okR 0 n) (M.pure ⟨.lst (rngD 0 n.toNat), true⟩)
  | _ => fun _ => .bad
def fListR2 (f g : M R) : M R := M.bind (shareD f) fun d => M.bind (shareD g) fun e => match d, e with
  | .int a, .int b => gd (okR a b) (M.pure ⟨.lst (rngD a (b - a).toNat), true⟩)
  | _, _ => fun _ => .bad
theorem okR_of {a b : Int} (h : okR a b = true) : RgOk a b := by
  unfold okR at h
  rw [Bool.and_eq_true, Bool.and_eq_true] at h
  obtain ⟨a1, a2⟩ := in62_of h.1.1
  obtain ⟨b1, b2⟩ := in62_of h.1.2
  have := of_decide_eq_true h.2
  exact ⟨a1, a2, b1, b2, this⟩
theorem de_listR1 {a : Expr} {f : M R} {p p2 pos pos2 : Pos} (hc : X.calm = true) (hg : Gl X "list") (hm : X.mg "list" = none) (hgR : Gl X "range") (hmR : X.mg "range" = none) (ha : DE X G W a f)
    (na : starEach [a] X.env = (false, eval a X.env) :: starEach [] X.env := by rfl)
    (nb : starEach [.Call (.Name "range" p2) [a] [] pos2] X.env = (false, eval (.Call (.Name "range" p2) [a] [] pos2) X.env) :: starEach [] X.env := by rfl) :
    DE X G W (.Call (.Name "list" p) [.Call (.Name "range" p2) [a] [] pos2] [] pos) (fListR1 f) := by
  obtain ⟨t, pa, ht⟩ := de_share ha
  refine ⟨_, pe_listRg hc hg hm (prg_1 hgR hmR pa na) nb, fun E σ ρ Hm H Q re h => ?_⟩
  unfold fListR1 at h
  refine ht E σ ρ Hm H _ re (h.bind fun d ρ1 v Hm1 H1 e1 re1 s1 r1 h1 => ?_)
  cases d with
  | int n =>
    unfold Rep at r1
    subst r1
    obtain ⟨c, h1⟩ := gd_ok h1
    refine ⟨n, rfl, okR_of c, fun q hq => ?_⟩
    obtain ⟨k1, k2⟩ := (ResH.lst (G := G) (Hm := Hm1) hq (reps_rng 0 n.toNat)).ok re1
    have e0 : rgV 0 n = (List.range n.toNat).map fun k => V.int (0 + (k : Nat)) := by unfold rgV; rw [Int.sub_zero]
    rw [e0]
    exact h1 _ Hm1 _ k1 (Same.refl _) k2
  | _ => exact h1.elim
theorem de_listR2 {a b : Expr} {f g : M R} {p p2 pos pos2 : Pos} (hc : X.calm = true) (hg : Gl X "list") (hm : X.mg "list" = none) (hgR : Gl X "range") (hmR : X.mg "range" = none) (ha : DE X G W a f) (hb : DE X G W b g)
    (na : starEach [a, b] X.env = (false, eval a X.env) :: starEach [b] X.env := by rfl) (nc : starEach [b] X.env = (false, eval b X.env) :: starEach [] X.env := by rfl) (hp : (backTo pos2 (starEach [b] X.env)).any (·.1) = false := by rfl)
    (nb : starEach [.Call (.Name "range" p2) [a, b] [] pos2] X.env = (false, eval (.Call (.Name "range" p2) [a, b] [] pos2) X.env) :: starEach [] X.env := by rfl) :
    DE X G W (.Call (.Name "list" p) [.Call (.Name "range" p2) [a, b] [] pos2] [] pos) (fListR2 f g) := by
  obtain ⟨t, pa, ht⟩ := de_share ha
  obtain ⟨u, pb, hu⟩ := de_share hb
  refine ⟨_, pe_listRg hc hg hm (prg_2 hgR hmR pa pb na nc hp) nb, fun E σ ρ Hm H Q re h => ?_⟩
  unfold fListR2 at h
  refine ht E σ ρ Hm H _ re (h.bind fun d ρ1 v Hm1 H1 e1 re1 s1 r1 h1 => ?_)
  refine hu E σ ρ1 Hm1 H1 _ re1 (h1.bind fun d2 ρ2 v2 Hm2 H2 e2 re2 s2 r2 h2 => ?_)
  cases d with
  | int n =>
    unfold Rep at r1
    subst r1
    cases d2 with
    | int m =>
      unfold Rep at r2
      subst r2
      obtain ⟨c, h2⟩ := gd_ok h2
      refine ⟨n, m, rfl, rfl, okR_of c, fun q hq => ?_⟩
      obtain ⟨k1, k2⟩ := (ResH.lst (G := G) (Hm := Hm2) hq (reps_rng n (m - n).toNat)).ok re2
      exact h2 _ Hm2 _ k1 (Same.refl _) k2
    | _ => exact h2.elim
  | _ =>
    cases d2 <;> exact h2.elim
/-- list(range(a, b, c)) -/
def fListR3 (f : M (List O)) : M R := M.bind f fun os => match intsOf os with
  | some [i, j, c] => gd (okRg i j c && decide ((Builtin.Range.rangeSize i j c).toNat ≤ sizeD)) (M.pure ⟨.lst (rngC i c (Builtin.Range.rangeSize i j c).toNat), true⟩)
  | _ => fun _ => .bad
def tLstRg3 (ta : TA) : TE := fun σ H Q => ta σ H fun vs H1 => ∃ (i j k : Int) (n : Nat), vs = [.int i, .int j, .int k] ∧ (k ≠ 0 ∧ k.natAbs < 1073741824 ∧ Builtin.Range.small i j k = true ∧ Builtin.Range.rangeSize i j k = (n : Int)) ∧ n ≤ 2 ^ 24 ∧
  ∀ q, H1 q = none → Q (.ref q) (upd H1 q (.lst ((List.range n).map fun m => V.int (i + (m : Nat) * k))))
theorem pe_listRg3 {a b c : Expr} {ta : TA} {p p2 pos pos2 : Pos} (hc : X.calm = true) (hg : Gl X "list") (hm : X.mg "list" = none) (hgR : Gl X "range") (hmR : X.mg "range" = none) (ha : PA X [a, b, c] ta)
    (hs : starEach [a, b, c] X.env = (false, eval a X.env) :: starEach [b, c] X.env := by rfl) (hpl : (backTo pos2 (starEach [b, c] X.env)).any (·.1) = false := by rfl)
    (nb : starEach [.Call (.Name "range" p2) [a, b, c] [] pos2] X.env = (false, eval (.Call (.Name "range" p2) [a, b, c] [] pos2) X.env) :: starEach [] X.env := by rfl) :
    PE X (.Call (.Name "list" p) [.Call (.Name "range" p2) [a, b, c] [] pos2] [] pos) (tLstRg3 ta) := by
  refine ⟨fun pins s σ H Q I h => ?_⟩
  have first : wpAny (model X.prog X.w) X.A (eval (.Call (.Name "range" p2) [a, b, c] [] pos2) X.env) (fun x s1 => ∃ (r : Addr) (i j k : Int) (n : Nat) (t u v : Tok) (H1 : Hp), x = .ref r ∧ IsRange s1.heap r i j k t u v ∧ L2.Inv X pins σ H1 s1 ∧ Builtin.Range.small i j k = true ∧ Builtin.Range.rangeSize i j k = (n : Int) ∧ n ≤ 2 ^ 24 ∧
      ∀ q, H1 q = none → Q (.ref q) (upd H1 q (.lst ((List.range n).map fun m => V.int (i + (m : Nat) * k))))) X.xe s := by
    refine Call_ (ld_blt I hgR hmR boot_range (PyProof.Rows.callWith_type1 (thn (ha.run pos2 pins s σ H _ I h) fun us s1 ⟨vs, H1, I1, r1, q1⟩ => ?_) hs hpl))
    obtain ⟨i, j, k, n, e, ⟨c0, c1, c2, c3⟩, hn, q⟩ := q1
    subst e
    cases r1 with
    | cons r rr =>
      cases rr with
      | cons r' rr =>
        cases rr with
        | cons r'' rr =>
          cases rr
          obtain ⟨t, rfl⟩ := r
          obtain ⟨t', rfl⟩ := r'
          obtain ⟨t'', rfl⟩ := r''
          refine call_range_3 c0 ?_ (.inl (PyProof.noPylong_small c1))
          exact ⟨_, i, j, k, n, _, _, _, H1, rfl, IsRange.new _ _ _ _ _ _ _, I1.kept fun b o e => Heap.get?_push_of_some _ e, c2, c3, hn, q⟩
  refine Call_ (ld_blt I hg hm boot_list (PyProof.Rows.callWith_type1 (args_cons (thn first fun x s1 hx => args_nil ?_) nb) nb))
  obtain ⟨r, i, j, k, n, t, u, v, H1, rfl, hr, I1, c2, c3, hn, q⟩ := hx
  refine call_list_range (n := n) (I1.ok.hd hc) hr c2 c3 hn fun h' tk acc c' hk e' hi => ?_
  have ea : acc.toList.length = n := by rw [Array.length_toList]; exact hi.1
  have hv : Vals ((List.range n).map fun m => V.int (i + (m : Nat) * k)) acc.toList := by
    rw [← ea]
    refine vals_of_get acc.toList _ fun j u hj => ?_
    obtain ⟨t, rfl⟩ := hi.2 j u (by rw [← hj, Array.getElem?_toList])
    exact ⟨t, rfl⟩
  refine ⟨.ref s1.heap.objs.size, upd H1 s1.heap.objs.size (.lst ((List.range n).map fun m => V.int (i + (m : Nat) * k))), I1.laid hk (Nat.le_refl _) (show ObjOk X.prog X.w _ _ _ (.lst ((List.range n).map fun m => V.int (i + (m : Nat) * k))) from ⟨?_, acc.toList, c', hv, ?_⟩), rfl, q _ (I1.hok.fresh (Nat.le_refl _))⟩
  · rw [List.length_map, List.length_range, sizeLine_eq]; omega
  · rw [Array.toArray_toList]; exact e'
theorem de_listR3 {a b c : Expr} {f : M (List O)} {p p2 pos pos2 : Pos} (hc : X.calm = true) (hg : Gl X "list") (hm : X.mg "list" = none) (hgR : Gl X "range") (hmR : X.mg "range" = none) (ha : AE X G W [a, b, c] f)
    (hs : starEach [a, b, c] X.env = (false, eval a X.env) :: starEach [b, c] X.env := by rfl) (hpl : (backTo pos2 (starEach [b, c] X.env)).any (·.1) = false := by rfl)
    (nb : starEach [.Call (.Name "range" p2) [a, b, c] [] pos2] X.env = (false, eval (.Call (.Name "range" p2) [a, b, c] [] pos2) X.env) :: starEach [] X.env := by rfl) :
    DE X G W (.Call (.Name "list" p) [.Call (.Name "range" p2) [a, b, c] [] pos2] [] pos) (fListR3 f) := by
  obtain ⟨t, pa, ht⟩ := ha.ex
  refine ⟨_, pe_listRg3 hc hg hm hgR hmR pa hs hpl nb, fun E σ ρ Hm H Q re h => ?_⟩
  unfold fListR3 at h
  refine ht E σ ρ Hm H _ re (h.bind fun os ρ1 vs Hm1 H1 e1 re1 s1 r1 h1 => ?_)
  cases e : intsOf os with
  | none => rw [e] at h1; exact h1.elim
  | some ns =>
    rw [e] at h1
    have ev := intsOf_ok r1 e
    match ns, h1, ev with
    | [i, j, k], h1, ev =>
      have h1' : Sat G E W σ Hm1 (fun r ρ' Hm' H' v => ROk G E σ ρ' Hm' H' v r) Q (gd (okRg i j k && decide ((Builtin.Range.rangeSize i j k).toNat ≤ sizeD)) (M.pure ⟨.lst (rngC i k (Builtin.Range.rangeSize i j k).toNat), true⟩) ρ1) := h1
      obtain ⟨c, h2⟩ := gd_ok h1'
      rw [Bool.and_eq_true] at c
      have c1 := c.1
      unfold okRg at c1
      simp only [Bool.and_eq_true, decide_eq_true_eq] at c1
      refine ⟨i, j, k, _, ev, ⟨c1.1.1.1, c1.1.1.2, c1.1.2, c1.2⟩, of_decide_eq_true c.2, fun q hq => ?_⟩
      obtain ⟨k1, k2⟩ := (ResH.lst (G := G) (Hm := Hm1) hq (reps_rngC i k _)).ok re1
      exact h2 _ Hm1 _ k1 (Same.refl _) k2
    | [], h1, _ => exact h1.elim
    | [_], h1, _ => exact h1.elim
    | [_, _], h1, _ => exact h1.elim
    | _ :: _ :: _ :: _ :: _, h1, _ => exact h1.elim
end
/-! ## x += e, xs[i] += e: ints -/
def augS (f : Int → Int → Int) (i : Nat) (d : D) : M Fl := fun ρ => match ρ[i]?, d with
  | some (.val (.int a)), .int b => .ok .next (ρ.set i (.val (.int (f a b))))
  | _, _ => .bad
def isIntS (i : Nat) : M Int := fun ρ => match ρ[i]? with
  | some (.val (.int a)) => .ok a ρ
  | _ => .bad
/-- the name's value is taken first -/
def sAug (f : Int → Int → Int) (i : Nat) (fe : M R) : M Fl := M.bind (isIntS i) fun a => M.bind (shareD fe) fun d => match d with
  | .int b => fun ρ => if i < ρ.length then .ok .next (ρ.set i (.val (.int (f a b)))) else .bad
  | _ => fun _ => .bad
/-- own list at i: its item at k is an int -/
def getInt (i : Nat) (k : D) : M Int := fun ρ => match ρ[i]?, k with
  | some (.own (.lst xs)), .int z => (match L2.atI xs z with | some (.int a) => .ok a ρ | _ => .bad)
  | _, _ => .bad
def sAugIx (f : Int → Int → Int) (i : Nat) (fk fe : M R) : M Fl := M.bind (chkT "list" (.r i)) fun _ => M.bind (shareD fk) fun k => M.bind (getInt i k) fun a => M.bind (shareD fe) fun d => match d with
  | .int b => putS i k (.int (f a b))
  | _ => fun _ => .bad
section
variable {X : Cx} {G : GC} {W : WX} {fx : List Nat}
theorem isIntS_ok {i : Nat} {E : Ent} {σ : L2.St} {ρ : List S} {Hm H : Hp} {k : Int → M Fl} {D : Ends} (re : RE G E σ ρ Hm H) (h : SatS G E W Hm D (M.bind (isIntS i) k ρ)) : ∃ a, σ[i]? = some (some (.int a)) ∧ SatS G E W Hm D (k a ρ) := by
  unfold M.bind isIntS at h
  cases e : ρ[i]? with
  | none => simp only [e] at h; exact h.elim
  | some s =>
    simp only [e] at h
    cases s with
    | un => exact h.elim
    | own d => exact h.elim
    | val d =>
      cases d with
      | int a =>
        obtain ⟨v, e1, r⟩ := re.sl i _ e
        unfold Rep at r
        subst r
        exact ⟨a, e1, h⟩
      | _ => exact h.elim
theorem ds_aug {i : Nat} {x : Str} {pos' pos : Pos} {e : Expr} {fe : M R} {op : Operator} {f : Int → Int → Int} (ho : PIp X op (ipI f)) (hN : X.N.Nodup) (hi : X.N[i]? = some x) (hx : Loc X.env.scope x) (hf : i ∉ fx) (he : DE X G W e fe)
    (hc : X.fn x = true ∨ X.env.scope.names.lookup x = some .local := by first | exact .inl rfl | exact .inr rfl | assumption) : DS X G W fx (.AugAssign (.Name x pos') op e pos) (sAug f i fe) := by
  obtain ⟨t, pe, ht⟩ := de_share he
  refine ⟨_, ps_aug hN hi hx pe ho hc, fun E σ ρ Hm H D ef re h => ?_⟩
  unfold sAug at h
  obtain ⟨a, e1, h1⟩ := isIntS_ok re h
  refine ⟨_, e1, ht E σ ρ Hm H _ re (h1.bind fun d ρ1 v Hm1 H1 e2 re1 s1 r1 h2 => ?_)⟩
  cases d with
  | int b =>
    unfold Rep at r1
    subst r1
    have h2' : SatS G E W Hm1 D (if i < ρ1.length then .ok .next (ρ1.set i (.val (.int (f a b)))) else .bad) := h2
    by_cases c : i < ρ1.length
    · rw [if_pos c] at h2'
      refine ⟨a, b, rfl, rfl, h2' _ Hm1 H1 (re1.store c (by rw [ef]; exact hf) ⟨.int (f a b), rfl, by unfold Rep; rfl⟩ (by intro z; cases z)) (Same.refl _)⟩
    · rw [if_neg c] at h2'; exact h2'.elim
  | _ => exact h2.elim
theorem ds_augIx {o ie e : Expr} {i : Nat} {fk fe : M R} {pos spos : Pos} {op : Operator} {f : Int → Int → Int} (hop : PIp X op (ipI f)) (ho : PE X o (tVar i)) (hi : DE X G W ie fk) (he : DE X G W e fe) (hK : G.K = X.K := by rfl)
    (ha : ∀ ov iv new, augStore ie ov iv new = (do holding [new, ov, iv] (setItem ov iv new); release [new, ov, iv] []; pure .next) := by intros; rfl) : DS X G W fx (.AugAssign (.Subscript o ie pos) op e spos) (sAugIx f i fk fe) := by
  obtain ⟨te, pe, hte⟩ := de_share he
  obtain ⟨ti, pi, hti⟩ := de_share hi
  refine ⟨_, ps_augS ho pi get_list pe hop set_list ha, fun E σ ρ Hm H D ef re h => ?_⟩
  unfold sAugIx at h
  obtain ⟨⟨x, hx⟩, h⟩ := chkS re h
  refine ⟨x, hx, ?_⟩
  refine hti E σ ρ Hm H _ re (h.bind fun k ρ1 y Hm1 H1 e1 re1 s1 r1 h1 => ?_)
  have g1 : ∃ (p : Addr) (vs : List V) (xs : List DL.D) (z a : Int), x = .ref p ∧ k = .int z ∧ y = .int z ∧ SqL G.K H1 p vs ∧ L2.atI vs z = some (.int a) ∧ SatS G E W Hm1 D (M.bind (shareD fe) (fun d => match d with | .int b => putS i k (.int (f a b)) | _ => fun _ => .bad) ρ1) := by
    unfold M.bind getInt at h1
    cases e0 : ρ1[i]? with
    | none => simp only [e0] at h1; exact h1.elim
    | some s =>
      simp only [e0] at h1
      cases s with
      | un => exact h1.elim
      | val _ => exact h1.elim
      | own d0 =>
        cases d0 with
        | lst xs =>
          cases k with
          | int z =>
            simp only at h1
            cases q : L2.atI xs z with
            | none => simp only [q] at h1; exact h1.elim
            | some d =>
              simp only [q] at h1
              cases d with
              | int a =>
                obtain ⟨p, ob, e3, nn, t, ⟨vs, rfl, rv⟩, w⟩ := re1.sl i _ e0
                rw [hx] at e3; cases e3
                obtain ⟨v, e4, r4⟩ := rv.atI q
                unfold Rep at r4 r1
                subst r4; subst r1
                exact ⟨p, vs, xs, z, a, rfl, rfl, rfl, .inl (.inl t), e4, h1⟩
              | _ => exact h1.elim
          | _ => exact h1.elim
        | _ => exact h1.elim
  obtain ⟨p, vs, xs, z, a, rfl, rfl, rfl, g2, g3, h2⟩ := g1
  refine ⟨p, vs, z, .int a, rfl, rfl, hK ▸ g2, g3, ?_⟩
  refine hte E σ ρ1 Hm1 H1 _ re1 (h2.bind fun d ρ2 v2 Hm2 H2 e2 re2 s2 r2 h3 => ?_)
  cases d with
  | int b =>
    unfold Rep at r2
    subst r2
    exact ⟨a, b, rfl, rfl, putS_ok re2 hx (Rep.mono s2 r1) (by unfold Rep; rfl) h3⟩
  | _ => exact h3.elim
end
end DL
set_option Elab.async false
set_option linter.all false
set_option maxRecDepth 100000
namespace DL
open PySem PySem.Spec PyProof.Rows L2
theorem hu1 {A : Around} {k : Nat} (hr : Room k A) : A.units + 1 < cLine := by have := hr.un; omega
theorem hu64 {A : Around} {k : Nat} (hr : Room k A) : A.units + 64 < cLine := by have := hr.un; omega
theorem hu65 {A : Around} {k : Nat} (hr : Room k A) : A.units + 65 < cLine := by have := hr.un; omega
theorem hu66 {A : Around} {k : Nat} (hr : Room k A) : A.units + 66 < cLine := by have := hr.un; omega
def badM {α : Type} : M α := fun _ => .bad
theorem ds_nev {X : Cx} {G : GC} {W : WX} {fx : List Nat} {st : Stmt} : DS X G W fx st badM := ds_never st
/-! ## defs by their bodies, called by name -/
structure CalX (P : Program) (w : World) (K : PySem.W.Frag) (mg : Str → Option Value) (base : Heap) (G : GC) (k : Nat) (x : Str) (fx : List Nat) (n : Nat) (F : M R) (B : FuncData → List Str → Prop) : Prop where
  ex : ∃ (f : Addr) (fd : FuncData) (ps : List Str), FnOk P w K mg base (L2.CX P w) k f fd ps (spD G n fx F) ∧ mg x = some (.ref f) ∧ PySem.W.keepIn K (.ref f) = true ∧ B fd ps
abbrev B0 (K : PySem.W.Frag) : FuncData → List Str → Prop := fun fd ps => Binds K fd ps []
section
variable {X : Cx} {G : GC} {W : WX} {k kX : Nat} {x : Str} {fx : List Nat} {n np : Nat} {F : M R} {B : FuncData → List Str → Prop} {p pos : Pos} {e : Expr} {es : List Expr} {kws : List Keyword} {fs fk : M (List O)} {spec : List (Nat × Nat)} {dvs : List V} {dd : List D} {ks : List Str}
theorem CalX.cl (C : CalX X.prog X.w X.K X.mg X.base G k x fx n F B) (hr : Room kX X.A) (hk : k ≤ kX) : ∃ fd ps, Cl X fx x n F G fd ps ∧ B fd ps := by
  obtain ⟨f, fd, ps, h1, h2, h3, h4⟩ := C.ex
  exact ⟨fd, ps, ⟨k, f, h1, hr.mono hk, h2, h3⟩, h4⟩
theorem dc (C : CalX X.prog X.w X.K X.mg X.base G k x fx n F (B0 X.K)) (hr : Room kX X.A) (hk : k ≤ kX) (tk : Takes X W) (hg : Gl X x) (ha : AE X G W (e :: es) fs) (hdb : (x == ("__debug__" : Str)) = false := by decide)
    (he : starEach (e :: es) X.env = (false, eval e X.env) :: starEach es X.env := by rfl) (hpl : (backTo pos (starEach es X.env)).any (·.1) = false := by rfl) : DE X G W (.Call (.Name x p) (e :: es) [] pos) (fCall fx F n fs) := by
  obtain ⟨fd, ps, c, b⟩ := C.cl hr hk
  exact de_call c tk hg b ha hdb he hpl
theorem dcK (C : CalX X.prog X.w X.K X.mg X.base G k x fx np F B) (hr : Room kX X.A) (hk : k ≤ kX) (tk : Takes X W) (hg : Gl X x) (hB : ∀ fd ps, B fd ps → KBd X.K fd ps n ks spec dvs) (ha : AE X G W (e :: es) fs) (hkw : KEs X G W kws fk) (hdd : ∀ Hm, Reps G Hm dd dvs) (hs : arrOk spec n dd.length ks.length = true := by rfl) (hl : spec.length = np := by rfl)
    (hall : (backToKw pos (keywordEach kws X.env)).all (·.1.isSome) = true := by rfl) (hks : (backToKw pos (keywordEach kws X.env)).filterMap (·.1) = ks := by rfl)
    (hdb : (x == ("__debug__" : Str)) = false := by decide) (he : starEach (e :: es) X.env = (false, eval e X.env) :: starEach es X.env := by rfl)
    (hpl : ((backTo pos (starEach (e :: es) X.env)).any (·.1) || (backToKw pos (keywordEach kws X.env)).any (·.1.isNone)) = false := by rfl) : DE X G W (.Call (.Name x p) (e :: es) kws pos) (fCallK fx F n ks.length spec dd fs fk) := by
  obtain ⟨fd, ps, c, b⟩ := C.cl hr hk
  exact de_callK c tk hg (hB _ _ b) ha hkw hdd hs hl hall hks hdb he hpl
theorem dcK0 (C : CalX X.prog X.w X.K X.mg X.base G k x fx np F B) (hr : Room kX X.A) (hk : k ≤ kX) (tk : Takes X W) (hg : Gl X x) (hB : ∀ fd ps, B fd ps → KBd X.K fd ps 0 ks spec dvs) (hkw : KEs X G W kws fk) (hdd : ∀ Hm, Reps G Hm dd dvs) (hs : arrOk spec 0 dd.length ks.length = true := by rfl) (hl : spec.length = np := by rfl)
    (hall : (backToKw pos (keywordEach kws X.env)).all (·.1.isSome) = true := by rfl) (hks : (backToKw pos (keywordEach kws X.env)).filterMap (·.1) = ks := by rfl)
    (hdb : (x == ("__debug__" : Str)) = false := by decide)
    (hpl : ((backTo pos (starEach [] X.env)).any (·.1) || (backToKw pos (keywordEach kws X.env)).any (·.1.isNone)) = false := by rfl) : DE X G W (.Call (.Name x p) [] kws pos) (fCallK fx F 0 ks.length spec dd nilA fk) := by
  obtain ⟨fd, ps, c, b⟩ := C.cl hr hk
  exact de_callK0 c tk hg (hB _ _ b) hkw hdd hs hl hall hks hdb hpl
theorem dcD (C : CalX X.prog X.w X.K X.mg X.base G k x fx np F B) (hr : Room kX X.A) (hk : k ≤ kX) (tk : Takes X W) (hg : Gl X x) (hB : ∀ fd ps, B fd ps → KBd X.K fd ps n [] spec dvs) (ha : AE X G W (e :: es) fs) (hdd : ∀ Hm, Reps G Hm dd dvs) (hs : arrOk spec n dd.length 0 = true := by rfl) (hl : spec.length = np := by rfl)
    (hdb : (x == ("__debug__" : Str)) = false := by decide) (he : starEach (e :: es) X.env = (false, eval e X.env) :: starEach es X.env := by rfl) (hpl : (backTo pos (starEach es X.env)).any (·.1) = false := by rfl) :
    DE X G W (.Call (.Name x p) (e :: es) [] pos) (fCallK fx F n 0 spec dd fs nilA) := by
  obtain ⟨fd, ps, c, b⟩ := C.cl hr hk
  exact de_callD c tk hg (hB _ _ b) ha hdd hs hl hdb he hpl
theorem dc0 (C : CalX X.prog X.w X.K X.mg X.base G k x fx np F B) (hr : Room kX X.A) (hk : k ≤ kX) (tk : Takes X W) (hg : Gl X x) (hB : ∀ fd ps, B fd ps → KBd X.K fd ps 0 [] spec dvs) (hdd : ∀ Hm, Reps G Hm dd dvs) (hs : arrOk spec 0 dd.length 0 = true := by rfl) (hl : spec.length = np := by rfl)
    (hdb : (x == ("__debug__" : Str)) = false := by decide) : DE X G W (.Call (.Name x p) [] [] pos) (fCallK fx F 0 0 spec dd nilA nilA) := by
  obtain ⟨fd, ps, c, b⟩ := C.cl hr hk
  exact de_call0 c tk hg (hB _ _ b) hdd hs hl hdb
end
section
variable {P : Program} {w : World} {K : PySem.W.Frag} {mg : Str → Option Value} {base : Heap} {G : GC} {x : Str} {st : Stmt} {f : Addr} {fd : FuncData} {N ps : List Str} {k n : Nat} {fx : List Nat} {fb : M Fl}
/-- a def without defaults -/
theorem cal_mk (Fn : Fun K x x st f fd) (hm : mg x = some (.ref f)) (S : FnScope N ps (defScope st)) (hn : n = ps.length) (hf : ∀ i ∈ fx, i < ps.length)
    (hbd : ∀ (kV doc pm : Value) (an : Option Addr) (cdv ct : Value) (us : List Value), us.length = ps.length → bindArgs (PySem.W.fnOf x x (defArgs st) (defBody st) (defScope st) .none kV doc pm an cdv ct) ⟨us, []⟩ = pure (ps.zip us))
    (hb : ∀ (cdv : Value) (A : Around) (outer : List Env) (s : Shared) (H : Hp) (E : XK), Room k (A.deeper (envOfC x (defScope st) s.heap.objs.size f cdv)) → DSs (cxOf (L2.CX P w) P w K mg base N x (defScope st) f cdv A outer s H E) G (fun c d _ H => E c d H) fx (defBody st) fb) :
    CalX P w K mg base G (k + 1) x fx n (bodyF fx n N.length fb) (B0 K) := by
  subst hn
  obtain ⟨oc, od, kV, doc, pm, an, cdv, ct, osl, rfl, lk, hcd⟩ := Fn.ex
  exact ⟨f, _, ps, fn_D lk hcd S hf (hb cdv), hm, Fn.kp, Binds.all fun us h => hbd _ _ _ _ _ _ us h⟩
/-- a def with defaults -/
theorem cal_mkD {dvs : List V} {B : FuncData → List Str → Prop} (Fn : FunD K x x (defArgs st) (defBody st) (defScope st) dvs [] f fd) (hm : mg x = some (.ref f)) (S : FnScope N ps (defScope st)) (hn : n = ps.length) (hf : ∀ i ∈ fx, i < ps.length)
    (hB : B fd ps)
    (hb : ∀ (cdv : Value) (A : Around) (outer : List Env) (s : Shared) (H : Hp) (E : XK), Room k (A.deeper (envOfC x (defScope st) s.heap.objs.size f cdv)) → DSs (cxOf (L2.CX P w) P w K mg base N x (defScope st) f cdv A outer s H E) G (fun c d _ H => E c d H) fx (defBody st) fb) :
    CalX P w K mg base G (k + 1) x fx n (bodyF fx n N.length fb) B := by
  subst hn
  obtain ⟨oc, od, dV, kV, doc, pm, an, cdv, ct, osl, rfl, lk, hcd, h1, h2⟩ := Fn.ex
  exact ⟨f, _, ps, fn_D lk hcd S hf (hb cdv), hm, Fn.kp, hB⟩
end
end DL
set_option Elab.async false
set_option linter.all false
set_option maxRecDepth 100000
namespace DL
open PySem PySem.Spec PyProof.Rows L2
/-! ## running the terms -/
section
variable {α β : Type} {ρ : List S} {f g : M R}
@[simp] theorem r_bind (m : M α) (k : α → M β) : M.bind m k ρ = (m ρ).bind k := rfl
@[simp] theorem r_bok (a : α) (k : α → M β) : (Res.ok a ρ).bind k = k a ρ := rfl
@[simp] theorem r_bexc (c : Str) (d : D) (k : α → M β) : (Res.exc c d ρ : Res α).bind k = .exc c d ρ := rfl
@[simp] theorem r_bbad (k : α → M β) : (Res.bad : Res α).bind k = .bad := rfl
@[simp] theorem r_bok' (a : α) (k : α → List S → Res β) : Res.bind (Res.ok a ρ) k = k a ρ := rfl
@[simp] theorem r_bexc' (c : Str) (d : D) (k : α → List S → Res β) : Res.bind (Res.exc c d ρ : Res α) k = .exc c d ρ := rfl
@[simp] theorem r_bbad' (k : α → List S → Res β) : Res.bind (Res.bad : Res α) k = .bad := rfl
@[simp] theorem r_pure (a : α) : M.pure a ρ = .ok a ρ := rfl
@[simp] theorem r_cst (d : D) : cst d ρ = .ok ⟨d, false⟩ ρ := rfl
@[simp] theorem r_shareO : shareO f ρ = (f ρ).bind fun r => M.pure (.v r.d) := rfl
@[simp] theorem r_shareD : shareD f ρ = (f ρ).bind fun r => M.pure r.d := rfl
@[simp] theorem r_take (i : Nat) : takeS i ρ = match ρ[i]? with
  | some (.val d) => .ok ⟨d, false⟩ ρ
  | some (.own d) => .ok ⟨d, false⟩ (ρ.set i (.val d))
  | _ => .bad := rfl
@[simp] theorem r_move (i : Nat) : moveS i ρ = match ρ[i]? with
  | some (.val d) => .ok ⟨d, false⟩ ρ
  | some (.own d) => .ok ⟨d, true⟩ (ρ.set i .un)
  | _ => .bad := rfl
@[simp] theorem r_name (i : Nat) : nameO i ρ = match ρ[i]? with
  | some .un => .bad
  | none => .bad
  | some _ => .ok (.r i) ρ := rfl
@[simp] theorem r_resOv (d : D) : resO ρ (.v d) = some d := rfl
@[simp] theorem r_resOr (i : Nat) : resO ρ (.r i) = match ρ[i]? with
  | some (.val d) => some d
  | some (.own d) => some d
  | _ => none := by
  unfold resO
  cases h : ρ[i]? with
  | none => simp [h]
  | some s => cases s <;> simp [h]
@[simp] theorem r_resOs0 : resOs ρ [] = some [] := rfl
@[simp] theorem r_resOs1 (o : O) (os : List O) : resOs ρ (o :: os) = match resO ρ o, resOs ρ os with
    | some d, some ds => some (d :: ds)
    | _, _ => none := rfl
@[simp] theorem r_vals0 : valsOf [] = some [] := rfl
@[simp] theorem r_vals1 (d : D) (os : List O) : valsOf (.v d :: os) = (valsOf os).map (d :: ·) := rfl
@[simp] theorem r_lift2 (h : D → D → Option R) (a b : O) : lift2 h a b ρ = match resO ρ a, resO ρ b with
  | some x, some y => (match h x y with | some r => .ok r ρ | none => .bad)
  | _, _ => .bad := rfl
@[simp] theorem r_lift1 (h : D → Option R) (a : O) : lift1 h a ρ = match resO ρ a with
  | some x => (match h x with | some r => .ok r ρ | none => .bad)
  | _ => .bad := rfl
@[simp] theorem r_liftN (h : List D → Option R) (os : List O) : liftN h os ρ = match resOs ρ os with
  | some ds => (match h ds with | some r => .ok r ρ | none => .bad)
  | none => .bad := rfl
@[simp] theorem r_liftM (h : D → List D → Option R) (a : O) (os : List O) : liftM h a os ρ = match resO ρ a, resOs ρ os with
  | some d, some ds => (match h d ds with | some r => .ok r ρ | none => .bad)
  | _, _ => .bad := rfl
@[simp] theorem r_chkT (T : String) (a : O) : chkT T a ρ = match resO ρ a with
  | some d => gd (tyD d == T) (M.pure ()) ρ
  | none => .bad := rfl
@[simp] theorem r_gdt (m : M α) : gd true m = m := rfl
@[simp] theorem r_nilA : nilA ρ = .ok [] ρ := rfl
@[simp] theorem r_consA (fo : M O) (fs : M (List O)) : consA fo fs ρ = (fo ρ).bind fun o => M.bind fs fun os => M.pure (o :: os) := rfl
@[simp] theorem r_fBin (h : D → D → Option R) (fa fb : M O) : fBin h fa fb ρ = (fa ρ).bind fun a => M.bind fb fun b => lift2 h a b := rfl
@[simp] theorem r_fUn (h : D → Option R) (fa : M O) : fUn h fa ρ = (fa ρ).bind fun a => lift1 h a := rfl
@[simp] theorem r_fB (h : List D → Option R) (fs : M (List O)) : fB h fs ρ = (fs ρ).bind fun os => liftN h os := rfl
@[simp] theorem r_fMeth (T : String) (h : D → List D → Option R) (fo : M O) (fs : M (List O)) : fMeth T h fo fs ρ = (fo ρ).bind fun a => M.bind (chkT T a) fun _ => M.bind fs fun os => liftM h a os := rfl
@[simp] theorem r_fMut (T : String) (h : D → List D → Option (D × D)) (i : Nat) (fs : M (List O)) : fMut T h i fs ρ = (chkT T (.r i) ρ).bind fun _ => M.bind fs fun os => mutS h i os := rfl
@[simp] theorem r_mutS (h : D → List D → Option (D × D)) (i : Nat) (os : List O) : mutS h i os ρ = match ρ[i]?, valsOf os with
  | some (.own d), some ds => (match h d ds with | some r => .ok ⟨r.2, false⟩ (ρ.set i (.own r.1)) | none => .bad)
  | _, _ => .bad := rfl
@[simp] theorem r_fDisp (mk : List D → D) (fs : M (List O)) : fDisp mk fs ρ = (fs ρ).bind fun os => match valsOf os with
  | some ds => gd (decide (ds.length ≤ sizeD)) (M.pure ⟨mk ds, true⟩)
  | none => fun _ => .bad := rfl
@[simp] theorem r_fIf {α : Type} (c : M Bool) (a b : M α) : fIf c a b ρ = (c ρ).bind fun c => if c = true then a else b := rfl
@[simp] theorem r_boolR : boolR f ρ = (f ρ).bind fun r => match r.d with | .bl b => M.pure b | _ => fun _ => .bad := by
  unfold boolR
  rfl
@[simp] theorem r_fAnd (a b : M Bool) : fAnd a b ρ = (a ρ).bind fun c => if c = true then b else M.pure false := rfl
@[simp] theorem r_fOr (a b : M Bool) : fOr a b ρ = (a ρ).bind fun c => if c = true then M.pure true else b := rfl
@[simp] theorem r_fNot (a : M Bool) : fNot a ρ = (a ρ).bind fun c => M.pure (!c) := rfl
@[simp] theorem r_retB (a : M Bool) : retB a ρ = (a ρ).bind fun b => M.pure ⟨.bl b, false⟩ := rfl
@[simp] theorem r_fAndV (a : M Bool) : fAndV a g ρ = (a ρ).bind fun c => if c = true then g else M.pure ⟨.bl false, false⟩ := rfl
@[simp] theorem r_fOrV (a : M Bool) : fOrV a g ρ = (a ρ).bind fun c => if c = true then M.pure ⟨.bl true, false⟩ else g := rfl
@[simp] theorem r_fChain (h h' : D → D → Option R) (fa fb fc : M O) : fChain h h' fa fb fc ρ = (fa ρ).bind fun a => M.bind fb fun b => M.bind (boolR (lift2 h a b)) fun k => if k = true then M.bind fc fun c => lift2 h' b c else M.pure ⟨.bl false, false⟩ := rfl
@[simp] theorem r_fSlice (fa : M O) (fl fh : M (Option Int)) : fSlice fa fl fh ρ = (fa ρ).bind fun a => M.bind fl fun l => M.bind fh fun h => lift1 (cutD l h) a := rfl
@[simp] theorem r_partI : partI f ρ = (f ρ).bind fun r => match r with | ⟨.int i, false⟩ => M.pure (some i) | _ => fun _ => .bad := rfl
@[simp] theorem r_sDrop : sDrop f ρ = (f ρ).bind fun _ => M.pure .next := rfl
@[simp] theorem r_sRet : sRet f ρ = (f ρ).bind fun r => M.pure (.ret r) := rfl
@[simp] theorem r_sSet (i : Nat) : sSet i f ρ = (f ρ).bind fun r ρ => if i < ρ.length then .ok .next (setR i r ρ) else .bad := rfl
@[simp] theorem r_sNext : sNext ρ = .ok .next ρ := rfl
@[simp] theorem r_sSeq (a b : M Fl) : sSeq a b ρ = match a ρ with | .ok .next ρ1 => b ρ1 | x => x := rfl
@[simp] theorem r_sIf (c : M Bool) (a b : M Fl) : sIf c a b ρ = (c ρ).bind fun c => if c = true then a else b := rfl
@[simp] theorem r_sPar (i j : Nat) : sPar i j f g ρ = (f ρ).bind fun r => M.bind g fun q => fun ρ => if i < ρ.length ∧ j < ρ.length then .ok .next (setR j q (setR i r ρ)) else .bad := rfl
@[simp] theorem r_setRt (i : Nat) (d : D) : setR i ⟨d, true⟩ ρ = ρ.set i (.own d) := rfl
@[simp] theorem r_setRf (i : Nat) (d : D) : setR i ⟨d, false⟩ ρ = ρ.set i (.val d) := rfl
@[simp] theorem r_sPut (i : Nat) : sPut i f g ρ = (g ρ).bind fun r => M.bind (M.pure r.d) fun d => M.bind (chkT "list" (.r i)) fun _ => M.bind (shareD f) fun k => putS i k d := by
  unfold sPut
  simp only [r_bind, r_shareD]
  cases g ρ <;> rfl
@[simp] theorem r_putS (i : Nat) (k d : D) : putS i k d ρ = match ρ[i]?, k with
  | some (.own (.lst xs)), .int z => (match ixN xs.length z with | some j => .ok .next (ρ.set i (.own (.lst (xs.set j d)))) | none => .bad)
  | _, _ => .bad := rfl
@[simp] theorem r_sFor (fi : M (List D)) (ft : D → List S → Option (List S)) (fb : M Fl) : sFor fi ft fb ρ = (fi ρ).bind fun xs => loopL ft fb xs := rfl
@[simp] theorem r_fIter (sel : D → Option (List D)) : fIter sel f ρ = (f ρ).bind fun r => match sel r.d with | some xs => M.pure xs | none => fun _ => .bad := by
  unfold fIter
  simp only [r_bind, r_shareO]
  cases f ρ <;> rfl
@[simp] theorem r_fRng1 (fs : M (List O)) : fRng1 fs ρ = (fs ρ).bind fun os => match intsOf os with
  | some [j] => gd (in62 j) (M.pure (rngD 0 j.toNat))
  | _ => fun _ => .bad := rfl
@[simp] theorem r_fCall (fx : List Nat) (F : M R) (n : Nat) (fa : M (List O)) : fCall fx F n fa ρ = (fa ρ).bind fun os => gd (decide (os.length = n)) (callM fx F os) := rfl
@[simp] theorem r_fCallK (fx : List Nat) (F : M R) (n m : Nat) (spec : List (Nat × Nat)) (dd : List D) (fa fk : M (List O)) : fCallK fx F n m spec dd fa fk ρ =
  (fa ρ).bind fun os => M.bind fk fun zs => gd (decide (os.length = n) && decide (zs.length = m)) (callM fx F (arr spec os (dd.map O.v) zs)) := rfl
@[simp] theorem r_callM (fx : List Nat) (F : M R) (os : List O) : callM fx F os ρ = match argSs ρ os with
  | some ss => if nodupB (lent os) = true ∧ lentOk fx 0 os = true then (match F ss with
      | .ok r ss' => .ok r (backO ρ os ss')
      | .exc c d ss' => .exc c d (backO ρ os ss')
      | .bad => .bad) else .bad
  | none => .bad := rfl
@[simp] theorem r_argSs0 : argSs ρ [] = some [] := rfl
@[simp] theorem r_argSs1 (o : O) (os : List O) : argSs ρ (o :: os) = match argS ρ o, argSs ρ os with
    | some s, some ss => some (s :: ss)
    | _, _ => none := rfl
@[simp] theorem r_argSv (d : D) : argS ρ (.v d) = some (.val d) := rfl
@[simp] theorem r_argSr (i : Nat) : argS ρ (.r i) = match ρ[i]? with
  | some (.own d) => some (.own d)
  | some (.val d) => some (.val d)
  | _ => none := rfl
@[simp] theorem r_lent0 : lent [] = [] := rfl
@[simp] theorem r_lentv (d : D) (os : List O) : lent (.v d :: os) = lent os := rfl
@[simp] theorem r_lentr (i : Nat) (os : List O) : lent (.r i :: os) = i :: lent os := rfl
@[simp] theorem r_lok0 (fx : List Nat) (k : Nat) : lentOk fx k [] = true := rfl
@[simp] theorem r_lokv (fx : List Nat) (k : Nat) (d : D) (os : List O) : lentOk fx k (.v d :: os) = lentOk fx (k + 1) os := rfl
@[simp] theorem r_lokr (fx : List Nat) (k : Nat) (i : Nat) (os : List O) : lentOk fx k (.r i :: os) = (fx.contains k && lentOk fx (k + 1) os) := rfl
@[simp] theorem r_nodup0 : nodupB [] = true := rfl
@[simp] theorem r_nodup1 (i : Nat) : nodupB [i] = true := by simp [nodupB]
@[simp] theorem r_back0 (ss : List S) : backO ρ [] ss = ρ := by cases ss <;> rfl
@[simp] theorem r_backv (d : D) (os : List O) (s : S) (ss : List S) : backO ρ (.v d :: os) (s :: ss) = backO ρ os ss := rfl
@[simp] theorem r_backr (i : Nat) (os : List O) (s : S) (ss : List S) : backO ρ (.r i :: os) (s :: ss) = (backO ρ os ss).set i (match ρ[i]? with | some (.own _) => s | some x => x | none => .un) := rfl
@[simp] theorem r_body (fx : List Nat) (n N : Nat) (fb : M Fl) : bodyF fx n N fb ρ = match fb (ρ ++ List.replicate (N - n) .un) with
  | .ok .next ρ => .ok ⟨.non, false⟩ (outs fx n ρ)
  | .ok (.ret r) ρ => .ok r (outs fx n ρ)
  | .ok _ _ => .bad
  | .exc c d ρ => .exc c d (outs fx n ρ)
  | .bad => .bad := rfl
@[simp] theorem r_loop0 (ft : D → List S → Option (List S)) (fb : M Fl) : loopL ft fb [] ρ = .ok .next ρ := rfl
@[simp] theorem r_tName (i : Nat) (d : D) : tName i d ρ = if i < ρ.length then some (ρ.set i (.val d)) else none := rfl
end
/-! operations on known data -/
@[simp] theorem d_add (i j : Int) : addD (.int i) (.int j) = some ⟨.int (i + j), false⟩ := rfl
@[simp] theorem d_sub (i j : Int) : subD (.int i) (.int j) = some ⟨.int (i - j), false⟩ := rfl
theorem d_mul {i j : Int} (h : okMul i j = true) : mulD (.int i) (.int j) = some ⟨.int (i * j), false⟩ := if_pos h
theorem d_fdiv {i j : Int} (h : okDiv j = true) : fdivD (.int i) (.int j) = some ⟨.int (i / j), false⟩ := if_pos h
theorem d_mod {i j : Int} (h : 0 < j) : modD (.int i) (.int j) = some ⟨.int (i % j), false⟩ := if_pos h
theorem d_pow {i j : Int} (h : okPow i j = true) : powD (.int i) (.int j) = some ⟨.int (i ^ j.toNat), false⟩ := if_pos h
theorem d_shl {i j : Int} (h : okPow i j = true) : shlD (.int i) (.int j) = some ⟨.int (i * 2 ^ j.toNat), false⟩ := if_pos h
@[simp] theorem d_lt (i j : Int) : ltD (.int i) (.int j) = some ⟨.bl (decide (i < j)), false⟩ := rfl
@[simp] theorem d_le (i j : Int) : leD (.int i) (.int j) = some ⟨.bl (decide (i ≤ j)), false⟩ := rfl
@[simp] theorem d_gt (i j : Int) : gtD (.int i) (.int j) = some ⟨.bl (decide (j < i)), false⟩ := rfl
@[simp] theorem d_ge (i j : Int) : geD (.int i) (.int j) = some ⟨.bl (decide (j ≤ i)), false⟩ := rfl
@[simp] theorem d_int1 (i : Int) : intD1 [.int i] = some ⟨.int i, false⟩ := rfl
@[simp] theorem d_int2 (b : Bool) : intD1 [.bl b] = some ⟨.int (if b then 1 else 0), false⟩ := rfl
@[simp] theorem d_max (i j : Int) : maxD [.int i, .int j] = some ⟨.int (if j > i then j else i), false⟩ := rfl
@[simp] theorem d_lenl (ds : List D) : lenD [.lst ds] = some ⟨.int (ds.length : Nat), false⟩ := rfl
@[simp] theorem d_lent (ds : List D) : lenD [.tup ds] = some ⟨.int (ds.length : Nat), false⟩ := rfl
@[simp] theorem d_isn (d : D) : isND d .non = some ⟨.bl (isNonD d), false⟩ := by cases d <;> rfl
@[simp] theorem d_isnn (d : D) : notND d .non = some ⟨.bl (!isNonD d), false⟩ := by cases d <;> rfl
@[simp] theorem d_isi1 (T : String) (i : Int) : isiD T (.int i) = some ⟨.bl ("int" == T || ("int" == "bool" && T == "int")), false⟩ := rfl
@[simp] theorem d_isi2 (T : String) (i : Bool) : isiD T (.bl i) = some ⟨.bl ("bool" == T || ("bool" == "bool" && T == "int")), false⟩ := rfl
@[simp] theorem d_isi3 (T : String) (i : List D) : isiD T (.lst i) = some ⟨.bl ("list" == T || ("list" == "bool" && T == "int")), false⟩ := rfl
@[simp] theorem d_isi4 (T : String) (i : List D) : isiD T (.tup i) = some ⟨.bl ("tuple" == T || ("tuple" == "bool" && T == "int")), false⟩ := rfl
@[simp] theorem r_badM {α : Type} (ρ : List S) : (badM : M α) ρ = .bad := rfl
@[simp] theorem d_ix (ds : List D) (i : Int) : ixD (.lst ds) (.int i) = (atI ds i).map fun d => ⟨d, false⟩ := rfl
@[simp] theorem d_ixt (ds : List D) (i : Int) : ixD (.tup ds) (.int i) = (atI ds i).map fun d => ⟨d, false⟩ := rfl
@[simp] theorem d_listl (ds : List D) : listD1 [.lst ds] = some ⟨.lst ds, true⟩ := rfl
@[simp] theorem d_cut (lo hi : Option Int) (ds : List D) : cutD lo hi (.lst ds) = some ⟨.lst (cutL ds lo hi), true⟩ := rfl
@[simp] theorem d_cutc (lo hi : Option Int) (ns : List Int) : cutD lo hi (.con ns) = some ⟨.lst ((cutL ns lo hi).map D.int), true⟩ := rfl
@[simp] theorem d_tyl (ds : List D) : (tyD (.lst ds) == "list") = true := rfl
/-- a step of a loop -/
theorem loop_cons {ft : D → List S → Option (List S)} {fb : M Fl} {d : D} {ds : List D} {ρ ρ1 ρ2 : List S} (h1 : ft d ρ = some ρ1) (h2 : fb ρ1 = .ok .next ρ2) : loopL ft fb (d :: ds) ρ = loopL ft fb ds ρ2 := by
  show (match ft d ρ with
    | none => Res.bad
    | some ρ1 => match fb ρ1 with
      | .ok .next ρ2 => loopL ft fb ds ρ2
      | .ok .cont ρ2 => loopL ft fb ds ρ2
      | .ok .brk ρ2 => .ok .next ρ2
      | .ok (.ret r) ρ2 => .ok (.ret r) ρ2
      | .exc c d ρ2 => .exc c d ρ2
      | .bad => .bad) = _
  rw [h1]
  simp only
  rw [h2]
/-- a loop by an invariant over what is done -/
theorem loop_inv {ft : D → List S → Option (List S)} {fb : M Fl} (I : Nat → List S → Prop) {ds : List D} (step : ∀ (i : Nat) (d : D) (ρ : List S), ds[i]? = some d → I i ρ → ∃ ρ1 ρ2, ft d ρ = some ρ1 ∧ fb ρ1 = .ok .next ρ2 ∧ I (i + 1) ρ2) {ρ : List S} (h : I 0 ρ) :
    ∃ ρ', loopL ft fb ds ρ = .ok .next ρ' ∧ I ds.length ρ' := by
  have key : ∀ (es : List D) (i : Nat) (ρ : List S), ds.drop i = es → i ≤ ds.length → I i ρ → ∃ ρ', loopL ft fb es ρ = .ok .next ρ' ∧ I ds.length ρ' := by
    intro es
    induction es with
    | nil =>
      intro i ρ e hi h
      have : i = ds.length := by
        have := congrArg List.length e
        rw [List.length_drop] at this
        simp at this
        omega
      subst this
      exact ⟨ρ, rfl, h⟩
    | cons d es ih =>
      intro i ρ e hi h
      have hlt : i < ds.length := by
        have := congrArg List.length e
        rw [List.length_drop] at this
        simp at this
        omega
      have e2 := List.drop_eq_getElem_cons hlt
      rw [e] at e2
      have hd : d = ds[i] := (List.cons.inj e2).1
      have he : ds.drop (i + 1) = es := (List.cons.inj e2).2.symm
      obtain ⟨ρ1, ρ2, h1, h2, h3⟩ := step i d ρ (by rw [hd]; exact List.getElem?_eq_getElem hlt) h
      obtain ⟨ρ', h4, h5⟩ := ih (i + 1) ρ2 he hlt h3
      exact ⟨ρ', by rw [loop_cons h1 h2]; exact h4, h5⟩
  exact key ds 0 ρ (List.drop_zero ..) (Nat.zero_le _) h
end DL
set_option Elab.async false
set_option linter.all false
set_option maxRecDepth 100000
namespace DL
open PySem PySem.Spec PyProof.Rows L2
/-! ## data that can be compared -/
mutual
def fine : Nat → D → Bool
  | _, .non => true
  | _, .bl _ => true
  | _, .int _ => true
  | n + 1, .lst ds => fines n ds
  | n + 1, .tup ds => fines n ds
  | _, _ => false
def fines : Nat → List D → Bool
  | _, [] => true
  | n, d :: ds => fine n d && fines n ds
end
mutual
theorem fine_lay : ∀ {n : Nat} {d : D}, fine n d = true → (toP d).canLay0 = true ∧ (toP d).depth ≤ n ∧ PyData.eqv (toP d) (toP d) = true
  | _, .non, _ => by simp [toP, PyData.canLay0, PyData.depth, PyData.eqv]
  | _, .bl _, _ => by simp [toP, PyData.canLay0, PyData.depth, PyData.eqv]
  | _, .int _, _ => by simp [toP, PyData.canLay0, PyData.depth, PyData.eqv]
  | n + 1, .lst ds, h => by
    unfold fine at h
    obtain ⟨a, b, c⟩ := fines_lay h
    refine ⟨by simpa [toP, PyData.canLay0] using a, ?_, by simpa [toP, PyData.eqv] using c⟩
    show PyData.depthAll (toPs ds) + 1 ≤ n + 1
    omega
  | n + 1, .tup ds, h => by
    unfold fine at h
    obtain ⟨a, b, c⟩ := fines_lay h
    refine ⟨by simpa [toP, PyData.canLay0] using a, ?_, by simpa [toP, PyData.eqv] using c⟩
    show PyData.depthAll (toPs ds) + 1 ≤ n + 1
    omega
  | 0, .lst _, h => by unfold fine at h; cases h
  | 0, .tup _, h => by unfold fine at h; cases h
  | _, .str _, h => by unfold fine at h; cases h
  | _, .dic _, h => by unfold fine at h; cases h
  | _, .obj _ _, h => by unfold fine at h; cases h
  | _, .con _, h => by unfold fine at h; cases h
theorem fines_lay : ∀ {n : Nat} {ds : List D}, fines n ds = true → PyData.canLayAll0 (toPs ds) = true ∧ PyData.depthAll (toPs ds) ≤ n ∧ PyData.eqvAll (toPs ds) (toPs ds) = true
  | _, [], _ => by simp [toPs, PyData.canLayAll0, PyData.depthAll, PyData.eqvAll]
  | n, d :: ds, h => by
    unfold fines at h
    rw [Bool.and_eq_true] at h
    obtain ⟨a, b, c⟩ := fine_lay h.1
    obtain ⟨a', b', c'⟩ := fines_lay h.2
    refine ⟨by simp [toPs, PyData.canLayAll0, a, a'], ?_, by simp [toPs, PyData.eqvAll, c, c']⟩
    show max _ _ ≤ n
    exact Nat.max_le.mpr ⟨b, b'⟩
end
theorem fine_ok {n : Nat} {d : D} (h : fine n d = true) (hn : n ≤ 64) : okP d = true := by
  obtain ⟨a, b, _⟩ := fine_lay h
  unfold okP SeqAt.shaped
  rw [a, Bool.true_and]
  exact decide_eq_true (Nat.le_trans b hn)
theorem fines_of {n : Nat} : ∀ {ds : List D}, (∀ d ∈ ds, fine n d = true) → fines n ds = true
  | [], _ => by unfold fines; rfl
  | d :: ds, h => by unfold fines; rw [h d (List.mem_cons_self ..), fines_of fun e he => h e (List.mem_cons_of_mem _ he)]; rfl
theorem fine_lst {n : Nat} {ds : List D} (h : ∀ d ∈ ds, fine n d = true) : fine (n + 1) (.lst ds) = true := by unfold fine; exact fines_of h
theorem fine_tup {n : Nat} {ds : List D} (h : ∀ d ∈ ds, fine n d = true) : fine (n + 1) (.tup ds) = true := by unfold fine; exact fines_of h
@[simp] theorem fine_int (n : Nat) (i : Int) : fine n (.int i) = true := by unfold fine; rfl
@[simp] theorem fine_bl (n : Nat) (i : Bool) : fine n (.bl i) = true := by unfold fine; rfl
@[simp] theorem fine_non (n : Nat) : fine n .non = true := by unfold fine; rfl
theorem d_eq_self {n : Nat} {d : D} (h : fine n d = true) (hn : n ≤ 64) : eqD d d = some ⟨.bl true, false⟩ := by
  unfold eqD
  rw [if_pos ⟨fine_ok h hn, fine_ok h hn⟩]
  unfold eqV2
  rw [(fine_lay h).2.2]
  rfl
theorem d_ne_self {n : Nat} {d : D} (h : fine n d = true) (hn : n ≤ 64) : neD d d = some ⟨.bl false, false⟩ := by
  unfold neD
  rw [if_pos ⟨fine_ok h hn, fine_ok h hn⟩]
  unfold eqV2
  rw [(fine_lay h).2.2]
  rfl
@[simp] theorem d_eq_int (i j : Int) : eqD (.int i) (.int j) = some ⟨.bl (decide (i = j)), false⟩ := by
  unfold eqD
  rw [if_pos ⟨fine_ok (n := 0) (fine_int 0 i) (by decide), fine_ok (n := 0) (fine_int 0 j) (by decide)⟩]
  unfold eqV2 toP
  rw [PyData.eqv]
  rfl
/-! ## comprehensions -/
section
variable {vs : List Nat} {ft : D → List S → Option (List S)} {fc : M Bool} {fe : M R} {ρw : List S}
theorem lc_fm (g : D → Option D) : ∀ {xs acc : List D} {ρ : List S}, wipeS ρ vs = ρw →
    (∀ d ∈ xs, ∃ ρ1 ρ2, ft d ρw = some ρ1 ∧ ((g d = none ∧ fc ρ1 = .ok false ρ2 ∧ wipeS ρ2 vs = ρw) ∨ ∃ ρ3 r, fc ρ1 = .ok true ρ2 ∧ fe ρ2 = .ok r ρ3 ∧ g d = some r.d ∧ wipeS ρ3 vs = ρw)) →
    acc.length + xs.length ≤ sizeD → lcL vs ft fc fe xs acc ρ = .ok (acc ++ xs.filterMap g) ρw
  | [], acc, ρ, hw, _, _ => by unfold lcL; rw [hw]; simp
  | d :: xs, acc, ρ, hw, h, hz => by
    obtain ⟨ρ1, ρ2, h1, h2⟩ := h d (List.mem_cons_self ..)
    have hr := fun e he => h e (List.mem_cons_of_mem d he)
    unfold lcL
    rw [hw, h1]
    rcases h2 with ⟨g1, g2, g3⟩ | ⟨ρ3, r, g1, g2, g3, g4⟩
    · simp only [g2]
      rw [lc_fm g g3 hr (by simp at hz ⊢; omega), List.filterMap_cons, g1]
    · simp only [g1, g2]
      rw [if_pos (by simp at hz; omega), lc_fm g g4 hr (by simp at hz ⊢; omega), List.filterMap_cons, g3]
      simp
theorem lc_map (g : D → D) {xs : List D} {ρ : List S} (hw : wipeS ρ vs = ρw)
    (h : ∀ d ∈ xs, ∃ ρ1 ρ2 ρ3 b, ft d ρw = some ρ1 ∧ fc ρ1 = .ok true ρ2 ∧ fe ρ2 = .ok ⟨g d, b⟩ ρ3 ∧ wipeS ρ3 vs = ρw) (hz : xs.length ≤ sizeD) : lcL vs ft fc fe xs [] ρ = .ok (xs.map g) ρw := by
  have := lc_fm (ft := ft) (fc := fc) (fe := fe) (fun d => some (g d)) (xs := xs) (acc := []) hw (fun d hd => by
    obtain ⟨ρ1, ρ2, ρ3, b, h1, h2, h3, h4⟩ := h d hd
    exact ⟨ρ1, ρ2, h1, .inr ⟨ρ3, _, h2, h3, rfl, h4⟩⟩) (by simpa using hz)
  rw [this, List.nil_append]
  congr 1
  show List.filterMap (some ∘ g) xs = _
  rw [List.filterMap_eq_map]
theorem r_fLc (fi : M (List D)) {ρ : List S} : fLc fi vs ft fc fe ρ = (fi ρ).bind fun xs ρ => if noOwn ρ vs = true then (match lcL vs ft fc fe xs [] ρ with
    | .ok acc ρ' => .ok ⟨.lst acc, true⟩ (backS ρ ρ' vs)
    | _ => .bad) else .bad := rfl
end
@[simp] theorem r_wipe0 (ρ : List S) : wipeS ρ [] = ρ := rfl
@[simp] theorem r_wipe1 (ρ : List S) (v : Nat) (vs : List Nat) : wipeS ρ (v :: vs) = (wipeS ρ vs).set v .un := rfl
@[simp] theorem r_backs0 (ρ0 ρ : List S) : backS ρ0 ρ [] = ρ := rfl
@[simp] theorem r_backs1 (ρ0 ρ : List S) (v : Nat) (vs : List Nat) : backS ρ0 ρ (v :: vs) = (backS ρ0 ρ vs).set v (match ρ0[v]? with | some (.val d) => .val d | _ => .un) := rfl
@[simp] theorem r_noOwn0 (ρ : List S) : noOwn ρ [] = true := rfl
@[simp] theorem r_noOwn1 (ρ : List S) (v : Nat) (vs : List Nat) : noOwn ρ (v :: vs) = ((match ρ[v]? with | some (.own _) => false | _ => true) && noOwn ρ vs) := rfl
@[simp] theorem r_tsNil (ρ : List S) : tsNil [] ρ = some ρ := rfl
@[simp] theorem r_tsCons (f : D → List S → Option (List S)) (g : List D → List S → Option (List S)) (d : D) (ds : List D) (ρ : List S) : tsCons f g (d :: ds) ρ = (f d ρ).bind (g ds) := rfl
@[simp] theorem r_tTuple (n : Nat) (g : List D → List S → Option (List S)) (ds : List D) (ρ : List S) : tTuple n g (.tup ds) ρ = if ds.length = n then g ds ρ else none := rfl
@[simp] theorem r_fRng2 (fs : M (List O)) (ρ : List S) : fRng2 fs ρ = (fs ρ).bind fun os => match intsOf os with
  | some [i, j] => gd (in62 i && in62 j) (M.pure (rngD i (j - i).toNat))
  | _ => fun _ => .bad := rfl
@[simp] theorem r_fEnum (fs : M (List O)) (ρ : List S) : fEnum fs ρ = (fs ρ).bind fun os => orBad (pick1 os) fun ds => M.pure (enumL 0 ds) := rfl
@[simp] theorem r_orBad {α β : Type} (x : α) (k : α → M β) : orBad (some x) k = k x := rfl
@[simp] theorem r_pick1 (ds : List D) : pick1 [.v (.lst ds)] = some ds := rfl
@[simp] theorem r_intsOf0 : intsOf [] = some [] := rfl
@[simp] theorem r_intsOf1 (i : Int) (os : List O) : intsOf (.v (.int i) :: os) = (intsOf os).map (i :: ·) := rfl
@[simp] theorem r_fListEn (f : M R) (ρ : List S) : fListEn f ρ = (f ρ).bind fun r => match r.d with
  | .lst xs => M.pure ⟨.lst (enumL 0 xs), true⟩
  | _ => fun _ => .bad := by
  unfold fListEn
  simp only [r_bind, r_shareD]
  cases f ρ <;> rfl
@[simp] theorem r_fListR1 (f : M R) (ρ : List S) : fListR1 f ρ = (f ρ).bind fun r => match r.d with
  | .int n => gd (okR 0 n) (M.pure ⟨.lst (rngD 0 n.toNat), true⟩)
  | _ => fun _ => .bad := by
  unfold fListR1
  simp only [r_bind, r_shareD]
  cases f ρ <;> rfl
@[simp] theorem r_fListR2 (f g : M R) (ρ : List S) : fListR2 f g ρ = (f ρ).bind fun r => M.bind g fun q => match r.d, q.d with
  | .int a, .int b => gd (okR a b) (M.pure ⟨.lst (rngD a (b - a).toNat), true⟩)
  | _, _ => fun _ => .bad := by
  unfold fListR2
  simp only [r_bind, r_shareD]
  cases h : f ρ with
  | ok a ρ1 =>
    simp only [r_bok, r_pure, r_bind, r_shareD]
    cases g ρ1 <;> rfl
  | exc c d ρ1 => rfl
  | bad => rfl
@[simp] theorem r_fListR3 (fs : M (List O)) (ρ : List S) : fListR3 fs ρ = (fs ρ).bind fun os => match intsOf os with
  | some [i, j, c] => gd (okRg i j c && decide ((Builtin.Range.rangeSize i j c).toNat ≤ sizeD)) (M.pure ⟨.lst (rngC i c (Builtin.Range.rangeSize i j c).toNat), true⟩)
  | _ => fun _ => .bad := rfl
@[simp] theorem r_sAugIx (f : Int → Int → Int) (i : Nat) (fk fe : M R) (ρ : List S) : sAugIx f i fk fe ρ = (chkT "list" (.r i) ρ).bind fun _ => M.bind (shareD fk) fun k => M.bind (getInt i k) fun a => M.bind (shareD fe) fun d => match d with
  | .int b => putS i k (.int (f a b))
  | _ => fun _ => .bad := rfl
@[simp] theorem r_getInt (i : Nat) (k : D) (ρ : List S) : getInt i k ρ = match ρ[i]?, k with
  | some (.own (.lst xs)), .int z => (match L2.atI xs z with | some (.int a) => .ok a ρ | _ => .bad)
  | _, _ => .bad := rfl
theorem atI_nat {α : Type} {xs : List α} {j : Nat} (h : j < xs.length) : L2.atI xs (j : Int) = some xs[j] := by
  unfold L2.atI ixN
  rw [if_pos (by omega), if_pos (by omega)]
  show xs[(j : Int).toNat]? = _
  rw [Int.toNat_natCast]
  exact List.getElem?_eq_getElem h
theorem ixN_nat {n j : Nat} (h : j < n) : ixN n (j : Int) = some j := by
  unfold ixN
  rw [if_pos (by omega), if_pos (by omega), Int.toNat_natCast]
theorem enumL_map (ds : List D) : enumL 0 ds = ds.mapIdx fun k d => D.tup [.int (k : Int), d] := by
  rw [enumL_append 0 ds]
  congr 1
  funext k d
  rw [Nat.zero_add]
theorem in62_nat {n : Nat} (h : n < 2 ^ 62) : in62 (n : Int) = true := by
  unfold in62
  simp only [Bool.and_eq_true, decide_eq_true_eq]
  omega
end DL
namespace DL
open PySem PySem.Spec PyProof.Rows L2
section
variable {τ : Type} {vs : List Nat} {ft : D → List S → Option (List S)} {fc : M Bool} {fe : M R} {ρw : List S}
theorem lc_fmF (f : τ → D) (g : τ → Option D) : ∀ {ps : List τ} {acc : List D} {ρ : List S}, wipeS ρ vs = ρw →
    (∀ p ∈ ps, ∃ ρ1 ρ2, ft (f p) ρw = some ρ1 ∧ ((g p = none ∧ fc ρ1 = .ok false ρ2 ∧ wipeS ρ2 vs = ρw) ∨ ∃ ρ3 r, fc ρ1 = .ok true ρ2 ∧ fe ρ2 = .ok r ρ3 ∧ g p = some r.d ∧ wipeS ρ3 vs = ρw)) →
    acc.length + ps.length ≤ sizeD → lcL vs ft fc fe (ps.map f) acc ρ = .ok (acc ++ ps.filterMap g) ρw
  | [], acc, ρ, hw, _, _ => by rw [List.map_nil]; unfold lcL; rw [hw]; simp
  | p :: ps, acc, ρ, hw, h, hz => by
    obtain ⟨ρ1, ρ2, h1, h2⟩ := h p (List.mem_cons_self ..)
    have hr := fun e he => h e (List.mem_cons_of_mem p he)
    rw [List.map_cons]
    unfold lcL
    rw [hw, h1]
    rcases h2 with ⟨g1, g2, g3⟩ | ⟨ρ3, r, g1, g2, g3, g4⟩
    · simp only [g2]
      rw [lc_fmF f g g3 hr (by simp at hz ⊢; omega), List.filterMap_cons, g1]
    · simp only [g1, g2]
      rw [if_pos (by simp at hz; omega), lc_fmF f g g4 hr (by simp at hz ⊢; omega), List.filterMap_cons, g3]
      simp
theorem lc_mapF (f g : τ → D) {ps : List τ} {ρ : List S} (hw : wipeS ρ vs = ρw)
    (h : ∀ p ∈ ps, ∃ ρ1 ρ2 ρ3 b, ft (f p) ρw = some ρ1 ∧ fc ρ1 = .ok true ρ2 ∧ fe ρ2 = .ok ⟨g p, b⟩ ρ3 ∧ wipeS ρ3 vs = ρw) (hz : ps.length ≤ sizeD) : lcL vs ft fc fe (ps.map f) [] ρ = .ok (ps.map g) ρw := by
  have := lc_fmF (ft := ft) (fc := fc) (fe := fe) f (fun d => some (g d)) (ps := ps) (acc := []) hw (fun d hd => by
    obtain ⟨ρ1, ρ2, ρ3, b, h1, h2, h3, h4⟩ := h d hd
    exact ⟨ρ1, ρ2, h1, .inr ⟨ρ3, _, h2, h3, rfl, h4⟩⟩) (by simpa using hz)
  rw [this, List.nil_append]
  congr 1
  show List.filterMap (some ∘ g) ps = _
  rw [List.filterMap_eq_map]
theorem enumL_zip (f : τ → D) (ps : List τ) : enumL 0 (ps.map f) = ps.zipIdx.map fun q => D.tup [.int (q.2 : Int), f q.1] := by
  have key : ∀ (ps : List τ) (n : Nat), enumL n (ps.map f) = (ps.zipIdx n).map fun q => D.tup [.int (q.2 : Int), f q.1] := by
    intro ps
    induction ps with
    | nil => intro n; rfl
    | cons p ps ih =>
      intro n
      rw [List.map_cons, List.zipIdx_cons, List.map_cons, ← ih (n + 1)]
      rfl
  exact key ps 0
end
/-- a while by a measure -/
theorem while_inv {c : M Bool} {b : M Fl} (I : List S → Prop) (m : List S → Nat) (step : ∀ ρ, I ρ → (∃ ρ', c ρ = .ok false ρ' ∧ I ρ') ∨ ∃ ρ1 ρ2, c ρ = .ok true ρ1 ∧ b ρ1 = .ok .next ρ2 ∧ I ρ2 ∧ m ρ2 < m ρ) {ρ : List S} (h : I ρ) :
    ∃ ρ', sWhile c b ρ = .ok .next ρ' ∧ I ρ' := by
  have key : ∀ (k : Nat) (ρ : List S), m ρ ≤ k → I ρ → ∃ n ρ', whileN c b n ρ = .ok .next ρ' ∧ I ρ' := by
    intro k
    induction k with
    | zero =>
      intro ρ hm h
      rcases step ρ h with ⟨ρ', e, h'⟩ | ⟨ρ1, ρ2, e1, e2, h', l⟩
      · exact ⟨1, ρ', by unfold whileN; rw [e], h'⟩
      · omega
    | succ k ih =>
      intro ρ hm h
      rcases step ρ h with ⟨ρ', e, h'⟩ | ⟨ρ1, ρ2, e1, e2, h', l⟩
      · exact ⟨1, ρ', by unfold whileN; rw [e], h'⟩
      · obtain ⟨n, ρ', e3, h3⟩ := ih ρ2 (by omega) h'
        refine ⟨n + 1, ρ', ?_, h3⟩
        unfold whileN
        rw [e1]
        simp only
        rw [e2]
        exact e3
  obtain ⟨n, ρ', e, h'⟩ := key (m ρ) ρ (Nat.le_refl _) h
  refine ⟨ρ', ?_, h'⟩
  rw [sWhile_eq (n := n) (by rw [e]; intro z; cases z)]
  exact e
@[simp] theorem d_suml (ns : List Int) : sumD [.lst (ns.map D.int)] = some ⟨.int ns.sum, false⟩ := by
  show ((intsD (ns.map D.int)).bind fun ns => ri ns.sum) = _
  rw [intsD_map]; rfl
theorem d_maxl {ns : List Int} (h : ns ≠ []) : maxD [.lst (ns.map D.int)] = some ⟨.int (maxL ns), false⟩ := by
  show (intsD (ns.map D.int)).bind (ne1 maxL) = _
  rw [intsD_map]
  cases ns with
  | nil => exact absurd rfl h
  | cons n ns => rfl
theorem d_indexI {ns : List Int} {k : Int} (h : k ∈ ns) : ∃ j, j < ns.length ∧ indexD (.lst (ns.map D.int)) [.int k] = some ⟨.int (j : Nat), false⟩ := by
  have o1 : okP (.lst (ns.map D.int)) = true := fine_ok (n := 1) (fine_lst fun d hd => by
    obtain ⟨i, _, rfl⟩ := List.mem_map.mp hd
    exact fine_int 0 i) (by decide)
  have o2 : okP (.int k) = true := fine_ok (n := 0) (fine_int 0 k) (by decide)
  cases q : (toPs (ns.map D.int)).findIdx? fun z => PyData.eqv z (toP (.int k)) with
  | none =>
    rw [List.findIdx?_eq_none_iff] at q
    have : toP (.int k) ∈ toPs (ns.map D.int) := by
      rw [toPs_map]
      exact List.mem_map.mpr ⟨.int k, List.mem_map.mpr ⟨k, h, rfl⟩, rfl⟩
    have z := q _ this
    rw [(fine_lay (fine_int 0 k)).2.2] at z
    cases z
  | some j =>
    refine ⟨j, ?_, ?_⟩
    · rw [List.findIdx?_eq_some_iff_getElem] at q
      obtain ⟨hj, _⟩ := q
      rw [toPs_map] at hj
      simpa using hj
    · show (if okP (.lst (ns.map D.int)) = true ∧ okP (.int k) = true then ((toPs (ns.map D.int)).findIdx? fun z => PyData.eqv z (toP (.int k))).bind fun j => ri (j : Nat) else none) = _
      rw [if_pos ⟨o1, o2⟩, q]
      rfl
end DL
set_option Elab.async false
set_option linter.all false
set_option maxRecDepth 100000
set_option maxHeartbeats 1000000
namespace DL
open PySem PySem.Spec PyProof.Rows L2
/-! ## a list that is thrown away: x = f(..); a statement that looks; for r in x[:1]: r.clear() -/
def maskS (isL : Bool) : S → S
  | .val (.int i) => .val (.int i)
  | .val .non => .val .non
  | .val (.bl b) => .val (.bl b)
  | .val (.lst ds) => if isL = true ∧ (intsD ds).isSome = true then .val (.lst ds) else .un
  | _ => .un
def maskA (l : Nat) (ρ : List S) : List S := ρ.mapIdx fun k s => maskS (decide (k = l)) s
def toVal : S → S
  | .own d => .val d
  | s => s
def headOk : List D → Bool
  | [] => true
  | .lst (.tup _ :: _) :: _ => true
  | _ => false
def sScrap (l i j nB : Nat) (fA : M R) (fB : M Fl) : M Fl := fun ρ => match fA (maskA l ρ) with
  | .ok ⟨.lst rows, true⟩ _ => (match fB ((ρ.map toVal).set i (.val (.lst rows))) with
    | .ok .next ρ2 => if headOk rows = true ∧ i < ρ.length ∧ j < ρ.length ∧ i ≠ j ∧ ρ.length ≤ nB ∧ ρ2.length = ρ.length then .ok .next ((ρ.set i .un).set j .un) else .bad
    | _ => .bad)
  | _ => .bad
section
variable {X : Cx} {G : GC} {W : WX} {fx : List Nat} {E : Ent} {σ : L2.St} {ρ : List S} {Hm H : Hp}
/-- the line's cell alone -/
def cellA (σ : L2.St) (l : Nat) (H : Hp) : Hp := fun a => if σ[l]? = some (some (V.ref a)) then (match H a with | some (.lst (V.int i :: r)) => some (.lst (V.int i :: r)) | some (.lst []) => some (.lst []) | _ => none) else none
theorem cellA_sub {l : Nat} : Same (cellA σ l H) H := fun a o e => by
  unfold cellA at e
  by_cases c : σ[l]? = some (some (V.ref a))
  · rw [if_pos c] at e
    split at e
    · rename_i q; rw [q]; exact e
    · rename_i q; rw [q]; exact e
    · cases e
  · rw [if_neg c] at e; cases e
theorem RE.mask (re : RE G E σ ρ Hm H) (l : Nat) : RE G ⟨H, cellA σ l H, [], σ, []⟩ σ (maskA l ρ) (cellA σ l H) H := by
  refine ⟨cellA_sub, by unfold maskA; rw [List.length_mapIdx]; exact re.len, fun k s hk => ?_, fun a b s t p _ ha _ os _ _ _ => ?_, (fun _ h => nomatch h), fun _ _ e _ => e, Same.refl _, fun _ _ e => .inl e⟩
  · unfold maskA at hk
    rw [List.getElem?_mapIdx] at hk
    cases q : ρ[k]? with
    | none => rw [q] at hk; cases hk
    | some s0 =>
      rw [q] at hk
      have e : maskS (decide (k = l)) s0 = s := Option.some.inj hk
      have so := re.sl k s0 q
      cases s0 with
      | un => subst e; trivial
      | own d => subst e; trivial
      | val d =>
        obtain ⟨v, e1, r⟩ := so
        cases d with
        | int i => subst e; exact ⟨v, e1, by unfold Rep at *; exact r⟩
        | non => subst e; exact ⟨v, e1, by unfold Rep at *; exact r⟩
        | bl b => subst e; exact ⟨v, e1, by unfold Rep at *; exact r⟩
        | lst ds =>
          have e : (if decide (k = l) = true ∧ (intsD ds).isSome = true then S.val (.lst ds) else S.un) = s := e
          by_cases c : decide (k = l) = true ∧ (intsD ds).isSome = true
          · rw [if_pos c] at e
            subst e
            have ck := of_decide_eq_true c.1
            subst ck
            obtain ⟨ns, hn⟩ := Option.isSome_iff_exists.mp c.2
            unfold Rep at r
            obtain ⟨a, vs, ev, ha, hr⟩ := r
            subst ev
            rw [intsD_eq hn] at hr ⊢
            have hv := hr.ints
            subst hv
            refine ⟨_, e1, ?_⟩
            unfold Rep
            refine ⟨a, ns.map V.int, rfl, ?_, Reps.ofInts ns⟩
            unfold cellA
            rw [if_pos e1, re.sub a _ ha]
            cases ns with
            | nil => rfl
            | cons n ns => rfl
          · rw [if_neg c] at e; subst e; trivial
        | _ => subst e; trivial
  · unfold maskA at ha
    rw [List.getElem?_mapIdx] at ha
    cases q : ρ[a]? with
    | none => rw [q] at ha; cases ha
    | some s0 =>
      rw [q] at ha
      have e : maskS (decide (a = l)) s0 = s := Option.some.inj ha
      cases s0 with
      | un => subst e; cases os
      | own d => subst e; cases os
      | val d =>
        cases d with
        | lst ds =>
          have e : (if decide (a = l) = true ∧ (intsD ds).isSome = true then S.val (.lst ds) else S.un) = s := e
          by_cases c : decide (a = l) = true ∧ (intsD ds).isSome = true
          · rw [if_pos c] at e; subst e; cases os
          · rw [if_neg c] at e; subst e; cases os
        | _ => subst e; cases os
/-- the names as they were, behind a time that kept what stood -/
theorem RE.after {σ3 : L2.St} {H3 : Hp} {i j : Nat} (re : RE G E σ ρ Hm H) (k : Same H H3) (hl : σ3.length = σ.length) (hs : ∀ m, m ≠ i → m ≠ j → σ3[m]? = σ[m]?) (hi : i ∉ E.fx) (hj : j ∉ E.fx) : RE G E σ3 ((ρ.set i .un).set j .un) Hm H3 := by
  have at_ : ∀ (m : Nat) (s : S), ((ρ.set i S.un).set j S.un)[m]? = some s → s = .un ∨ (m ≠ i ∧ m ≠ j ∧ ρ[m]? = some s) := fun m s e => by
    by_cases c : m = j
    · subst c
      by_cases q : m < (ρ.set i S.un).length
      · rw [List.getElem?_set_self q] at e; cases e; exact .inl rfl
      · rw [List.getElem?_eq_none (by rw [List.length_set]; omega)] at e; cases e
    · rw [List.getElem?_set_ne (Ne.symm c)] at e
      by_cases c2 : m = i
      · subst c2
        by_cases q : m < ρ.length
        · rw [List.getElem?_set_self q] at e; cases e; exact .inl rfl
        · rw [List.getElem?_eq_none (by rw [List.length_set]; omega)] at e; cases e
      · rw [List.getElem?_set_ne (Ne.symm c2)] at e
        exact .inr ⟨c2, c, e⟩
  refine ⟨re.sub.trans k, by rw [List.length_set, List.length_set, re.len, hl], fun m s e => ?_, fun a b s t p n ha hb os ot ea eb => ?_, fun m hm => ?_, fun a o e n => k a o (re.pres a o e n), re.mono, re.frsh⟩
  · rcases at_ m s e with q | ⟨n1, n2, q⟩
    · subst q; trivial
    · rw [hs m n1 n2]
      have so := re.sl m s q
      cases s with
      | un => trivial
      | val d => exact so
      | own d =>
        obtain ⟨p, o, e1, n, t, tp, z⟩ := so
        exact ⟨p, o, e1, n, k _ _ t, tp, z⟩
  · rcases at_ a s ha with q | ⟨n1, n2, q⟩
    · subst q; cases os
    · rcases at_ b t hb with q' | ⟨n3, n4, q'⟩
      · subst q'; cases ot
      · rw [hs a n1 n2] at ea
        rw [hs b n3 n4] at eb
        exact re.sep a b s t p n q q' os ot ea eb
  · rw [hs m (fun z => hi (z ▸ hm)) (fun z => hj (z ▸ hm))]
    exact re.fix m hm
/-- all names as shared values, the thrown-away list among them -/
def hpB (σ : L2.St) (ρ : List S) (Hm H Hm1 : Hp) (p : Addr) (o : HO) : Hp := fun a => if a = p then some o else match Hm1 a with
  | some x => some x
  | none => if a ∈ ownAddrs σ ρ then H a else Hm a
theorem RE.allVal {Hm1 H1 : Hp} {i : Nat} {p : Addr} {vs : List V} {rows : List D} {nB : Nat} (re : RE G E σ ρ Hm H) (k : Same H H1) (s1 : Same Hm1 H1) (hp : H p = none) (hp1 : Hm1 p = none) (ho : H1 p = some (.lst vs)) (hr : Reps G Hm1 rows vs) (hi : i < ρ.length) :
    RE G ⟨H1, hpB σ ρ Hm H Hm1 p (.lst vs), [], σ.set i (some (.ref p)), List.range nB⟩ (σ.set i (some (.ref p))) ((ρ.map toVal).set i (.val (.lst rows))) (hpB σ ρ Hm H Hm1 p (.lst vs)) H1 := by
  have sub1 : Same Hm1 (hpB σ ρ Hm H Hm1 p (.lst vs)) := fun a o e => by
    unfold hpB
    rw [if_neg (fun z => by rw [z, hp1] at e; cases e), e]
  have subM : Same Hm (hpB σ ρ Hm H Hm1 p (.lst vs)) := fun a o e => by
    have eh := re.sub a o e
    unfold hpB
    rw [if_neg (fun z => by rw [z, hp] at eh; cases eh)]
    cases q : Hm1 a with
    | some x =>
      have z1 := s1 a x q
      rw [k a o eh] at z1
      exact congrArg some (Option.some.inj z1).symm
    | none =>
      simp only
      by_cases c : a ∈ ownAddrs σ ρ
      · rw [if_pos c]; exact eh
      · rw [if_neg c]; exact e
  have subO : ∀ a o, a ∈ ownAddrs σ ρ → H a = some o → hpB σ ρ Hm H Hm1 p (.lst vs) a = some o := fun a o c eh => by
    unfold hpB
    rw [if_neg (fun z => by rw [z, hp] at eh; cases eh)]
    cases q : Hm1 a with
    | some x =>
      have z1 := s1 a x q
      rw [k a o eh] at z1
      exact congrArg some (Option.some.inj z1).symm
    | none => simp only; rw [if_pos c]; exact eh
  have tot : Same (hpB σ ρ Hm H Hm1 p (.lst vs)) H1 := fun a o e => by
    unfold hpB at e
    by_cases c : a = p
    · rw [if_pos c] at e; rw [c, ho]; exact e
    · rw [if_neg c] at e
      cases q : Hm1 a with
      | some x => rw [q] at e; rw [s1 a x q]; exact e
      | none =>
        rw [q] at e
        simp only at e
        by_cases c2 : a ∈ ownAddrs σ ρ
        · rw [if_pos c2] at e; exact k a o e
        · rw [if_neg c2] at e; exact k a o (re.sub a o e)
  have hil : i < σ.length := by rw [← re.len]; exact hi
  have noOwn : ∀ (m : Nat) (s : S), ((ρ.map toVal).set i (.val (.lst rows)))[m]? = some s → isOwn s = false := fun m s e => by
    by_cases c : m = i
    · subst c
      rw [List.getElem?_set_self (by rw [List.length_map]; exact hi)] at e; cases e; rfl
    · rw [List.getElem?_set_ne (Ne.symm c), List.getElem?_map] at e
      cases q : ρ[m]? with
      | none => rw [q] at e; cases e
      | some s0 => rw [q] at e; cases e; cases s0 <;> rfl
  refine ⟨tot, by rw [List.length_set, List.length_set, List.length_map, re.len], fun m s e => ?_, fun a b s t q _ ha _ os _ _ _ => ?_, fun _ _ => rfl, fun _ _ e _ => e, Same.refl _, fun _ _ e => .inl e⟩
  · by_cases c : m = i
    · subst c
      rw [List.getElem?_set_self (by rw [List.length_map]; exact hi)] at e
      cases e
      rw [List.getElem?_set_self hil]
      refine ⟨.ref p, rfl, ?_⟩
      unfold Rep
      exact ⟨p, vs, rfl, by unfold hpB; rw [if_pos rfl], hr.mono sub1⟩
    · rw [List.getElem?_set_ne (Ne.symm c), List.getElem?_map] at e
      rw [List.getElem?_set_ne (Ne.symm c)]
      cases q : ρ[m]? with
      | none => rw [q] at e; cases e
      | some s0 =>
        rw [q] at e
        cases e
        have so := re.sl m s0 q
        cases s0 with
        | un => trivial
        | val d => obtain ⟨v, e1, r⟩ := so; exact ⟨v, e1, r.mono subM⟩
        | own d =>
          obtain ⟨p2, o, e1, n, t, tp, z⟩ := so
          exact ⟨.ref p2, e1, (tp.mono subM).rep (subO p2 o (mem_own.mpr ⟨m, _, q, rfl, e1⟩) t)⟩
  · rw [noOwn a s ha] at os; cases os
/-- for r in x[:1]: r.clear() -/
theorem ps_clr1 {i j : Nat} {xi xj : Str} {p1 p2 p3 p4 p5 p6 apos cpos epos fpos : Pos} {kk : Nat} (hp : PassesOwn (model X.prog X.w) X.A X.env X.xe) (hc : X.calm = true) (hN : X.N.Nodup) (hij : i ≠ j) (hxj : X.N[j]? = some xj) (hlj : Loc X.env.scope xj)
    (ei : PE X (.Name xi p2) (tVar i)) (ej : PE X (.Name xj p6) (tVar j))
    (hcj : X.fn xj = true ∨ X.env.scope.names.lookup xj = some .local := by first | exact .inl rfl | exact .inr rfl | assumption)
    (hbase : attributeBase (.Name xj p6) "clear" X.env (eval (.Name xj p6) X.env) = eval (.Name xj p6) X.env := by rfl) (hline : (apos.endLine == cpos.line) = true := by rfl)
    (hsw : swapsWith (.Call (.Attribute (.Name xj p6) "clear" apos) [] [] cpos) none epos.line X.env = pure false := by rfl)
    (hs : ∀ x, foldedSetIterable (.Subscript (.Name xi p2) (.Slice none (some (.Constant (.int 1) kk p3)) none p4) p5) X.env x = pure x := by intro _; rfl) :
    ∃ t, PS X (.For (.Name xj p1) (.Subscript (.Name xi p2) (.Slice none (some (.Constant (.int 1) kk p3)) none p4) p5) [.Expr (.Call (.Attribute (.Name xj p6) "clear" apos) [] [] cpos) epos] [] fpos) t ∧
      ∀ (D : Ends) (σ : L2.St) (H : Hp) (p : Addr) (vs : List V), σ[i]? = some (some (.ref p)) → H p = some (.lst vs) → j < σ.length →
        ((vs = [] ∧ ∀ s, H s = none → D.nx σ (upd H s (.lst []))) ∨ ∃ q r ws, vs = .ref q :: r ∧ H q = some (.lst ws) ∧ ∀ s, H s = none → D.nx (σ.set j (some (.ref q))) (upd (upd H s (.lst [.ref q])) q (.lst []))) → t D σ H := by
  have pit := pe_slice (p2 := p4) (pos := p5) sl_list ei po_none (po_some (pe_int (i := 1) (j := kk) (pos := p3)))
  have pb := pss_one (ps_expr (pos := epos) (pe_bm0 (X := X) (apos := apos) (cpos := cpos) PySem.F.plainAttrs_list PySem.F.slot_list_clear PySem.F.type_list_clear mt_clear ej hbase hline) hsw)
  refine ⟨_, ps_for hp hc (pi_list pit) (pg_name (pos := p1) hN hxj hlj hcj) pb hs, fun D σ H p vs h1 h2 hj h => ?_⟩
  refine ⟨.ref p, h1, 1, rfl, p, vs, rfl, .inl (.inl h2), fun s hsn => ?_⟩
  have ec : cutV vs none (some 1) = vs.take 1 := by
    unfold cutV HT.sIx
    simp only [List.drop_zero, Nat.sub_zero]
    rw [if_neg (by decide), List.take_eq_take_iff]
    simp
  rw [ec]
  refine ⟨s, rfl, ⟨_, .inl (.inl upd_same)⟩, ?_⟩
  rcases h with ⟨rfl, hn⟩ | ⟨q, r, ws, rfl, hq, hn⟩
  · exact for_list (K := X.K) (a := s) (xs := []) (fun k σ' H' => σ' = σ ∧ H' = upd H s (.lst [])) ⟨rfl, rfl⟩ (fun k σ' H' _ ⟨_, e⟩ => by rw [e]; exact .inl (.inl upd_same)) (fun k x σ' H' e _ => by cases e) fun σ' H' ⟨e1, e2⟩ => by rw [e1, e2]; exact hn s hsn
  · have nq : q ≠ s := fun z => by rw [z, hsn] at hq; cases hq
    refine for_list (K := X.K) (a := s) (xs := [.ref q]) (fun k σ' H' => (k = 0 ∧ σ' = σ ∧ H' = upd H s (.lst [.ref q])) ∨ (k = 1 ∧ σ' = σ.set j (some (.ref q)) ∧ H' = upd (upd H s (.lst [.ref q])) q (.lst []))) (.inl ⟨rfl, rfl, rfl⟩) (fun k σ' H' _ e => ?_) (fun k x σ' H' e he => ?_) fun σ' H' he => ?_
    · rcases e with ⟨_, _, e⟩ | ⟨_, _, e⟩
      · rw [e]; exact .inl (.inl upd_same)
      · rw [e]; exact .inl (.inl (by rw [upd_ne (Ne.symm nq)]; exact upd_same))
    · rcases he with ⟨rfl, rfl, rfl⟩ | ⟨rfl, _, _⟩
      · cases e
        show (_ : Prop)
        refine ⟨.ref q, by rw [List.getElem?_set_self hj], ?_⟩
        have hq' : upd H s (.lst [.ref q]) q = some (.lst ws) := by rw [upd_ne nq]; exact hq
        refine ⟨.inl ⟨rfl, ws, .inl (.inl hq')⟩, q, ws, rfl, rfl, hq', ?_⟩
        exact .inr ⟨rfl, rfl, rfl⟩
      · cases e
    · rcases he with ⟨e, _, _⟩ | ⟨_, rfl, rfl⟩
      · cases e
      · exact hn s hsn
theorem dss_scrap {i j l nB : Nat} {xi : Str} {pi : Pos} {e : Expr} {apos' : Pos} {stB stC : Stmt} {rest : List Stmt} {fA : M R} {fB g : M Fl} (hN : X.N.Nodup) (hxi : X.N[i]? = some xi) (hli : Loc X.env.scope xi) (hfi : i ∉ fx) (hfj : j ∉ fx)
    (hA : DE X G W e fA) (hB : DS X G W (List.range nB) stB fB)
    (hC : ∃ t, PS X stC t ∧ ∀ (D : Ends) (σ : L2.St) (H : Hp) (p : Addr) (vs : List V), σ[i]? = some (some (.ref p)) → H p = some (.lst vs) → j < σ.length →
        ((vs = [] ∧ ∀ s, H s = none → D.nx σ (upd H s (.lst []))) ∨ ∃ q r ws, vs = .ref q :: r ∧ H q = some (.lst ws) ∧ ∀ s, H s = none → D.nx (σ.set j (some (.ref q))) (upd (upd H s (.lst [.ref q])) q (.lst []))) → t D σ H)
    (hR : DSs X G W fx rest g) (hs : swapsWith e (some (.Name xi pi)) apos'.line X.env = pure false := by rfl)
    (hc : X.fn xi = true ∨ X.env.scope.names.lookup xi = some .local := by first | exact .inl rfl | exact .inr rfl | assumption) :
    DSs X G W fx (.Assign [.Name xi pi] e apos' :: stB :: stC :: rest) (sSeq (sScrap l i j nB fA fB) g) := by
  obtain ⟨tA, pA, qA⟩ := hA.ex
  obtain ⟨tB, pB, qB⟩ := hB.ex
  obtain ⟨tC, pC, qC⟩ := hC
  obtain ⟨tR, pR, qR⟩ := hR.ex
  refine ⟨_, pss_cons (ps_set hN hxi hli pA hs hc) (pss_cons pB (pss_cons pC pR)), fun E σ ρ Hm H D ef re h => ?_⟩
  unfold sSeq sScrap at h
  cases eA : fA (maskA l ρ) with
  | bad => simp only [eA] at h; exact h.elim
  | exc c d ρ' => simp only [eA] at h; exact h.elim
  | ok r ρ' =>
    obtain ⟨d, f⟩ := r
    cases d with
    | lst rows =>
      cases f with
      | false => simp only [eA] at h; exact h.elim
      | true =>
        simp only [eA] at h
        cases eB : fB ((ρ.map toVal).set i (.val (.lst rows))) with
        | bad => simp only [eB] at h; exact h.elim
        | exc c d ρ2 => simp only [eB] at h; exact h.elim
        | ok a ρ2 =>
          cases a with
          | brk => simp only [eB] at h; exact h.elim
          | cont => simp only [eB] at h; exact h.elim
          | ret r => simp only [eB] at h; exact h.elim
          | next =>
            simp only [eB] at h
            by_cases c : headOk rows = true ∧ i < ρ.length ∧ j < ρ.length ∧ i ≠ j ∧ ρ.length ≤ nB ∧ ρ2.length = ρ.length
            · rw [if_pos c] at h
              simp only at h
              obtain ⟨c1, c2, c3, c4, c5, c6⟩ := c
              -- the call, from the line's cell alone
              refine qA ⟨H, cellA σ l H, [], σ, []⟩ σ (maskA l ρ) (cellA σ l H) H _ (re.mask l) ?_
              rw [eA]
              rintro v Hm1 H1 re1 s1 ⟨p, o, rfl, n1, t1, ⟨vs, rfl, rv⟩, z1, w1⟩
              have kH : Same H H1 := fun a o e => re1.pres a o e (fun z => nomatch z)
              have hp : H p = none := z1.resolve_right (fun z => nomatch z)
              -- the look
              have reB := re.allVal (nB := nB) kH re1.sub hp n1 t1 rv c2
              refine qB ⟨H1, hpB σ ρ Hm H Hm1 p (.lst vs), [], σ.set i (some (.ref p)), List.range nB⟩ _ _ _ H1 _ rfl reB ?_
              rw [eB]
              intro σ2 Hm2 H2 re2 s2
              have kH2 : Same H1 H2 := fun a o e => re2.pres a o e (fun z => nomatch z)
              have l2 : σ2.length = σ.length := by rw [← re2.len, c6, re.len]
              have e2 : σ2 = σ.set i (some (.ref p)) := by
                apply List.ext_getElem?
                intro m
                by_cases hm : m < nB
                · exact re2.fix m (List.mem_range.mpr hm)
                · rw [List.getElem?_eq_none (by rw [l2, ← re.len]; omega), List.getElem?_eq_none (by rw [List.length_set, ← re.len]; omega)]
              subst e2
              have hil : i < σ.length := by rw [← re.len]; exact c2
              have hjl : j < (σ.set i (some (V.ref p))).length := by rw [List.length_set, ← re.len]; exact c3
              refine qC _ _ H2 p vs (by rw [List.getElem?_set_self hil]) (kH2 _ _ t1) hjl ?_
              have fin : ∀ σ3 H3, Same H H3 → σ3.length = σ.length → (∀ m, m ≠ i → m ≠ j → σ3[m]? = σ[m]?) → tR D σ3 H3 := fun σ3 H3 k3 k4 k5 =>
                qR E σ3 _ Hm H3 D ef (re.after k3 k4 k5 (by rw [ef]; exact hfi) (by rw [ef]; exact hfj)) h
              have kk : Same H H2 := kH.trans kH2
              cases rows with
              | nil =>
                unfold Reps at rv
                subst rv
                refine .inl ⟨rfl, fun s hsn => fin _ _ (fun a o e => ?_) (by rw [List.length_set]) fun m n1 n2 => List.getElem?_set_ne (Ne.symm n1)⟩
                rw [upd_ne (fun z => by rw [z] at e; rw [kk _ _ e] at hsn; cases hsn)]
                exact kk a o e
              | cons r0 rr =>
                cases r0 with
                | lst tt =>
                  cases tt with
                  | nil => cases c1
                  | cons t0 tr =>
                    cases t0 with
                    | tup ts =>
                      unfold Reps at rv
                      obtain ⟨w, ws, rfl, r1, r2⟩ := rv
                      unfold Rep at r1
                      obtain ⟨q, us, rfl, hq, ru⟩ := r1
                      unfold Reps at ru
                      obtain ⟨u, us', rfl, ru1, ru2⟩ := ru
                      unfold Rep at ru1
                      obtain ⟨b, _, rfl, _, _⟩ := ru1
                      have hqn : H q = none := by
                        rcases re1.frsh q _ hq with z | z | z
                        · exfalso
                          have z : cellA σ l H q = some (.lst (V.ref b :: us')) := z
                          unfold cellA at z
                          by_cases c : σ[l]? = some (some (V.ref q))
                          · rw [if_pos c] at z
                            split at z
                            · cases z
                            · cases z
                            · cases z
                          · rw [if_neg c] at z; cases z
                        · exact z
                        · cases z
                      refine .inr ⟨q, ws, _, rfl, kH2 _ _ (re1.sub _ _ hq), fun s hsn => fin _ _ (fun a o e => ?_) (by rw [List.length_set, List.length_set]) fun m n1 n2 => by rw [List.getElem?_set_ne (Ne.symm n2), List.getElem?_set_ne (Ne.symm n1)]⟩
                      rw [upd_ne (fun z => by rw [z, hqn] at e; cases e), upd_ne (fun z => by rw [z] at e; rw [kk _ _ e] at hsn; cases hsn)]
                      exact kk a o e
                    | _ => cases c1
                | _ => cases c1
            · rw [if_neg c] at h; exact h.elim
    | _ => cases f <;> (simp only [eA] at h; exact h.elim)
end
end DL
set_option Elab.async false
set_option linter.all false
set_option maxRecDepth 100000
namespace DL
open PySem PySem.Spec PyProof.Rows L2
/-! ## running the terms, one rule a construct -/
section
variable {α β : Type} {ρ ρ1 ρ2 ρ3 ρ' : List S} {f g : M R} {r q : R} {d x y : D} {a b o : O} {os : List O} {fo fa fb : M O} {fs : M (List O)}
theorem k_cst : cst d ρ = .ok ⟨d, false⟩ ρ := rfl
theorem k_shareO {fr : Bool} (h : f ρ = .ok ⟨d, fr⟩ ρ1) : shareO f ρ = .ok (.v d) ρ1 := by rw [r_shareO, h]; rfl
/-! lists in their plain form -/
theorem st_zero {σ : Type} {s x : σ} {xs : List σ} : (x :: xs).set 0 s = s :: xs := rfl
theorem st_succ {σ : Type} {s x : σ} {xs ys : List σ} {i : Nat} (h : xs.set i s = ys) : (x :: xs).set (i + 1) s = x :: ys := by subst h; rfl
theorem ap_nil {σ : Type} {ys : List σ} : [] ++ ys = ys := rfl
theorem ap_cons {σ : Type} {x : σ} {xs ys zs : List σ} (h : xs ++ ys = zs) : (x :: xs) ++ ys = x :: zs := by subst h; rfl
theorem rp_zero {σ : Type} {x : σ} : List.replicate 0 x = [] := rfl
theorem rp_succ {σ : Type} {x : σ} {xs : List σ} {k : Nat} (h : List.replicate k x = xs) : List.replicate (k + 1) x = x :: xs := by subst h; rfl
theorem v_nil : valsOf [] = some [] := rfl
theorem v_cons {ds : List D} (h : valsOf os = some ds) : valsOf (.v d :: os) = some (d :: ds) := by rw [r_vals1, h]; rfl
theorem rs_nil : resOs ρ [] = some [] := rfl
theorem rs_v {ds : List D} (h : resOs ρ os = some ds) : resOs ρ (.v d :: os) = some (d :: ds) := by rw [r_resOs1, h]; rfl
theorem rs_r {i : Nat} {ds : List D} (hi : resO ρ (.r i) = some d) (h : resOs ρ os = some ds) : resOs ρ (.r i :: os) = some (d :: ds) := by rw [r_resOs1, h, hi]
theorem as_nil : argSs ρ [] = some [] := rfl
theorem as_v {ss : List S} (h : argSs ρ os = some ss) : argSs ρ (.v d :: os) = some (.val d :: ss) := by rw [r_argSs1, h]; rfl
theorem as_o {i : Nat} {ss : List S} (hi : ρ[i]? = some (.own d)) (h : argSs ρ os = some ss) : argSs ρ (.r i :: os) = some (.own d :: ss) := by rw [r_argSs1, h, r_argSr, hi]
theorem as_s {i : Nat} {ss : List S} (hi : ρ[i]? = some (.val d)) (h : argSs ρ os = some ss) : argSs ρ (.r i :: os) = some (.val d :: ss) := by rw [r_argSs1, h, r_argSr, hi]
theorem bk_nil {ss : List S} : backO ρ [] ss = ρ := r_back0 ss
theorem bk_v {s : S} {ss : List S} (h : backO ρ os ss = ρ1) : backO ρ (.v d :: os) (s :: ss) = ρ1 := by rw [r_backv, h]
theorem bk_o {i : Nat} {s : S} {ss : List S} (hi : ρ[i]? = some (.own d)) (h : backO ρ os ss = ρ1) (h2 : ρ1.set i s = ρ2) : backO ρ (.r i :: os) (s :: ss) = ρ2 := by rw [r_backr, h, hi]; exact h2
theorem bk_s {i : Nat} {s : S} {ss : List S} (hi : ρ[i]? = some (.val d)) (h : backO ρ os ss = ρ1) (h2 : ρ1.set i (.val d) = ρ2) : backO ρ (.r i :: os) (s :: ss) = ρ2 := by rw [r_backr, h, hi]; exact h2
theorem k_takeV {i : Nat} (h : ρ[i]? = some (.val d)) : takeS i ρ = .ok ⟨d, false⟩ ρ := by rw [r_take, h]
theorem k_takeO {i : Nat} (h : ρ[i]? = some (.own d)) (h2 : ρ.set i (.val d) = ρ1) : takeS i ρ = .ok ⟨d, false⟩ ρ1 := by rw [r_take, h, ← h2]
theorem k_moveV {i : Nat} (h : ρ[i]? = some (.val d)) : moveS i ρ = .ok ⟨d, false⟩ ρ := by rw [r_move, h]
theorem k_moveO {i : Nat} (h : ρ[i]? = some (.own d)) (h2 : ρ.set i .un = ρ1) : moveS i ρ = .ok ⟨d, true⟩ ρ1 := by rw [r_move, h, ← h2]
theorem k_nameV {i : Nat} (h : ρ[i]? = some (.val d)) : nameO i ρ = .ok (.r i) ρ := by rw [r_name, h]
theorem k_nameO {i : Nat} (h : ρ[i]? = some (.own d)) : nameO i ρ = .ok (.r i) ρ := by rw [r_name, h]
theorem k_nil : nilA ρ = .ok [] ρ := rfl
theorem k_cons (h1 : fo ρ = .ok o ρ1) (h2 : fs ρ1 = .ok os ρ2) : consA fo fs ρ = .ok (o :: os) ρ2 := by
  rw [r_consA, h1]; show (fs ρ1).bind _ = _; rw [h2]; rfl
theorem k_bin {g : D → D → Option R} (h1 : fa ρ = .ok a ρ1) (h2 : fb ρ1 = .ok b ρ2) (ha : resO ρ2 a = some x) (hb : resO ρ2 b = some y) (hg : g x y = some r) : fBin g fa fb ρ = .ok r ρ2 := by
  rw [r_fBin, h1]; show (fb ρ1).bind _ = _; rw [h2]; show lift2 g a b ρ2 = _; rw [r_lift2, ha, hb]; simp only [hg]
theorem k_un {g : D → Option R} (h1 : fa ρ = .ok a ρ1) (ha : resO ρ1 a = some x) (hg : g x = some r) : fUn g fa ρ = .ok r ρ1 := by
  rw [r_fUn, h1]; show lift1 g a ρ1 = _; rw [r_lift1, ha]; simp only [hg]
theorem k_B {g : List D → Option R} {ds : List D} (h1 : fs ρ = .ok os ρ1) (ha : resOs ρ1 os = some ds) (hg : g ds = some r) : fB g fs ρ = .ok r ρ1 := by
  rw [r_fB, h1]; show liftN g os ρ1 = _; rw [r_liftN, ha]; simp only [hg]
theorem k_meth {T : String} {g : D → List D → Option R} {ds : List D} (h1 : fo ρ = .ok o ρ1) (ho : resO ρ1 o = some x) (ht : (tyD x == T) = true) (h2 : fs ρ1 = .ok os ρ2) (ho2 : resO ρ2 o = some y) (ha : resOs ρ2 os = some ds) (hg : g y ds = some r) : fMeth T g fo fs ρ = .ok r ρ2 := by
  rw [r_fMeth, h1]
  show (chkT T o ρ1).bind _ = _
  rw [r_chkT, ho]
  simp only [ht, r_gdt]
  show (fs ρ1).bind _ = _
  rw [h2]; show liftM g o os ρ2 = _; rw [r_liftM, ho2, ha]; simp only [hg]
theorem k_mut {T : String} {g : D → List D → Option (D × D)} {ds : List D} {i : Nat} {d2 e2 : D} (ho : resO ρ (.r i) = some x) (ht : (tyD x == T) = true) (h2 : fs ρ = .ok os ρ2) (ho2 : ρ2[i]? = some (.own y)) (ha : valsOf os = some ds) (hg : g y ds = some (d2, e2)) (hs : ρ2.set i (.own d2) = ρ3) : fMut T g i fs ρ = .ok ⟨e2, false⟩ ρ3 := by
  rw [r_fMut, ← hs]
  rw [r_chkT, ho]
  simp only [ht, r_gdt]
  show (fs ρ).bind _ = _
  rw [h2]; show mutS g i os ρ2 = _; rw [r_mutS, ho2, ha]; simp only [hg]
theorem k_disp {mk : List D → D} {ds : List D} (h1 : fs ρ = .ok os ρ1) (ha : valsOf os = some ds) (hl : ds.length ≤ sizeD) : fDisp mk fs ρ = .ok ⟨mk ds, true⟩ ρ1 := by
  rw [r_fDisp, h1]; simp only [r_bok, ha, decide_eq_true hl, r_gdt]; rfl
theorem k_ifT {c : M Bool} {a b : M α} {z : Res α} (h : c ρ = .ok true ρ1) (h2 : a ρ1 = z) : fIf c a b ρ = z := by
  rw [r_fIf, h]; exact h2
theorem k_ifF {c : M Bool} {a b : M α} {z : Res α} (h : c ρ = .ok false ρ1) (h2 : b ρ1 = z) : fIf c a b ρ = z := by
  rw [r_fIf, h]; exact h2
theorem k_bool {k k' : Bool} {fr : Bool} (h : f ρ = .ok ⟨.bl k, fr⟩ ρ1) (e : k = k') : boolR f ρ = .ok k' ρ1 := by
  subst e; rw [r_boolR, h]; rfl
theorem k_andT {a b : M Bool} {k : Bool} (h : a ρ = .ok true ρ1) (h2 : b ρ1 = .ok k ρ2) : fAnd a b ρ = .ok k ρ2 := by rw [r_fAnd, h]; exact h2
theorem k_andF {a b : M Bool} (h : a ρ = .ok false ρ1) : fAnd a b ρ = .ok false ρ1 := by rw [r_fAnd, h]; rfl
theorem k_orF {a b : M Bool} {k : Bool} (h : a ρ = .ok false ρ1) (h2 : b ρ1 = .ok k ρ2) : fOr a b ρ = .ok k ρ2 := by rw [r_fOr, h]; exact h2
theorem k_orT {a b : M Bool} (h : a ρ = .ok true ρ1) : fOr a b ρ = .ok true ρ1 := by rw [r_fOr, h]; rfl
theorem k_not {a : M Bool} {k k' : Bool} (h : a ρ = .ok k ρ1) (e : (!k) = k') : fNot a ρ = .ok k' ρ1 := by subst e; rw [r_fNot, h]; rfl
theorem k_retB {a : M Bool} {k : Bool} (h : a ρ = .ok k ρ1) : retB a ρ = .ok ⟨.bl k, false⟩ ρ1 := by rw [r_retB, h]; rfl
theorem k_andVT {a : M Bool} {z : Res R} (h : a ρ = .ok true ρ1) (h2 : g ρ1 = z) : fAndV a g ρ = z := by rw [r_fAndV, h]; exact h2
theorem k_andVF {a : M Bool} (h : a ρ = .ok false ρ1) : fAndV a g ρ = .ok ⟨.bl false, false⟩ ρ1 := by rw [r_fAndV, h]; rfl
theorem k_orVF {a : M Bool} {z : Res R} (h : a ρ = .ok false ρ1) (h2 : g ρ1 = z) : fOrV a g ρ = z := by rw [r_fOrV, h]; exact h2
theorem k_orVT {a : M Bool} (h : a ρ = .ok true ρ1) : fOrV a g ρ = .ok ⟨.bl true, false⟩ ρ1 := by rw [r_fOrV, h]; rfl
theorem k_p0 : (M.pure none : M (Option Int)) ρ = .ok none ρ := rfl
theorem k_p1 {i : Int} (h : f ρ = .ok ⟨.int i, false⟩ ρ1) : partI f ρ = .ok (some i) ρ1 := by rw [r_partI, h]; rfl
theorem k_slice {fl fh : M (Option Int)} {l h : Option Int} (h1 : fa ρ = .ok a ρ1) (h2 : fl ρ1 = .ok l ρ2) (h3 : fh ρ2 = .ok h ρ3) (ha : resO ρ3 a = some x) (hg : cutD l h x = some r) : fSlice fa fl fh ρ = .ok r ρ3 := by
  rw [r_fSlice, h1]; show (fl ρ1).bind _ = _; rw [h2]; show (fh ρ2).bind _ = _; rw [h3]; show lift1 _ a ρ3 = _; rw [r_lift1, ha]; simp only [hg]
theorem k_drop (h : f ρ = .ok r ρ1) : sDrop f ρ = .ok .next ρ1 := by rw [r_sDrop, h]; rfl
theorem k_ret (h : f ρ = .ok r ρ1) : sRet f ρ = .ok (.ret r) ρ1 := by rw [r_sRet, h]; rfl
theorem k_next : sNext ρ = .ok .next ρ := rfl
theorem k_setV {i : Nat} (h : f ρ = .ok ⟨d, false⟩ ρ1) (hi : i < ρ1.length) (hs : ρ1.set i (.val d) = ρ2) : sSet i f ρ = .ok .next ρ2 := by rw [r_sSet, h, ← hs]; exact if_pos hi
theorem k_setO {i : Nat} (h : f ρ = .ok ⟨d, true⟩ ρ1) (hi : i < ρ1.length) (hs : ρ1.set i (.own d) = ρ2) : sSet i f ρ = .ok .next ρ2 := by rw [r_sSet, h, ← hs]; exact if_pos hi
theorem sr_v {i : Nat} (hs : ρ.set i (.val d) = ρ2) : setR i ⟨d, false⟩ ρ = ρ2 := hs
theorem sr_o {i : Nat} (hs : ρ.set i (.own d) = ρ2) : setR i ⟨d, true⟩ ρ = ρ2 := hs
theorem k_set {i : Nat} (h : f ρ = .ok r ρ1) (hi : i < ρ1.length) (hs : setR i r ρ1 = ρ2) : sSet i f ρ = .ok .next ρ2 := by rw [r_sSet, h, ← hs]; exact if_pos hi
theorem k_par {i j : Nat} (h : f ρ = .ok r ρ1) (h2 : g ρ1 = .ok q ρ2) (hi : i < ρ2.length ∧ j < ρ2.length) (hs : setR i r ρ2 = ρ3) (hs2 : setR j q ρ3 = ρ') : sPar i j f g ρ = .ok .next ρ' := by
  rw [r_sPar, h, ← hs2, ← hs]; show (g ρ1).bind _ = _; rw [h2]; exact if_pos hi
theorem k_seq {a b : M Fl} {z : Res Fl} (h1 : a ρ = .ok .next ρ1) (h2 : b ρ1 = z) : sSeq a b ρ = z := by rw [r_sSeq, h1]; exact h2
theorem k_seqR {a b : M Fl} (h1 : a ρ = .ok (.ret r) ρ1) : sSeq a b ρ = .ok (.ret r) ρ1 := by rw [r_sSeq, h1]
theorem k_seqX {a b : M Fl} {c : Str} (h1 : a ρ = .exc c d ρ1) : sSeq a b ρ = .exc c d ρ1 := by rw [r_sSeq, h1]
theorem k_sIfT {c : M Bool} {a b : M Fl} {z : Res Fl} (h : c ρ = .ok true ρ1) (h2 : a ρ1 = z) : sIf c a b ρ = z := by rw [r_sIf, h]; exact h2
theorem k_sIfF {c : M Bool} {a b : M Fl} {z : Res Fl} (h : c ρ = .ok false ρ1) (h2 : b ρ1 = z) : sIf c a b ρ = z := by rw [r_sIf, h]; exact h2
theorem k_for {fi : M (List D)} {ft : D → List S → Option (List S)} {fb : M Fl} {ds : List D} {z : Res Fl} (h : fi ρ = .ok ds ρ1) (h2 : loopL ft fb ds ρ1 = z) : sFor fi ft fb ρ = z := by rw [r_sFor, h]; exact h2
theorem k_iter {sel : D → Option (List D)} {ds : List D} (h : f ρ = .ok r ρ1) (hs : sel r.d = some ds) : fIter sel f ρ = .ok ds ρ1 := by rw [r_fIter, h]; simp only [r_bok, hs]; rfl
theorem k_rng1 {j : Int} (h : fs ρ = .ok [.v (.int j)] ρ1) (hj : in62 j = true) : fRng1 fs ρ = .ok (rngD 0 j.toNat) ρ1 := by
  rw [r_fRng1, h]; show gd (in62 j) _ ρ1 = _; rw [hj]; rfl
theorem k_rng2 {i j : Int} (h : fs ρ = .ok [.v (.int i), .v (.int j)] ρ1) (hi : in62 i = true) (hj : in62 j = true) : fRng2 fs ρ = .ok (rngD i (j - i).toNat) ρ1 := by
  unfold fRng2; show (fs ρ).bind _ = _; rw [h]; show gd _ _ ρ1 = _; rw [hi, hj]; rfl
theorem k_listR1 {j : Int} {fr : Bool} (h : f ρ = .ok ⟨.int j, fr⟩ ρ1) (hj : okR 0 j = true) : fListR1 f ρ = .ok ⟨.lst (rngD 0 j.toNat), true⟩ ρ1 := by
  unfold fListR1; show (shareD f ρ).bind _ = _; rw [r_shareD, h]; show gd _ _ ρ1 = _
  rw [hj, r_gdt]; simp
theorem k_listR2 {i j : Int} {fr fr' : Bool} (h : f ρ = .ok ⟨.int i, fr⟩ ρ1) (h2 : g ρ1 = .ok ⟨.int j, fr'⟩ ρ2) (hj : okR i j = true) : fListR2 f g ρ = .ok ⟨.lst (rngD i (j - i).toNat), true⟩ ρ2 := by
  unfold fListR2; show (shareD f ρ).bind _ = _; rw [r_shareD, h]; show (shareD g ρ1).bind _ = _; rw [r_shareD, h2]; show gd _ _ ρ2 = _
  rw [hj]; rfl
/-- a call by values alone -/
theorem k_callv {F : M R} {fs : M (List O)} {n : Nat} {ds : List D} {ss : List S} (h : fs ρ = .ok os ρ1) (ho : os = ds.map O.v) (hn : ds.length = n) (hF : F (ds.map S.val) = .ok r ss) (hs : ss.length = ds.length) : fCall [] F n fs ρ = .ok r ρ1 := by
  subst ho
  have a1 : ∀ ds : List D, argSs ρ1 (ds.map O.v) = some (ds.map S.val) := by
    intro ds
    induction ds with
    | nil => rfl
    | cons d ds ih => rw [List.map_cons, r_argSs1, r_argSv, ih]; rfl
  have a2 : ∀ ds : List D, lent (ds.map O.v) = [] := by
    intro ds
    induction ds with
    | nil => rfl
    | cons d ds ih => rw [List.map_cons, r_lentv, ih]
  have a3 : ∀ (ds : List D) (k : Nat), lentOk [] k (ds.map O.v) = true := by
    intro ds
    induction ds with
    | nil => intro k; rfl
    | cons d ds ih => intro k; rw [List.map_cons, r_lokv, ih]
  have a4 : ∀ (ds : List D) (ss : List S), ss.length = ds.length → backO ρ1 (ds.map O.v) ss = ρ1 := by
    intro ds
    induction ds with
    | nil => intro ss _; rw [List.map_nil, r_back0]
    | cons d ds ih =>
      intro ss h
      cases ss with
      | nil => cases h
      | cons s ss => rw [List.map_cons, r_backv, ih ss (by simpa using h)]
  rw [r_fCall, h]
  show gd (decide ((ds.map O.v).length = n)) (callM [] F (ds.map O.v)) ρ1 = _
  rw [decide_eq_true (by rw [List.length_map]; exact hn)]
  show callM [] F (ds.map O.v) ρ1 = _
  rw [r_callM, a1]
  simp only
  rw [a2, a3, if_pos ⟨rfl, rfl⟩, hF]
  simp only
  rw [a4 ds ss hs]
/-- a call in general: what the operands give is checked by computing -/
theorem k_call {fx : List Nat} {F : M R} {n : Nat} {ss ss' : List S} (h : fs ρ = .ok os ρ1) (hn : os.length = n) (ha : argSs ρ1 os = some ss) (hl : nodupB (lent os) = true ∧ lentOk fx 0 os = true) (hF : F ss = .ok r ss') (hb : backO ρ1 os ss' = ρ2) : fCall fx F n fs ρ = .ok r ρ2 := by
  rw [r_fCall, h]
  show gd (decide (os.length = n)) (callM fx F os) ρ1 = _
  rw [decide_eq_true hn]
  show callM fx F os ρ1 = _
  rw [r_callM, ha]
  simp only
  rw [if_pos hl, hF, ← hb]
theorem k_callK {fx : List Nat} {F : M R} {n m : Nat} {spec : List (Nat × Nat)} {dd : List D} {fk : M (List O)} {zs us : List O} {ss ss' : List S} (h : fs ρ = .ok os ρ1) (hk : fk ρ1 = .ok zs ρ2) (hn : os.length = n) (hm : zs.length = m) (hu : arr spec os (dd.map O.v) zs = us) (ha : argSs ρ2 us = some ss) (hl : nodupB (lent us) = true ∧ lentOk fx 0 us = true) (hF : F ss = .ok r ss') (hb : backO ρ2 us ss' = ρ3) : fCallK fx F n m spec dd fs fk ρ = .ok r ρ3 := by
  rw [r_fCallK, h, r_bok, r_bind, hk, r_bok, hu, decide_eq_true hn, decide_eq_true hm]
  show callM fx F us ρ2 = _
  rw [r_callM, ha]
  simp only
  rw [if_pos hl, hF, ← hb]
theorem k_body {fx : List Nat} {n N : Nat} {fb : M Fl} (h : fb (ρ ++ List.replicate (N - n) .un) = .ok (.ret r) ρ1) : bodyF fx n N fb ρ = .ok r (outs fx n ρ1) := by
  rw [r_body, h]
theorem k_bodyN {fx : List Nat} {n N : Nat} {fb : M Fl} (h : fb (ρ ++ List.replicate (N - n) .un) = .ok .next ρ1) : bodyF fx n N fb ρ = .ok ⟨.non, false⟩ (outs fx n ρ1) := by
  rw [r_body, h]
theorem ar_nil {us zs : List O} {dd : List D} : arr [] us (dd.map O.v) zs = [] := rfl
theorem ar_0 {j : Nat} {spec : List (Nat × Nat)} {us zs rest : List O} {dd : List D} {o : O} (h : us[j]? = some o) (h2 : arr spec us (dd.map O.v) zs = rest) : arr ((0, j) :: spec) us (dd.map O.v) zs = o :: rest := by
  subst h2; unfold arr; rw [List.filterMap_cons]; simp [h]
theorem ar_1 {j : Nat} {spec : List (Nat × Nat)} {us zs rest : List O} {dd : List D} {d : D} (h : dd[j]? = some d) (h2 : arr spec us (dd.map O.v) zs = rest) : arr ((1, j) :: spec) us (dd.map O.v) zs = O.v d :: rest := by
  subst h2; unfold arr; rw [List.filterMap_cons]; simp [h]
theorem ar_2 {j : Nat} {spec : List (Nat × Nat)} {us zs rest : List O} {dd : List D} {o : O} (h : zs[j]? = some o) (h2 : arr spec us (dd.map O.v) zs = rest) : arr ((2, j) :: spec) us (dd.map O.v) zs = o :: rest := by
  subst h2; unfold arr; rw [List.filterMap_cons]; simp [h]
theorem k_fn {F : M R} {fx : List Nat} {n N : Nat} {fb : M Fl} {ρp ρi ss : List S} (hF : F = bodyF fx n N fb) (hp : List.replicate (N - n) S.un = ρp) (hi : ρ ++ ρp = ρi) (h : fb ρi = .ok (.ret r) ρ1) (ho : outs fx n ρ1 = ss) : F ρ = .ok r ss := by
  subst hF hp hi ho
  exact k_body h
theorem k_fnN {F : M R} {fx : List Nat} {n N : Nat} {fb : M Fl} {ρp ρi ss : List S} (hF : F = bodyF fx n N fb) (hp : List.replicate (N - n) S.un = ρp) (hi : ρ ++ ρp = ρi) (h : fb ρi = .ok .next ρ1) (ho : outs fx n ρ1 = ss) : F ρ = .ok ⟨.non, false⟩ ss := by
  subst hF hp hi ho
  exact k_bodyN h
theorem sum_rep (k L : Nat) : (List.replicate k L).sum = k * L := by
  induction k with
  | zero => simp
  | succ k ih => rw [List.replicate_succ, List.sum_cons, ih, Nat.succ_mul, Nat.add_comm]
end
/-! ## comprehensions -/
section
variable {vs : List Nat} {ft : D → List S → Option (List S)} {fc : M Bool} {fe : M R} {ρ ρ1 ρw ρ' : List S} {fi : M (List D)} {τ : Type}
theorem k_lc {xs acc : List D} (hi : fi ρ = .ok xs ρ1) (hn : noOwn ρ1 vs = true) (hl : lcL vs ft fc fe xs [] ρ1 = .ok acc ρw) (hb : backS ρ1 ρw vs = ρ') : fLc fi vs ft fc fe ρ = .ok ⟨.lst acc, true⟩ ρ' := by
  rw [r_fLc, hi, r_bok', if_pos hn, hl]
  simp only
  rw [hb]
/-- each turn leaves the names around as they were -/
theorem k_lcMap {ps : List τ} (fd g : τ → D) {ds : List D} (hi : fi ρ = .ok ds ρ1) (hd : ds = ps.map fd) (hn : noOwn ρ1 vs = true) (hw : wipeS ρ1 vs = ρw) (hz : ps.length ≤ sizeD)
    (h : ∀ p ∈ ps, ∃ ρ2 ρ3 ρ4 b, ft (fd p) ρw = some ρ2 ∧ fc ρ2 = .ok true ρ3 ∧ fe ρ3 = .ok ⟨g p, b⟩ ρ4 ∧ wipeS ρ4 vs = ρw) (hb : backS ρ1 ρw vs = ρ') : fLc fi vs ft fc fe ρ = .ok ⟨.lst (ps.map g), true⟩ ρ' := by
  subst hd
  exact k_lc hi hn (lc_mapF fd g hw h hz) hb
theorem bs_nil {ρ0 ρ : List S} : backS ρ0 ρ [] = ρ := rfl
theorem bs_v {ρ0 ρ ρ1 ρ2 : List S} {v : Nat} {vs : List Nat} {d : D} (h0 : backS ρ0 ρ vs = ρ1) (h : ρ0[v]? = some (.val d)) (h2 : ρ1.set v (.val d) = ρ2) : backS ρ0 ρ (v :: vs) = ρ2 := by
  unfold backS; rw [h0, h]; exact h2
theorem bs_u {ρ0 ρ ρ1 ρ2 : List S} {v : Nat} {vs : List Nat} (h0 : backS ρ0 ρ vs = ρ1) (h : ρ0[v]? = some .un) (h2 : ρ1.set v .un = ρ2) : backS ρ0 ρ (v :: vs) = ρ2 := by
  unfold backS; rw [h0, h]; exact h2
theorem wp_nil {ρ : List S} : wipeS ρ [] = ρ := rfl
theorem wp_v {ρ ρ1 ρ2 : List S} {v : Nat} {vs : List Nat} (h0 : wipeS ρ vs = ρ1) (h2 : ρ1.set v .un = ρ2) : wipeS ρ (v :: vs) = ρ2 := by
  unfold wipeS; rw [h0]; exact h2
theorem lc_invA (P : D → Prop) (J : Nat → List S → Prop) {all : List D} (step : ∀ (i : Nat) (d : D) (ρ : List S), all[i]? = some d → J i ρ → ∃ ρ1 ρ2 ρ3 r, ft d ρ = some ρ1 ∧ fc ρ1 = .ok true ρ2 ∧ fe ρ2 = .ok r ρ3 ∧ P r.d ∧ J (i + 1) (wipeS ρ3 vs)) (hz : all.length ≤ sizeD) :
    ∀ (xs acc : List D) (i : Nat) (ρ : List S), all.drop i = xs → i ≤ all.length → J i (wipeS ρ vs) → acc.length = i → (∀ d ∈ acc, P d) → ∃ out ρ', lcL vs ft fc fe xs acc ρ = .ok out ρ' ∧ out.length = all.length ∧ (∀ d ∈ out, P d) ∧ J all.length ρ'
  | [], acc, i, ρ, e, hi, hj, hl, hp => by
    have h1 : all.length ≤ i := by
      have := congrArg List.length e
      rw [List.length_drop] at this
      simp at this
      omega
    have h2 : all.length = i := by omega
    exact ⟨acc, wipeS ρ vs, rfl, by rw [hl, h2], hp, by rw [h2]; exact hj⟩
  | d :: xs, acc, i, ρ, e, hi, hj, hl, hp => by
    have hlt : i < all.length := by
      have := congrArg List.length e
      rw [List.length_drop] at this
      simp at this
      omega
    have e2 := List.drop_eq_getElem_cons hlt
    rw [e] at e2
    have hd : d = all[i] := (List.cons.inj e2).1
    have he : all.drop (i + 1) = xs := (List.cons.inj e2).2.symm
    obtain ⟨ρ1, ρ2, ρ3, r, h1, h2, h3, h4, h5⟩ := step i d _ (by rw [hd]; exact List.getElem?_eq_getElem hlt) hj
    obtain ⟨out, ρ', h6, h7⟩ := lc_invA P J step hz xs (acc ++ [r.d]) (i + 1) ρ3 he hlt h5 (by simp [hl]) (fun x hx => by
      rcases List.mem_append.mp hx with hx | hx
      · exact hp x hx
      · rw [List.mem_singleton.mp hx]; exact h4)
    refine ⟨out, ρ', ?_, h7⟩
    unfold lcL
    rw [h1]
    simp only [h2, h3]
    rw [if_pos (by omega)]
    exact h6
/-- each turn's value has P; J holds of the names around -/
theorem lc_inv (P : D → Prop) (J : Nat → List S → Prop) {all : List D} (hz : all.length ≤ sizeD) (h0 : J 0 (wipeS ρ vs)) (step : ∀ (i : Nat) (d : D) (ρ : List S), all[i]? = some d → J i ρ → ∃ ρ1 ρ2 ρ3 r, ft d ρ = some ρ1 ∧ fc ρ1 = .ok true ρ2 ∧ fe ρ2 = .ok r ρ3 ∧ P r.d ∧ J (i + 1) (wipeS ρ3 vs)) :
    ∃ out ρ', lcL vs ft fc fe all [] ρ = .ok out ρ' ∧ out.length = all.length ∧ (∀ d ∈ out, P d) ∧ J all.length ρ' :=
  lc_invA P J step hz all [] 0 ρ (List.drop_zero ..) (Nat.zero_le _) h0 rfl (fun _ h => by cases h)
end
/-- a while by a measure; what holds at its end -/
theorem while_inv2 {c : M Bool} {b : M Fl} (I : List S → Prop) (m : List S → Nat) (step : ∀ ρ, I ρ → (∃ ρ', c ρ = .ok false ρ') ∨ ∃ ρ1 ρ2, c ρ = .ok true ρ1 ∧ b ρ1 = .ok .next ρ2 ∧ I ρ2 ∧ m ρ2 < m ρ) {ρ : List S} (h : I ρ) :
    ∃ ρ0 ρ', sWhile c b ρ = .ok .next ρ' ∧ I ρ0 ∧ c ρ0 = .ok false ρ' := by
  have key : ∀ (k : Nat) (ρ : List S), m ρ ≤ k → I ρ → ∃ n ρ0 ρ', whileN c b n ρ = .ok .next ρ' ∧ I ρ0 ∧ c ρ0 = .ok false ρ' := by
    intro k
    induction k with
    | zero =>
      intro ρ hm h
      rcases step ρ h with ⟨ρ', e⟩ | ⟨ρ1, ρ2, e1, e2, h', l⟩
      · exact ⟨1, ρ, ρ', by unfold whileN; rw [e], h, e⟩
      · omega
    | succ k ih =>
      intro ρ hm h
      rcases step ρ h with ⟨ρ', e⟩ | ⟨ρ1, ρ2, e1, e2, h', l⟩
      · exact ⟨1, ρ, ρ', by unfold whileN; rw [e], h, e⟩
      · obtain ⟨n, ρ0, ρ', e3, h3⟩ := ih ρ2 (by omega) h'
        refine ⟨n + 1, ρ0, ρ', ?_, h3⟩
        unfold whileN
        rw [e1]
        simp only
        rw [e2]
        exact e3
  obtain ⟨n, ρ0, ρ', e, h'⟩ := key (m ρ) ρ (Nat.le_refl _) h
  refine ⟨ρ0, ρ', ?_, h'⟩
  rw [sWhile_eq (n := n) (by rw [e]; intro z; cases z)]
  exact e
theorem d_index2 {ns : List Int} {k : Int} (h : k ∈ ns) : ∃ (j : Nat) (hj : j < ns.length), indexD (.lst (ns.map D.int)) [.int k] = some ⟨.int (j : Nat), false⟩ ∧ ns[j] = k := by
  have o1 : okP (.lst (ns.map D.int)) = true := fine_ok (n := 1) (fine_lst fun d hd => by
    obtain ⟨i, _, rfl⟩ := List.mem_map.mp hd
    exact fine_int 0 i) (by decide)
  have o2 : okP (.int k) = true := fine_ok (n := 0) (fine_int 0 k) (by decide)
  cases q : (toPs (ns.map D.int)).findIdx? fun z => PyData.eqv z (toP (.int k)) with
  | none =>
    rw [List.findIdx?_eq_none_iff] at q
    have : toP (.int k) ∈ toPs (ns.map D.int) := by
      rw [toPs_map]
      exact List.mem_map.mpr ⟨.int k, List.mem_map.mpr ⟨k, h, rfl⟩, rfl⟩
    have z := q _ this
    rw [(fine_lay (fine_int 0 k)).2.2] at z
    cases z
  | some j =>
    have q' := q
    rw [List.findIdx?_eq_some_iff_getElem] at q'
    obtain ⟨hj, hv, _⟩ := q'
    have hj2 : j < ns.length := by
      rw [toPs_map] at hj
      simpa using hj
    refine ⟨j, hj2, ?_, ?_⟩
    · show (if okP (.lst (ns.map D.int)) = true ∧ okP (.int k) = true then ((toPs (ns.map D.int)).findIdx? fun z => PyData.eqv z (toP (.int k))).bind fun j => ri (j : Nat) else none) = _
      rw [if_pos ⟨o1, o2⟩, q]
      rfl
    · have e : (toPs (ns.map D.int))[j] = toP (.int ns[j]) := by
        simp only [toPs_map, List.getElem_map]
      rw [e] at hv
      unfold toP at hv
      rw [PyData.eqv] at hv
      exact of_decide_eq_true hv
end DL
set_option Elab.async false
set_option linter.all false
set_option maxRecDepth 100000
namespace DL
open PySem PySem.Spec PyProof.Rows L2
/-! ## the end: from a def's function on data to the law -/
section
variable {P : Program} {w : World} {K : PySem.W.Frag} {mg : Str → Option Value} {base : Heap} {G : GC} {x : Str} {st : Stmt} {f : Addr} {fd : FuncData} {N ps : List Str} {k n : Nat} {fx : List Nat} {fb : M Fl}
theorem fun_of {q : Str} (F : FunD K x q (defArgs st) (defBody st) (defScope st) [] [] f fd) : Fun K x q st f fd := by
  obtain ⟨⟨oc, od, dV, kV, doc, pm, an, cdv, ct, osl, rfl, lk, hcd, h1, h2⟩, kp⟩ := F
  rcases h1 with ⟨_, rfl⟩ | ⟨h, _⟩
  · exact ⟨⟨oc, od, kV, doc, pm, an, cdv, ct, osl, rfl, lk, hcd⟩, kp⟩
  · exact absurd rfl h
/-- a def as it is called by its place -/
theorem fok_mk (Fn : Fun K x x st f fd) (S : FnScope N ps (defScope st)) (hf : ∀ i ∈ fx, i < ps.length)
    (hb : ∀ (cdv : Value) (A : Around) (outer : List Env) (s : Shared) (H : Hp) (E : XK), Room k (A.deeper (envOfC x (defScope st) s.heap.objs.size f cdv)) → DSs (cxOf (L2.CX P w) P w K mg base N x (defScope st) f cdv A outer s H E) G (fun c d _ H => E c d H) fx (defBody st) fb) :
    FnOk P w K mg base (L2.CX P w) (k + 1) f fd ps (spD G ps.length fx (bodyF fx ps.length N.length fb)) := by
  obtain ⟨oc, od, kV, doc, pm, an, cdv, ct, osl, rfl, lk, hcd⟩ := Fn.ex
  exact fn_D lk hcd S hf (hb cdv)
end
/-- the law's promise, where its function on data is true -/
theorem sp_true {G : GC} {F : M R} {H : Hp} {a : Addr} {ns : List Int} (hS : SqL G.K H a (ns.map V.int)) (hF : F [.val (.con ns)] = .ok ⟨.bl true, false⟩ [.un]) {XE : XK} : spD G 1 [] F [.ref a] H (fun v _ => v = .bl true) XE := by
  refine ⟨rfl, H, [], [.val (.con ns)], ⟨Same.refl _, rfl, fun i s hi => ?_, fun i j s t p n hi hj os ot => ?_, fun i hi => (by cases hi), fun a o e _ => e, Same.refl _, fun a o e => .inl e⟩, ?_⟩
  · cases i with
    | zero =>
      cases hi
      exact ⟨.ref a, rfl, by unfold Rep; exact ⟨a, rfl, hS⟩⟩
    | succ i => cases hi
  · cases i with
    | zero => cases hi; cases os
    | succ i => cases hi
  · rw [hF]
    intro v Hm' H' _ _ r
    have r' : Rep G Hm' (.bl true) v := r
    unfold Rep at r'
    exact r'
theorem walk_law {l : PySem.W.OpenLaw} {n k : Nat} {q : Program} {loose : List Str} {XP : (Str → Option Value) → Heap → Prop}
    {YP : World → Heap → Prop} {d : DefRec} {x : Str} (hn : l.most = some n) (hn2 : n ≤ sizeLine) (hdf : d.params.defaults = [])
    (hr : Room k callerA)
    (F : ∀ (w : World) (mg : Str → Option Value) (fa : Addr) (h : Heap), YP w h → h.Ns mainGlobals mg → mg d.name = some (.ref fa) →
      ∃ (K : PySem.W.Frag) (fd : FuncData) (sp : Sp), K.In h ∧
        (∀ (s : Shared) (u : Value), BindsTo s fd ⟨[u], []⟩ [(x, u)]) ∧
        (∀ (H : Hp) (a : Addr) (ns : List Int), ns.length ≤ n → SqL K H a (ns.map V.int) → sp [.ref a] H (fun v _ => v = .bl true) fun _ _ _ => False) ∧
        ∀ base : Heap, K.In base → base.Ns mainGlobals mg → FnOk l.prog w K mg base (L2.CX l.prog w) k fa fd [x] sp) :
    PySem.W.WalkO q loose XP YP l.row.toRowW d [] (fun f vs => PySem.call f vs) := by
  refine Att.attach_call hn hdf fun w s₀ s₁ mg mb fa o pm cd doc a vs ns G Y ho hd hcd hmg hobj hints hlen hg => ?_
  obtain ⟨K, fd, sp, KX, hb, hsp, hF⟩ := F w mg fa _ Y G.T.g hmg
  refine law_call KX G.T.g G.T.b G.T.builtins G.T.nolimit hg hobj hints (Nat.le_trans hlen hn2) hr hF hb (fun H hO hS => hsp H a ns hlen hS) ?_
  rintro H e s' ⟨_, _, _, _, _, _, _, _, _, _, _, _, z⟩
  exact z
end DL
set_option Elab.async false
set_option linter.all false
set_option maxRecDepth 100000
set_option maxHeartbeats 4000000
namespace K68
open PySem PySem.Spec PyProof.Rows L2 DL
/-! the text by places -/
def top (i : Nat) : Stmt := PySem.Challenge.pw_spreadstates_k68_counts_of_blocks.main.body.getD i (.Pass ⟨0, 0, 0, 0⟩)
structure Txt (K : PySem.W.Frag) (mg : Str → Option Value) : Prop where
  n_all : mg "all" = none
  n_bool : mg "bool" = none
  n_enumerate : mg "enumerate" = none
  n_int : mg "int" = none
  n_isinstance : mg "isinstance" = none
  n_len : mg "len" = none
  n_list : mg "list" = none
  n_max : mg "max" = none
  n_range : mg "range" = none
  n_sorted : mg "sorted" = none
  n_sum : mg "sum" = none
  n_tuple : mg "tuple" = none
  v_LEAST_SIZE : ∃ t, mg "LEAST_SIZE" = some (.int 2 t)
  v_MOST_BITS : ∃ t, mg "MOST_BITS" = some (.int 12 t)
  v_MOST_NUMBER : ∃ t, mg "MOST_NUMBER" = some (.int 1000000000000000000000000000000 t)
  v_MOST_SIZE : ∃ t, mg "MOST_SIZE" = some (.int 256 t)
  v_MOST_SYMBOL : ∃ t, mg "MOST_SYMBOL" = some (.int 999 t)
  v_MOST_TEXT : ∃ t, mg "MOST_TEXT" = some (.int 10000 t)
  v_MOST_WORK : ∃ t, mg "MOST_WORK" = some (.int 200000 t)
abbrev st__law_store : Stmt := top 36
noncomputable def B__law_store : M Fl := sSeq (sSet 1 (fB maxD (consA (nameO 0) (consA (shareO (fBin subD (shareO (cst (.int 0))) (nameO 0))) (nilA))))) (sRet (fDisp .lst (consA (shareO (fBin mulD (nameO 1) (shareO (fB intD1 (consA (shareO (fBin geD (nameO 1) (shareO (fBin powD (shareO (cst (.int 10))) (shareO (cst (.int 18))))))) (nilA)))))) (consA (shareO (fBin modD (shareO (fB intD1 (consA (nameO 1) (nilA)))) (shareO (cst (.int 2147483629))))) (consA (shareO (cst (.int 1))) (nilA))))))
noncomputable def F__law_store : M R := bodyF [] 1 2 B__law_store
abbrev N__law_store : List Str := ["_law_cell", "_law_great"]
theorem sc__law_store : FnScope ["_law_cell", "_law_great"] ["_law_cell"] (defScope st__law_store) := ⟨rfl, rfl, rfl, by decide +kernel, rfl, by decide +kernel, by decide +kernel⟩
theorem ok__law_store {P : Program} {w : World} {K : PySem.W.Frag} {mg : Str → Option Value} {base : Heap} {cls : Str → Addr} {f : Addr} {fd : FuncData} (T : Txt K mg) (Fn : Fun K "_law_store" "_law_store" st__law_store f fd) (hm : mg "_law_store" = some (.ref f)) : CalX P w K mg base ⟨K, cls⟩ 1 "_law_store" [] 1 F__law_store (B0 K) := by
  refine cal_mk Fn hm sc__law_store rfl (by decide) (fun _ _ _ _ _ _ us h => match us, h with | [_], _ => rfl) fun cdv A outer s H E hr => ?_
  have TK := takes_of (X := cxOf (L2.CX P w) P w K mg base ["_law_cell", "_law_great"] "_law_store" (defScope st__law_store) f cdv A outer s H E) (E := E) rfl rfl rfl rfl
  have S := sc__law_store
  exact (dss_cons (ds_set S.nd (i := 1) rfl (by first | exact .inl rfl | exact .inr rfl) (by decide) (de_cb (cr_maxG rfl rfl) rfl T.n_max PyProof.Rows.boot_max (ae_cons (oe_var (pv 0)) (ae_cons (oe_of (de_bin op_subD (oe_of de_int) (oe_var (pv 0)))) ae_nil))))
      (dss_one (ds_ret (de_lst (ae_cons (oe_of (de_bin (op_mulD rfl) (oe_var (pv 1)) (oe_of (de_ct cr_int rfl T.n_int PyProof.Rows.boot_int (ae_cons (oe_of (de_cmp op_geG (oe_var (pv 1)) (oe_of (de_bin op_powD (oe_of de_int) (oe_of de_int))) (nomark _))) ae_nil))))) (ae_cons (oe_of (de_bin op_modD (oe_of (de_ct cr_int rfl T.n_int PyProof.Rows.boot_int (ae_cons (oe_var (pv 1)) ae_nil))) (oe_of de_int))) (ae_cons (oe_of de_int) ae_nil)))))))
abbrev st__law_take : Stmt := top 37
noncomputable def B__law_take : M Fl := sSeq (sIf (boolR (fBin gtD (shareO (fBin ixD (nameO 0) (shareO (cst (.int 0))))) (shareO (cst (.int 0))))) (sSeq (sSet 2 (fBin modD (shareO (fB intD1 (consA (shareO (fBin ixD (nameO 0) (shareO (cst (.int 0))))) (nilA)))) (nameO 1))) (sSeq (sPut 0 (cst (.int 0)) (fBin fdivD (shareO (fBin ixD (nameO 0) (shareO (cst (.int 0))))) (nameO 1))) (sRet (moveS 2)))) (sNext)) (sSeq (sPut 0 (cst (.int 2)) (fBin addD (shareO (fBin ixD (nameO 0) (shareO (cst (.int 2))))) (shareO (cst (.int 1))))) (sSeq (sSet 3 (fBin modD (shareO (fB intD1 (consA (shareO (fBin powD (shareO (fBin addD (shareO (fBin addD (shareO (fBin ixD (nameO 0) (shareO (cst (.int 1))))) (shareO (fBin mulD (shareO (cst (.int 49999))) (shareO (fBin ixD (nameO 0) (shareO (cst (.int 2))))))))) (shareO (cst (.int 17))))) (shareO (cst (.int 3))))) (nilA)))) (shareO (cst (.int 2147483587))))) (sSeq (sSet 3 (fBin modD (shareO (fB intD1 (consA (shareO (fBin mulD (shareO (fBin addD (nameO 3) (shareO (fBin mulD (shareO (cst (.int 13))) (shareO (fBin ixD (nameO 0) (shareO (cst (.int 2))))))))) (shareO (fBin addD (shareO (fBin fdivD (nameO 3) (shareO (cst (.int 1031))))) (shareO (cst (.int 60013))))))) (nilA)))) (shareO (cst (.int 2147483579))))) (sRet (fBin modD (shareO (fB intD1 (consA (shareO (fBin fdivD (shareO (fBin modD (shareO (fB intD1 (consA (shareO (fBin mulD (nameO 3) (shareO (fBin addD (shareO (fBin fdivD (nameO 3) (shareO (cst (.int 2017))))) (shareO (cst (.int 40009))))))) (nilA)))) (shareO (cst (.int 2147483563))))) (shareO (cst (.int 7))))) (nilA)))) (nameO 1))))))
noncomputable def F__law_take : M R := bodyF [0] 2 4 B__law_take
abbrev N__law_take : List Str := ["_law_store_here", "_law_amount", "_law_one", "_law_mixed"]
theorem sc__law_take : FnScope ["_law_store_here", "_law_amount", "_law_one", "_law_mixed"] ["_law_store_here", "_law_amount"] (defScope st__law_take) := ⟨rfl, rfl, rfl, by decide +kernel, rfl, by decide +kernel, by decide +kernel⟩
theorem ok__law_take {P : Program} {w : World} {K : PySem.W.Frag} {mg : Str → Option Value} {base : Heap} {cls : Str → Addr} {f : Addr} {fd : FuncData} (T : Txt K mg) (Fn : Fun K "_law_take" "_law_take" st__law_take f fd) (hm : mg "_law_take" = some (.ref f)) : CalX P w K mg base ⟨K, cls⟩ 1 "_law_take" [0] 2 F__law_take (B0 K) := by
  refine cal_mk Fn hm sc__law_take rfl (by decide) (fun _ _ _ _ _ _ us h => match us, h with | [_, _], _ => rfl) fun cdv A outer s H E hr => ?_
  have TK := takes_of (X := cxOf (L2.CX P w) P w K mg base ["_law_store_here", "_law_amount", "_law_one", "_law_mixed"] "_law_take" (defScope st__law_take) f cdv A outer s H E) (E := E) rfl rfl rfl rfl
  have S := sc__law_take
  exact (dss_cons (ds_if (dt_cmp op_gtG (oe_of (de_ix (hu1 hr) (oe_var (pv 0)) (oe_of de_int) (fun _ _ => rfl) rfl)) (oe_of de_int) (nomark _)) (dss_cons (ds_set S.nd (i := 2) rfl (by first | exact .inl rfl | exact .inr rfl) (by decide) (de_bin op_modD (oe_of (de_ct cr_int rfl T.n_int PyProof.Rows.boot_int (ae_cons (oe_of (de_ix (hu1 hr) (oe_var (pv 0)) (oe_of de_int) (fun _ _ => rfl) rfl)) ae_nil))) (oe_var (pv 1))))
      (dss_cons (ds_put (pv 0) de_int (de_bin op_fdivD (oe_of (de_ix (hu1 hr) (oe_var (pv 0)) (oe_of de_int) (fun _ _ => rfl) rfl)) (oe_var (pv 1))))
      (dss_one (ds_ret (de_move (pv 2)))))) dss_nil)
      (dss_cons (ds_put (pv 0) de_int (de_bin (op_addD rfl) (oe_of (de_ix (hu1 hr) (oe_var (pv 0)) (oe_of de_int) (fun _ _ => rfl) rfl)) (oe_of de_int)))
      (dss_cons (ds_set S.nd (i := 3) rfl (by first | exact .inl rfl | exact .inr rfl) (by decide) (de_bin op_modD (oe_of (de_ct cr_int rfl T.n_int PyProof.Rows.boot_int (ae_cons (oe_of (de_bin op_powD (oe_of (de_bin (op_addD rfl) (oe_of (de_bin (op_addD rfl) (oe_of (de_ix (hu1 hr) (oe_var (pv 0)) (oe_of de_int) (fun _ _ => rfl) rfl)) (oe_of (de_bin (op_mulD rfl) (oe_of de_int) (oe_of (de_ix (hu1 hr) (oe_var (pv 0)) (oe_of de_int) (fun _ _ => rfl) rfl)))))) (oe_of de_int))) (oe_of de_int))) ae_nil))) (oe_of de_int)))
      (dss_cons (ds_set S.nd (i := 3) rfl (by first | exact .inl rfl | exact .inr rfl) (by decide) (de_bin op_modD (oe_of (de_ct cr_int rfl T.n_int PyProof.Rows.boot_int (ae_cons (oe_of (de_bin (op_mulD rfl) (oe_of (de_bin (op_addD rfl) (oe_var (pv 3)) (oe_of (de_bin (op_mulD rfl) (oe_of de_int) (oe_of (de_ix (hu1 hr) (oe_var (pv 0)) (oe_of de_int) (fun _ _ => rfl) rfl)))))) (oe_of (de_bin (op_addD rfl) (oe_of (de_bin op_fdivD (oe_var (pv 3)) (oe_of de_int))) (oe_of de_int))))) ae_nil))) (oe_of de_int)))
      (dss_one (ds_ret (de_bin op_modD (oe_of (de_ct cr_int rfl T.n_int PyProof.Rows.boot_int (ae_cons (oe_of (de_bin op_fdivD (oe_of (de_bin op_modD (oe_of (de_ct cr_int rfl T.n_int PyProof.Rows.boot_int (ae_cons (oe_of (de_bin (op_mulD rfl) (oe_var (pv 3)) (oe_of (de_bin (op_addD rfl) (oe_of (de_bin op_fdivD (oe_var (pv 3)) (oe_of de_int))) (oe_of de_int))))) ae_nil))) (oe_of de_int))) (oe_of de_int))) ae_nil))) (oe_var (pv 1)))))))))
abbrev st__law_any : Stmt := top 38
noncomputable def B__law_any : M Fl := sRet (fBin ixD (nameO 1) (shareO (fCall [0] F__law_take 2 (consA (nameO 0) (consA (shareO (fB lenD (consA (nameO 1) (nilA)))) (nilA))))))
noncomputable def F__law_any : M R := bodyF [0] 2 2 B__law_any
abbrev N__law_any : List Str := ["_law_store_here", "_law_some"]
theorem sc__law_any : FnScope ["_law_store_here", "_law_some"] ["_law_store_here", "_law_some"] (defScope st__law_any) := ⟨rfl, rfl, rfl, by decide +kernel, rfl, by decide +kernel, by decide +kernel⟩
theorem ok__law_any {P : Program} {w : World} {K : PySem.W.Frag} {mg : Str → Option Value} {base : Heap} {cls : Str → Addr} {f : Addr} {fd : FuncData} (T : Txt K mg) (C__law_take : CalX P w K mg base ⟨K, cls⟩ 1 "_law_take" [0] 2 F__law_take (B0 K)) (Fn : Fun K "_law_any" "_law_any" st__law_any f fd) (hm : mg "_law_any" = some (.ref f)) : CalX P w K mg base ⟨K, cls⟩ 2 "_law_any" [0] 2 F__law_any (B0 K) := by
  refine cal_mk Fn hm sc__law_any rfl (by decide) (fun _ _ _ _ _ _ us h => match us, h with | [_, _], _ => rfl) fun cdv A outer s H E hr => ?_
  have TK := takes_of (X := cxOf (L2.CX P w) P w K mg base ["_law_store_here", "_law_some"] "_law_any" (defScope st__law_any) f cdv A outer s H E) (E := E) rfl rfl rfl rfl
  have S := sc__law_any
  exact (dss_one (ds_ret (de_ix (hu1 hr) (oe_var (pv 1)) (oe_of (dc C__law_take hr (by decide) TK rfl (ae_cons (oe_var (pv 0)) (ae_cons (oe_of (de_cb (cr_len rfl) rfl T.n_len PySem.boot_len (ae_cons (oe_var (pv 1)) ae_nil))) ae_nil)))) (fun _ _ => rfl) rfl)))
abbrev st_is_integer : Stmt := top 7
noncomputable def B_is_integer : M Fl := sRet (fAndV (boolR (fUn (isiD "int") (nameO 0))) (retB (fNot (boolR (fUn (isiD "bool") (nameO 0))))))
noncomputable def F_is_integer : M R := bodyF [] 1 1 B_is_integer
abbrev N_is_integer : List Str := ["value"]
theorem sc_is_integer : FnScope ["value"] ["value"] (defScope st_is_integer) := ⟨rfl, rfl, rfl, by decide +kernel, rfl, by decide +kernel, by decide +kernel⟩
theorem ok_is_integer {P : Program} {w : World} {K : PySem.W.Frag} {mg : Str → Option Value} {base : Heap} {cls : Str → Addr} {f : Addr} {fd : FuncData} (T : Txt K mg) (Fn : Fun K "is_integer" "is_integer" st_is_integer f fd) (hm : mg "is_integer" = some (.ref f)) : CalX P w K mg base ⟨K, cls⟩ 1 "is_integer" [] 1 F_is_integer (B0 K) := by
  refine cal_mk Fn hm sc_is_integer rfl (by decide) (fun _ _ _ _ _ _ us h => match us, h with | [_], _ => rfl) fun cdv A outer s H E hr => ?_
  have TK := takes_of (X := cxOf (L2.CX P w) P w K mg base ["value"] "is_integer" (defScope st_is_integer) f cdv A outer s H E) (E := E) rfl rfl rfl rfl
  have S := sc_is_integer
  exact (dss_one (ds_ret (de_and (de_isi isi_int rfl T.n_isinstance rfl T.n_int PyProof.Rows.boot_int (oe_var (pv 0)) rfl) (de_one (de_not (de_isi isi_bool rfl T.n_isinstance rfl T.n_bool PyProof.Rows.boot_bool (oe_var (pv 0)) rfl))))))
abbrev st_is_between : Stmt := top 8
noncomputable def B_is_between : M Fl := sRet (fAndV (boolR (fCall [] F_is_integer 1 (consA (shareO (takeS 0)) (nilA)))) (fChain leD leD (nameO 1) (nameO 0) (nameO 2)))
noncomputable def F_is_between : M R := bodyF [] 3 3 B_is_between
abbrev N_is_between : List Str := ["value", "low", "high"]
theorem sc_is_between : FnScope ["value", "low", "high"] ["value", "low", "high"] (defScope st_is_between) := ⟨rfl, rfl, rfl, by decide +kernel, rfl, by decide +kernel, by decide +kernel⟩
theorem ok_is_between {P : Program} {w : World} {K : PySem.W.Frag} {mg : Str → Option Value} {base : Heap} {cls : Str → Addr} {f : Addr} {fd : FuncData} (T : Txt K mg) (C_is_integer : CalX P w K mg base ⟨K, cls⟩ 1 "is_integer" [] 1 F_is_integer (B0 K)) (Fn : Fun K "is_between" "is_between" st_is_between f fd) (hm : mg "is_between" = some (.ref f)) : CalX P w K mg base ⟨K, cls⟩ 2 "is_between" [] 3 F_is_between (B0 K) := by
  refine cal_mk Fn hm sc_is_between rfl (by decide) (fun _ _ _ _ _ _ us h => match us, h with | [_, _, _], _ => rfl) fun cdv A outer s H E hr => ?_
  have TK := takes_of (X := cxOf (L2.CX P w) P w K mg base ["value", "low", "high"] "is_between" (defScope st_is_between) f cdv A outer s H E) (E := E) rfl rfl rfl rfl
  have S := sc_is_between
  exact (dss_one (ds_ret (de_and (dc C_is_integer hr (by decide) TK rfl (ae_cons (oe_of (de_var (pv 0))) ae_nil)) (de_one (de_chain op_leG op_leG (oe_var (pv 1)) (oe_var (pv 0)) (oe_var (pv 2)))))))
abbrev st_is_symbol : Stmt := top 15
noncomputable def B_is_symbol : M Fl := sRet (fCall [] F_is_between 3 (consA (shareO (takeS 0)) (consA (shareO (cst (.int 0))) (consA (shareO (cst (.int 999))) (nilA)))))
noncomputable def F_is_symbol : M R := bodyF [] 1 1 B_is_symbol
abbrev N_is_symbol : List Str := ["value"]
theorem sc_is_symbol : FnScope ["value"] ["value"] (defScope st_is_symbol) := ⟨rfl, rfl, rfl, by decide +kernel, rfl, by decide +kernel, by decide +kernel⟩
theorem ok_is_symbol {P : Program} {w : World} {K : PySem.W.Frag} {mg : Str → Option Value} {base : Heap} {cls : Str → Addr} {f : Addr} {fd : FuncData} (T : Txt K mg) (C_is_between : CalX P w K mg base ⟨K, cls⟩ 2 "is_between" [] 3 F_is_between (B0 K)) (Fn : Fun K "is_symbol" "is_symbol" st_is_symbol f fd) (hm : mg "is_symbol" = some (.ref f)) : CalX P w K mg base ⟨K, cls⟩ 3 "is_symbol" [] 1 F_is_symbol (B0 K) := by
  refine cal_mk Fn hm sc_is_symbol rfl (by decide) (fun _ _ _ _ _ _ us h => match us, h with | [_], _ => rfl) fun cdv A outer s H E hr => ?_
  have TK := takes_of (X := cxOf (L2.CX P w) P w K mg base ["value"] "is_symbol" (defScope st_is_symbol) f cdv A outer s H E) (E := E) rfl rfl rfl rfl
  have S := sc_is_symbol
  exact (dss_one (ds_ret (dc C_is_between hr (by decide) TK rfl (ae_cons (oe_of (de_var (pv 0))) (ae_cons (oe_of de_int) (ae_cons (oe_of (de_gint rfl T.v_MOST_SYMBOL.choose_spec)) ae_nil))))))
abbrev st_check_text : Stmt := top 16
noncomputable def B_check_text : M Fl := sSeq (sIf (fNot (boolR (fUn (isiD "list") (nameO 0)))) (badM) (sNext)) (sFor (fEnum (consA (shareO (fSlice (nameO 0) (M.pure none) (partI (fBin addD (shareO (cst (.int 10000))) (shareO (cst (.int 1))))))) (nilA))) (tTuple 2 (tsCons (tName 1) (tsCons (tName 2) (tsNil)))) (sIf (fOr (boolR (fBin eqD (nameO 1) (shareO (cst (.int 10000))))) (fNot (boolR (fCall [] F_is_symbol 1 (consA (shareO (takeS 2)) (nilA)))))) (badM) (sNext)))
noncomputable def F_check_text : M R := bodyF [] 1 3 B_check_text
abbrev N_check_text : List Str := ["value", "at", "item"]
theorem sc_check_text : FnScope ["value", "at", "item"] ["value"] (defScope st_check_text) := ⟨rfl, rfl, rfl, by decide +kernel, rfl, by decide +kernel, by decide +kernel⟩
theorem ok_check_text {P : Program} {w : World} {K : PySem.W.Frag} {mg : Str → Option Value} {base : Heap} {cls : Str → Addr} {f : Addr} {fd : FuncData} (T : Txt K mg) (C_is_symbol : CalX P w K mg base ⟨K, cls⟩ 3 "is_symbol" [] 1 F_is_symbol (B0 K)) (Fn : Fun K "check_text" "check_text" st_check_text f fd) (hm : mg "check_text" = some (.ref f)) : CalX P w K mg base ⟨K, cls⟩ 4 "check_text" [] 1 F_check_text (B0 K) := by
  refine cal_mk Fn hm sc_check_text rfl (by decide) (fun _ _ _ _ _ _ us h => match us, h with | [_], _ => rfl) fun cdv A outer s H E hr => ?_
  have TK := takes_of (X := cxOf (L2.CX P w) P w K mg base ["value", "at", "item"] "check_text" (defScope st_check_text) f cdv A outer s H E) (E := E) rfl rfl rfl rfl
  have S := sc_check_text
  exact (dss_cons (ds_if (dt_not (dt_val (de_isi isi_list rfl T.n_isinstance rfl T.n_list PyProof.Rows.boot_list (oe_var (pv 0)) rfl))) (dss_one ds_nev) dss_nil)
      (dss_one (ds_for (passes_of rfl) rfl (ie_enum rfl T.n_enumerate (ae_cons (oe_of (de_slice (oe_var (pv 0)) dp_none (dp_some (de_bin (op_addD rfl) (oe_of (de_gint rfl T.v_MOST_TEXT.choose_spec)) (oe_of de_int))) rfl)) ae_nil) (hK := rfl)) (ge_tup rfl (ges_cons (ge_name S.nd rfl (by first | exact .inl rfl | exact .inr rfl) (by decide)) (ges_cons (ge_name S.nd rfl (by first | exact .inl rfl | exact .inr rfl) (by decide)) ges_nil)) (hK := rfl)) (dss_one (ds_if (DW.dt (dw_or (dt_cmp (op_eqG (hu64 hr) rfl) (oe_var (pv 1)) (oe_of (de_gint rfl T.v_MOST_TEXT.choose_spec)) (nomark _)) (dw_or1 (dt_not (dt_val (dc C_is_symbol hr (by decide) TK rfl (ae_cons (oe_of (de_var (pv 2))) ae_nil))))))) (dss_one ds_nev) dss_nil)))))
abbrev st_check_between : Stmt := top 9
noncomputable def B_check_between : M Fl := sIf (fNot (boolR (fCall [] F_is_between 3 (consA (shareO (takeS 1)) (consA (shareO (takeS 2)) (consA (shareO (takeS 3)) (nilA))))))) (badM) (sNext)
noncomputable def F_check_between : M R := bodyF [] 4 4 B_check_between
abbrev N_check_between : List Str := ["argument", "value", "low", "high"]
theorem sc_check_between : FnScope ["argument", "value", "low", "high"] ["argument", "value", "low", "high"] (defScope st_check_between) := ⟨rfl, rfl, rfl, by decide +kernel, rfl, by decide +kernel, by decide +kernel⟩
theorem ok_check_between {P : Program} {w : World} {K : PySem.W.Frag} {mg : Str → Option Value} {base : Heap} {cls : Str → Addr} {f : Addr} {fd : FuncData} (T : Txt K mg) (C_is_between : CalX P w K mg base ⟨K, cls⟩ 2 "is_between" [] 3 F_is_between (B0 K)) (Fn : Fun K "check_between" "check_between" st_check_between f fd) (hm : mg "check_between" = some (.ref f)) : CalX P w K mg base ⟨K, cls⟩ 3 "check_between" [] 4 F_check_between (B0 K) := by
  refine cal_mk Fn hm sc_check_between rfl (by decide) (fun _ _ _ _ _ _ us h => match us, h with | [_, _, _, _], _ => rfl) fun cdv A outer s H E hr => ?_
  have TK := takes_of (X := cxOf (L2.CX P w) P w K mg base ["argument", "value", "low", "high"] "check_between" (defScope st_check_between) f cdv A outer s H E) (E := E) rfl rfl rfl rfl
  have S := sc_check_between
  exact (dss_one (ds_if (dt_not (dt_val (dc C_is_between hr (by decide) TK rfl (ae_cons (oe_of (de_var (pv 1))) (ae_cons (oe_of (de_var (pv 2))) (ae_cons (oe_of (de_var (pv 3))) ae_nil)))))) (dss_one ds_nev) dss_nil))
abbrev st_check_size : Stmt := top 27
noncomputable def B_check_size : M Fl := sDrop (fCall [] F_check_between 4 (consA (shareO (cst (.str "size"))) (consA (shareO (takeS 0)) (consA (shareO (cst (.int 2))) (consA (shareO (cst (.int 256))) (nilA))))))
noncomputable def F_check_size : M R := bodyF [] 1 1 B_check_size
abbrev N_check_size : List Str := ["size"]
theorem sc_check_size : FnScope ["size"] ["size"] (defScope st_check_size) := ⟨rfl, rfl, rfl, by decide +kernel, rfl, by decide +kernel, by decide +kernel⟩
theorem ok_check_size {P : Program} {w : World} {K : PySem.W.Frag} {mg : Str → Option Value} {base : Heap} {cls : Str → Addr} {f : Addr} {fd : FuncData} (T : Txt K mg) (C_check_between : CalX P w K mg base ⟨K, cls⟩ 3 "check_between" [] 4 F_check_between (B0 K)) (Fn : Fun K "check_size" "check_size" st_check_size f fd) (hm : mg "check_size" = some (.ref f)) : CalX P w K mg base ⟨K, cls⟩ 4 "check_size" [] 1 F_check_size (B0 K) := by
  refine cal_mk Fn hm sc_check_size rfl (by decide) (fun _ _ _ _ _ _ us h => match us, h with | [_], _ => rfl) fun cdv A outer s H E hr => ?_
  have TK := takes_of (X := cxOf (L2.CX P w) P w K mg base ["size"] "check_size" (defScope st_check_size) f cdv A outer s H E) (E := E) rfl rfl rfl rfl
  have S := sc_check_size
  exact (dss_one (ds_expr (dc C_check_between hr (by decide) TK rfl (ae_cons (oe_of de_str) (ae_cons (oe_of (de_var (pv 0))) (ae_cons (oe_of (de_gint rfl T.v_LEAST_SIZE.choose_spec)) (ae_cons (oe_of (de_gint rfl T.v_MOST_SIZE.choose_spec)) ae_nil)))))))
abbrev st_check_small : Stmt := top 28
noncomputable def B_check_small : M Fl := sSeq (sDrop (fCall [] F_check_text 1 (consA (shareO (takeS 0)) (nilA)))) (sSeq (sDrop (fCall [] F_check_size 1 (consA (shareO (takeS 1)) (nilA)))) (sFor (fIter listD (takeS 0)) (tName 2) (sIf (boolR (fBin geD (nameO 2) (nameO 1))) (badM) (sNext))))
noncomputable def F_check_small : M R := bodyF [] 2 3 B_check_small
abbrev N_check_small : List Str := ["text", "size", "symbol"]
theorem sc_check_small : FnScope ["text", "size", "symbol"] ["text", "size"] (defScope st_check_small) := ⟨rfl, rfl, rfl, by decide +kernel, rfl, by decide +kernel, by decide +kernel⟩
theorem ok_check_small {P : Program} {w : World} {K : PySem.W.Frag} {mg : Str → Option Value} {base : Heap} {cls : Str → Addr} {f : Addr} {fd : FuncData} (T : Txt K mg) (C_check_size : CalX P w K mg base ⟨K, cls⟩ 4 "check_size" [] 1 F_check_size (B0 K)) (C_check_text : CalX P w K mg base ⟨K, cls⟩ 4 "check_text" [] 1 F_check_text (B0 K)) (Fn : Fun K "check_small" "check_small" st_check_small f fd) (hm : mg "check_small" = some (.ref f)) : CalX P w K mg base ⟨K, cls⟩ 5 "check_small" [] 2 F_check_small (B0 K) := by
  refine cal_mk Fn hm sc_check_small rfl (by decide) (fun _ _ _ _ _ _ us h => match us, h with | [_, _], _ => rfl) fun cdv A outer s H E hr => ?_
  have TK := takes_of (X := cxOf (L2.CX P w) P w K mg base ["text", "size", "symbol"] "check_small" (defScope st_check_small) f cdv A outer s H E) (E := E) rfl rfl rfl rfl
  have S := sc_check_small
  exact (dss_cons (ds_expr (dc C_check_text hr (by decide) TK rfl (ae_cons (oe_of (de_var (pv 0))) ae_nil)))
      (dss_cons (ds_expr (dc C_check_size hr (by decide) TK rfl (ae_cons (oe_of (de_var (pv 1))) ae_nil)))
      (dss_one (ds_for (passes_of rfl) rfl (ie_list (de_var (pv 0)) rfl) (ge_name S.nd rfl (by first | exact .inl rfl | exact .inr rfl) (by decide)) (dss_one (ds_if (dt_cmp op_geG (oe_var (pv 2)) (oe_var (pv 1)) (nomark _)) (dss_one ds_nev) dss_nil))))))
abbrev st_check_blocks : Stmt := top 29
noncomputable def B_check_blocks : M Fl := sSeq (sDrop (fCall [] F_check_between 4 (consA (shareO (cst (.str "block"))) (consA (shareO (takeS 0)) (consA (shareO (cst (.int 1))) (consA (shareO (cst (.int 10000))) (nilA))))))) (sSeq (sDrop (fCall [] F_check_between 4 (consA (shareO (cst (.str "bits"))) (consA (shareO (takeS 1)) (consA (shareO (cst (.int 1))) (consA (shareO (cst (.int 12))) (nilA))))))) (sIf (fAnd (boolR (fBin notND (nameO 2) (shareO (cst .non)))) (fNot (boolR (fCall [] F_is_between 3 (consA (shareO (takeS 2)) (consA (shareO (cst (.int 0))) (consA (shareO (cst (.int 10000))) (nilA)))))))) (badM) (sNext)))
noncomputable def F_check_blocks : M R := bodyF [] 3 3 B_check_blocks
abbrev N_check_blocks : List Str := ["block", "bits", "window"]
theorem sc_check_blocks : FnScope ["block", "bits", "window"] ["block", "bits", "window"] (defScope st_check_blocks) := ⟨rfl, rfl, rfl, by decide +kernel, rfl, by decide +kernel, by decide +kernel⟩
theorem ok_check_blocks {P : Program} {w : World} {K : PySem.W.Frag} {mg : Str → Option Value} {base : Heap} {cls : Str → Addr} {f : Addr} {fd : FuncData} (T : Txt K mg) (C_check_between : CalX P w K mg base ⟨K, cls⟩ 3 "check_between" [] 4 F_check_between (B0 K)) (C_is_between : CalX P w K mg base ⟨K, cls⟩ 2 "is_between" [] 3 F_is_between (B0 K)) (Fn : Fun K "check_blocks" "check_blocks" st_check_blocks f fd) (hm : mg "check_blocks" = some (.ref f)) : CalX P w K mg base ⟨K, cls⟩ 4 "check_blocks" [] 3 F_check_blocks (B0 K) := by
  refine cal_mk Fn hm sc_check_blocks rfl (by decide) (fun _ _ _ _ _ _ us h => match us, h with | [_, _, _], _ => rfl) fun cdv A outer s H E hr => ?_
  have TK := takes_of (X := cxOf (L2.CX P w) P w K mg base ["block", "bits", "window"] "check_blocks" (defScope st_check_blocks) f cdv A outer s H E) (E := E) rfl rfl rfl rfl
  have S := sc_check_blocks
  exact (dss_cons (ds_expr (dc C_check_between hr (by decide) TK rfl (ae_cons (oe_of de_str) (ae_cons (oe_of (de_var (pv 0))) (ae_cons (oe_of de_int) (ae_cons (oe_of (de_gint rfl T.v_MOST_TEXT.choose_spec)) ae_nil))))))
      (dss_cons (ds_expr (dc C_check_between hr (by decide) TK rfl (ae_cons (oe_of de_str) (ae_cons (oe_of (de_var (pv 1))) (ae_cons (oe_of de_int) (ae_cons (oe_of (de_gint rfl T.v_MOST_BITS.choose_spec)) ae_nil))))))
      (dss_one (ds_if (DW.dt (dw_and (dt_cmp op_isnotG (oe_var (pv 2)) (oe_of de_non) (nomark _)) (dw_and1 (dt_not (dt_val (dc C_is_between hr (by decide) TK rfl (ae_cons (oe_of (de_var (pv 2))) (ae_cons (oe_of de_int) (ae_cons (oe_of (de_gint rfl T.v_MOST_TEXT.choose_spec)) ae_nil))))))))) (dss_one ds_nev) dss_nil))))
abbrev st_check_limits : Stmt := top 30
noncomputable def B_check_limits : M Fl := sSeq (sIf (boolR (fBin gtD (nameO 1) (shareO (fBin shlD (shareO (cst (.int 1))) (nameO 3))))) (badM) (sNext)) (sIf (boolR (fBin gtD (shareO (fBin shlD (shareO (fBin fdivD (shareO (fBin subD (shareO (fBin addD (nameO 0) (nameO 2))) (shareO (cst (.int 1))))) (nameO 2))) (nameO 3))) (shareO (cst (.int 200000))))) (badM) (sNext))
noncomputable def F_check_limits : M R := bodyF [] 4 4 B_check_limits
abbrev N_check_limits : List Str := ["many", "size", "block", "bits"]
theorem sc_check_limits : FnScope ["many", "size", "block", "bits"] ["many", "size", "block", "bits"] (defScope st_check_limits) := ⟨rfl, rfl, rfl, by decide +kernel, rfl, by decide +kernel, by decide +kernel⟩
theorem ok_check_limits {P : Program} {w : World} {K : PySem.W.Frag} {mg : Str → Option Value} {base : Heap} {cls : Str → Addr} {f : Addr} {fd : FuncData} (T : Txt K mg) (Fn : Fun K "check_limits" "check_limits" st_check_limits f fd) (hm : mg "check_limits" = some (.ref f)) : CalX P w K mg base ⟨K, cls⟩ 1 "check_limits" [] 4 F_check_limits (B0 K) := by
  refine cal_mk Fn hm sc_check_limits rfl (by decide) (fun _ _ _ _ _ _ us h => match us, h with | [_, _, _, _], _ => rfl) fun cdv A outer s H E hr => ?_
  have TK := takes_of (X := cxOf (L2.CX P w) P w K mg base ["many", "size", "block", "bits"] "check_limits" (defScope st_check_limits) f cdv A outer s H E) (E := E) rfl rfl rfl rfl
  have S := sc_check_limits
  exact (dss_cons (ds_if (dt_cmp op_gtG (oe_var (pv 1)) (oe_of (de_bin op_shlD (oe_of de_int) (oe_var (pv 3)))) (nomark _)) (dss_one ds_nev) dss_nil)
      (dss_one (ds_if (dt_cmp op_gtG (oe_of (de_bin op_shlD (oe_of (de_bin op_fdivD (oe_of (de_bin op_subD (oe_of (de_bin (op_addD rfl) (oe_var (pv 0)) (oe_var (pv 2)))) (oe_of de_int))) (oe_var (pv 2)))) (oe_var (pv 3)))) (oe_of (de_gint rfl T.v_MOST_WORK.choose_spec)) (nomark _)) (dss_one ds_nev) dss_nil)))
abbrev st_sum_of : Stmt := top 19
noncomputable def B_sum_of : M Fl := sRet (fB sumD (consA (shareO (fLc (fIter listD (takeS 0)) [1, 2] (tTuple 2 (tsCons (tName 1) (tsCons (tName 2) (tsNil)))) (M.pure true) (takeS 2))) (nilA)))
noncomputable def F_sum_of : M R := bodyF [] 1 3 B_sum_of
abbrev N_sum_of : List Str := ["pairs", "symbol", "number"]
theorem sc_sum_of : FnScope ["pairs", "symbol", "number"] ["pairs"] (defScope st_sum_of) := ⟨rfl, rfl, rfl, by decide +kernel, rfl, by decide +kernel, by decide +kernel⟩
theorem ok_sum_of {P : Program} {w : World} {K : PySem.W.Frag} {mg : Str → Option Value} {base : Heap} {cls : Str → Addr} {f : Addr} {fd : FuncData} (T : Txt K mg) (Fn : Fun K "sum_of" "sum_of" st_sum_of f fd) (hm : mg "sum_of" = some (.ref f)) : CalX P w K mg base ⟨K, cls⟩ 1 "sum_of" [] 1 F_sum_of (B0 K) := by
  refine cal_mk Fn hm sc_sum_of rfl (by decide) (fun _ _ _ _ _ _ us h => match us, h with | [_], _ => rfl) fun cdv A outer s H E hr => ?_
  have TK := takes_of (X := cxOf (L2.CX P w) P w K mg base ["pairs", "symbol", "number"] "sum_of" (defScope st_sum_of) f cdv A outer s H E) (E := E) rfl rfl rfl rfl
  have S := sc_sum_of
  exact (dss_one (ds_ret (de_cb (cr_sumG rfl rfl) rfl T.n_sum PyProof.Rows.boot_sum (ae_cons (oe_of (de_lc rfl S.nd (ie_list (de_var (pv 0)) rfl) (own := [("symbol", 1), ("number", 2)]) (show BlkOk N_sum_of (defScope st_sum_of) _ _ from blkOk_by (by decide +kernel)) (by decide) (fun _ => (ge_tup rfl (ges_cons (ge_name S.nd rfl (by first | exact .inl rfl | exact .inr rfl) (by decide)) (ges_cons (ge_name S.nd rfl (by first | exact .inl rfl | exact .inr rfl) (by decide)) ges_nil)) (hK := rfl))) (fun _ => dts_nil) (fun _ => (de_var (pv 2))))) ae_nil))))
abbrev st_shared : Stmt := top 21
noncomputable def B_shared : M Fl := sSeq (sSet 2 (fCall [] F_sum_of 1 (consA (shareO (takeS 0)) (nilA)))) (sSeq (sSet 3 (fLc (fIter listD (takeS 0)) [4, 5] (tTuple 2 (tsCons (tName 4) (tsCons (tName 5) (tsNil)))) (M.pure true) (fB maxD (consA (shareO (cst (.int 1))) (consA (shareO (fBin fdivD (shareO (fBin mulD (nameO 5) (nameO 1))) (nameO 2))) (nilA)))))) (sSeq (sSet 6 (fLc (fEnum (consA (shareO (takeS 0)) (nilA))) [7, 4, 5] (tTuple 2 (tsCons (tName 7) (tsCons (tTuple 2 (tsCons (tName 4) (tsCons (tName 5) (tsNil)))) (tsNil)))) (boolR (fBin geD (shareO (fBin mulD (nameO 5) (nameO 1))) (nameO 2))) (fDisp .tup (consA (shareO (fBin subD (shareO (cst (.int 0))) (shareO (fBin modD (shareO (fBin mulD (nameO 5) (nameO 1))) (nameO 2))))) (consA (shareO (takeS 7)) (nilA)))))) (sSeq (sFor (fIter listD (fSlice (shareO (fB sortedD (consA (nameO 6) (nilA)))) (M.pure none) (partI (fB maxD (consA (shareO (cst (.int 0))) (consA (shareO (fBin subD (nameO 1) (shareO (fB sumD (consA (nameO 3) (nilA)))))) (nilA))))))) (tTuple 2 (tsCons (tName 8) (tsCons (tName 7) (tsNil)))) (sPut 3 (takeS 7) (fBin addD (shareO (fBin ixD (nameO 3) (nameO 7))) (shareO (cst (.int 1)))))) (sSeq (sWhile (boolR (fBin gtD (shareO (fB sumD (consA (nameO 3) (nilA)))) (nameO 1))) (sSeq (sSet 7 (fMeth "list" indexD (nameO 3) (consA (shareO (fB maxD (consA (nameO 3) (nilA)))) (nilA)))) (sPut 3 (takeS 7) (fBin subD (shareO (fBin ixD (nameO 3) (nameO 7))) (shareO (cst (.int 1))))))) (sRet (fLc (fEnum (consA (shareO (takeS 3)) (nilA))) [7, 9] (tTuple 2 (tsCons (tName 7) (tsCons (tName 9) (tsNil)))) (M.pure true) (fDisp .tup (consA (shareO (fBin ixD (shareO (fBin ixD (nameO 0) (nameO 7))) (shareO (cst (.int 0))))) (consA (shareO (takeS 9)) (nilA))))))))))
noncomputable def F_shared : M R := bodyF [] 2 10 B_shared
abbrev N_shared : List Str := ["numbers", "size", "total", "found", "symbol", "number", "rests", "at", "rest", "count"]
theorem sc_shared : FnScope ["numbers", "size", "total", "found", "symbol", "number", "rests", "at", "rest", "count"] ["numbers", "size"] (defScope st_shared) := ⟨rfl, rfl, rfl, by decide +kernel, rfl, by decide +kernel, by decide +kernel⟩
theorem ok_shared {P : Program} {w : World} {K : PySem.W.Frag} {mg : Str → Option Value} {base : Heap} {cls : Str → Addr} {f : Addr} {fd : FuncData} (T : Txt K mg) (C_sum_of : CalX P w K mg base ⟨K, cls⟩ 1 "sum_of" [] 1 F_sum_of (B0 K)) (Fn : Fun K "shared" "shared" st_shared f fd) (hm : mg "shared" = some (.ref f)) : CalX P w K mg base ⟨K, cls⟩ 2 "shared" [] 2 F_shared (B0 K) := by
  refine cal_mk Fn hm sc_shared rfl (by decide) (fun _ _ _ _ _ _ us h => match us, h with | [_, _], _ => rfl) fun cdv A outer s H E hr => ?_
  have TK := takes_of (X := cxOf (L2.CX P w) P w K mg base ["numbers", "size", "total", "found", "symbol", "number", "rests", "at", "rest", "count"] "shared" (defScope st_shared) f cdv A outer s H E) (E := E) rfl rfl rfl rfl
  have S := sc_shared
  exact (dss_cons (ds_set S.nd (i := 2) rfl (by first | exact .inl rfl | exact .inr rfl) (by decide) (dc C_sum_of hr (by decide) TK rfl (ae_cons (oe_of (de_var (pv 0))) ae_nil)))
      (dss_cons (ds_setLc rfl S.nd (i := 3) rfl rfl (by decide) rfl (ie_list (de_var (pv 0)) rfl) (own := [("symbol", 4), ("number", 5)]) (show BlkOk N_shared (defScope st_shared) _ _ from blkOk_by (by decide +kernel)) (by decide) (fun _ => (ge_tup rfl (ges_cons (ge_name S.nd rfl (by first | exact .inl rfl | exact .inr rfl) (by decide)) (ges_cons (ge_name S.nd rfl (by first | exact .inl rfl | exact .inr rfl) (by decide)) ges_nil)) (hK := rfl))) (fun _ => dts_nil) (fun _ => (de_cb (cr_maxG rfl rfl) rfl T.n_max PyProof.Rows.boot_max (ae_cons (oe_of de_int) (ae_cons (oe_of (de_bin op_fdivD (oe_of (de_bin (op_mulD rfl) (oe_var (pv 5)) (oe_var (pv 1)))) (oe_var (pv 2)))) ae_nil)))))
      (dss_cons (ds_setLc rfl S.nd (i := 6) rfl rfl (by decide) rfl (ie_enum rfl T.n_enumerate (ae_cons (oe_of (de_var (pv 0))) ae_nil) (hK := rfl)) (own := [("at", 7), ("symbol", 4), ("number", 5)]) (show BlkOk N_shared (defScope st_shared) _ _ from blkOk_by (by decide +kernel)) (by decide) (fun _ => (ge_tup rfl (ges_cons (ge_name S.nd rfl (by first | exact .inl rfl | exact .inr rfl) (by decide)) (ges_cons (ge_tup rfl (ges_cons (ge_name S.nd rfl (by first | exact .inl rfl | exact .inr rfl) (by decide)) (ges_cons (ge_name S.nd rfl (by first | exact .inl rfl | exact .inr rfl) (by decide)) ges_nil)) (hK := rfl)) ges_nil)) (hK := rfl))) (fun _ => (dts_one (dt_cmp op_geG (oe_of (de_bin (op_mulD rfl) (oe_var (pv 5)) (oe_var (pv 1)))) (oe_var (pv 2)) (nomark _)))) (fun _ => (de_tup (ae_cons (oe_of (de_bin op_subD (oe_of de_int) (oe_of (de_bin op_modD (oe_of (de_bin (op_mulD rfl) (oe_var (pv 5)) (oe_var (pv 1)))) (oe_var (pv 2)))))) (ae_cons (oe_of (de_var (pv 7))) ae_nil)))))
      (dss_cons (ds_for (passes_of rfl) rfl (ie_list (de_slice (oe_of (de_cb (cr_sortG (hu66 hr) rfl) rfl T.n_sorted PyProof.Rows.boot_sorted (ae_cons (oe_var (pv 6)) ae_nil))) dp_none (dp_some (de_cb (cr_maxG rfl rfl) rfl T.n_max PyProof.Rows.boot_max (ae_cons (oe_of de_int) (ae_cons (oe_of (de_bin op_subD (oe_var (pv 1)) (oe_of (de_cb (cr_sumG rfl rfl) rfl T.n_sum PyProof.Rows.boot_sum (ae_cons (oe_var (pv 3)) ae_nil))))) ae_nil)))) rfl) rfl) (ge_tup rfl (ges_cons (ge_name S.nd rfl (by first | exact .inl rfl | exact .inr rfl) (by decide)) (ges_cons (ge_name S.nd rfl (by first | exact .inl rfl | exact .inr rfl) (by decide)) ges_nil)) (hK := rfl)) (dss_one (ds_put (pv 3) (de_var (pv 7)) (de_bin (op_addD rfl) (oe_of (de_ix (hu1 hr) (oe_var (pv 3)) (oe_var (pv 7)) (fun _ _ => rfl) rfl)) (oe_of de_int)))))
      (dss_cons (ds_while (passes_of rfl) (dt_cmp op_gtG (oe_of (de_cb (cr_sumG rfl rfl) rfl T.n_sum PyProof.Rows.boot_sum (ae_cons (oe_var (pv 3)) ae_nil))) (oe_var (pv 1)) (nomark _)) (dss_cons (ds_set S.nd (i := 7) rfl (by first | exact .inl rfl | exact .inr rfl) (by decide) (de_lm PySem.F.slot_list_index PySem.F.type_list_index (mt_indexG (hu65 hr) rfl) (oe_var (pv 3)) (ae_cons (oe_of (de_cb (cr_maxG rfl rfl) rfl T.n_max PyProof.Rows.boot_max (ae_cons (oe_var (pv 3)) ae_nil))) ae_nil) rfl))
      (dss_one (ds_put (pv 3) (de_var (pv 7)) (de_bin op_subD (oe_of (de_ix (hu1 hr) (oe_var (pv 3)) (oe_var (pv 7)) (fun _ _ => rfl) rfl)) (oe_of de_int))))))
      (dss_one (ds_ret (de_lc rfl S.nd (ie_enum rfl T.n_enumerate (ae_cons (oe_of (de_var (pv 3))) ae_nil) (hK := rfl)) (own := [("at", 7), ("count", 9)]) (show BlkOk N_shared (defScope st_shared) _ _ from blkOk_by (by decide +kernel)) (by decide) (fun _ => (ge_tup rfl (ges_cons (ge_name S.nd rfl (by first | exact .inl rfl | exact .inr rfl) (by decide)) (ges_cons (ge_name S.nd rfl (by first | exact .inl rfl | exact .inr rfl) (by decide)) ges_nil)) (hK := rfl))) (fun _ => dts_nil) (fun _ => (de_tup (ae_cons (oe_of (de_ix (hu1 hr) (oe_of (de_ix (hu1 hr) (oe_var (pv 0)) (oe_var (pv 7)) (fun _ _ => rfl) rfl)) (oe_of de_int) (fun _ _ => rfl) rfl)) (ae_cons (oe_of (de_var (pv 9))) ae_nil))))))))))))
abbrev st_counts_ahead : Stmt := top 31
noncomputable def B_counts_ahead : M Fl := sSeq (sSet 5 (fIf (boolR (fBin isND (nameO 4) (shareO (cst .non)))) (cst (.int 0)) (fB maxD (consA (shareO (cst (.int 0))) (consA (shareO (fBin subD (nameO 1) (nameO 4))) (nilA)))))) (sSeq (sSet 6 (fBin mulD (shareO (fDisp .lst (consA (shareO (cst (.int 1))) (nilA)))) (nameO 2))) (sSeq (sFor (fIter listD (fSlice (nameO 0) (partI (takeS 5)) (partI (takeS 1)))) (tName 7) (sAugIx (fun i j => i + j) 6 (takeS 7) (cst (.int 1)))) (sRet (fCall [] F_shared 2 (consA (shareO (fListEn (takeS 6))) (consA (shareO (fBin shlD (shareO (cst (.int 1))) (nameO 3))) (nilA)))))))
noncomputable def F_counts_ahead : M R := bodyF [] 5 8 B_counts_ahead
abbrev N_counts_ahead : List Str := ["text", "at", "size", "bits", "window", "begin", "numbers", "symbol"]
theorem sc_counts_ahead : FnScope ["text", "at", "size", "bits", "window", "begin", "numbers", "symbol"] ["text", "at", "size", "bits", "window"] (defScope st_counts_ahead) := ⟨rfl, rfl, rfl, by decide +kernel, rfl, by decide +kernel, by decide +kernel⟩
theorem ok_counts_ahead {P : Program} {w : World} {K : PySem.W.Frag} {mg : Str → Option Value} {base : Heap} {cls : Str → Addr} {f : Addr} {fd : FuncData} (T : Txt K mg) (C_shared : CalX P w K mg base ⟨K, cls⟩ 2 "shared" [] 2 F_shared (B0 K)) (Fn : Fun K "counts_ahead" "counts_ahead" st_counts_ahead f fd) (hm : mg "counts_ahead" = some (.ref f)) : CalX P w K mg base ⟨K, cls⟩ 3 "counts_ahead" [] 5 F_counts_ahead (B0 K) := by
  refine cal_mk Fn hm sc_counts_ahead rfl (by decide) (fun _ _ _ _ _ _ us h => match us, h with | [_, _, _, _, _], _ => rfl) fun cdv A outer s H E hr => ?_
  have TK := takes_of (X := cxOf (L2.CX P w) P w K mg base ["text", "at", "size", "bits", "window", "begin", "numbers", "symbol"] "counts_ahead" (defScope st_counts_ahead) f cdv A outer s H E) (E := E) rfl rfl rfl rfl
  have S := sc_counts_ahead
  exact (dss_cons (ds_set S.nd (i := 5) rfl (by first | exact .inl rfl | exact .inr rfl) (by decide) (de_if (dt_cmp op_isG (oe_var (pv 4)) (oe_of de_non) (nomark _)) de_int (de_cb (cr_maxG rfl rfl) rfl T.n_max PyProof.Rows.boot_max (ae_cons (oe_of de_int) (ae_cons (oe_of (de_bin op_subD (oe_var (pv 1)) (oe_var (pv 4)))) ae_nil)))))
      (dss_cons (ds_set S.nd (i := 6) rfl (by first | exact .inl rfl | exact .inr rfl) (by decide) (de_bin (op_mulD rfl) (oe_of (de_lst (ae_cons (oe_of de_int) ae_nil))) (oe_var (pv 2))))
      (dss_cons (ds_for (passes_of rfl) rfl (ie_list (de_slice (oe_var (pv 0)) (dp_some (de_var (pv 5))) (dp_some (de_var (pv 1))) rfl) rfl) (ge_name S.nd rfl (by first | exact .inl rfl | exact .inr rfl) (by decide)) (dss_one (ds_augIx ip_add (pv 6) (de_var (pv 7)) de_int rfl)))
      (dss_one (ds_ret (dc C_shared hr (by decide) TK rfl (ae_cons (oe_of (de_listEn rfl rfl T.n_list rfl T.n_enumerate (de_var (pv 6)) rfl)) (ae_cons (oe_of (de_bin op_shlD (oe_of de_int) (oe_var (pv 3)))) ae_nil))))))))
abbrev st_begins : Stmt := top 32
noncomputable def B_begins : M Fl := sRet (fListR3 (consA (shareO (cst (.int 0))) (consA (shareO (takeS 0)) (consA (shareO (takeS 1)) (nilA)))))
noncomputable def F_begins : M R := bodyF [] 2 2 B_begins
abbrev N_begins : List Str := ["many", "block"]
theorem sc_begins : FnScope ["many", "block"] ["many", "block"] (defScope st_begins) := ⟨rfl, rfl, rfl, by decide +kernel, rfl, by decide +kernel, by decide +kernel⟩
theorem ok_begins {P : Program} {w : World} {K : PySem.W.Frag} {mg : Str → Option Value} {base : Heap} {cls : Str → Addr} {f : Addr} {fd : FuncData} (T : Txt K mg) (Fn : Fun K "begins" "begins" st_begins f fd) (hm : mg "begins" = some (.ref f)) : CalX P w K mg base ⟨K, cls⟩ 1 "begins" [] 2 F_begins (B0 K) := by
  refine cal_mk Fn hm sc_begins rfl (by decide) (fun _ _ _ _ _ _ us h => match us, h with | [_, _], _ => rfl) fun cdv A outer s H E hr => ?_
  have TK := takes_of (X := cxOf (L2.CX P w) P w K mg base ["many", "block"] "begins" (defScope st_begins) f cdv A outer s H E) (E := E) rfl rfl rfl rfl
  have S := sc_begins
  exact (dss_one (ds_ret (de_listR3 rfl rfl T.n_list rfl T.n_range (ae_cons (oe_of de_int) (ae_cons (oe_of (de_var (pv 0))) (ae_cons (oe_of (de_var (pv 1))) ae_nil))))))
abbrev st_counts_of_blocks : Stmt := top 33
noncomputable def B_counts_of_blocks : M Fl := sRet (fLc (fIter listD (fCall [] F_begins 2 (consA (shareO (fB lenD (consA (nameO 0) (nilA)))) (consA (shareO (takeS 2)) (nilA))))) [5] (tName 5) (M.pure true) (fCall [] F_counts_ahead 5 (consA (shareO (takeS 0)) (consA (shareO (takeS 5)) (consA (shareO (takeS 1)) (consA (shareO (takeS 3)) (consA (shareO (takeS 4)) (nilA))))))))
noncomputable def F_counts_of_blocks : M R := bodyF [] 5 6 B_counts_of_blocks
abbrev N_counts_of_blocks : List Str := ["text", "size", "block", "bits", "window", "at"]
theorem sc_counts_of_blocks : FnScope ["text", "size", "block", "bits", "window", "at"] ["text", "size", "block", "bits", "window"] (defScope st_counts_of_blocks) := ⟨rfl, rfl, rfl, by decide +kernel, rfl, by decide +kernel, by decide +kernel⟩
theorem ok_counts_of_blocks {P : Program} {w : World} {K : PySem.W.Frag} {mg : Str → Option Value} {base : Heap} {cls : Str → Addr} {f : Addr} {fd : FuncData} (T : Txt K mg) (C_begins : CalX P w K mg base ⟨K, cls⟩ 1 "begins" [] 2 F_begins (B0 K)) (C_counts_ahead : CalX P w K mg base ⟨K, cls⟩ 3 "counts_ahead" [] 5 F_counts_ahead (B0 K)) (Fn : Fun K "counts_of_blocks" "counts_of_blocks" st_counts_of_blocks f fd) (hm : mg "counts_of_blocks" = some (.ref f)) : CalX P w K mg base ⟨K, cls⟩ 4 "counts_of_blocks" [] 5 F_counts_of_blocks (B0 K) := by
  refine cal_mk Fn hm sc_counts_of_blocks rfl (by decide) (fun _ _ _ _ _ _ us h => match us, h with | [_, _, _, _, _], _ => rfl) fun cdv A outer s H E hr => ?_
  have TK := takes_of (X := cxOf (L2.CX P w) P w K mg base ["text", "size", "block", "bits", "window", "at"] "counts_of_blocks" (defScope st_counts_of_blocks) f cdv A outer s H E) (E := E) rfl rfl rfl rfl
  have S := sc_counts_of_blocks
  exact (dss_one (ds_ret (de_lc rfl S.nd (ie_list (dc C_begins hr (by decide) TK rfl (ae_cons (oe_of (de_cb (cr_len rfl) rfl T.n_len PySem.boot_len (ae_cons (oe_var (pv 0)) ae_nil))) (ae_cons (oe_of (de_var (pv 2))) ae_nil))) rfl) (own := [("at", 5)]) (show BlkOk N_counts_of_blocks (defScope st_counts_of_blocks) _ _ from blkOk_by (by decide +kernel)) (by decide) (fun _ => (ge_name S.nd rfl (by first | exact .inl rfl | exact .inr rfl) (by decide))) (fun _ => dts_nil) (fun _ => (dc C_counts_ahead hr (by decide) takes0 rfl (ae_cons (oe_of (de_var (pv 0))) (ae_cons (oe_of (de_var (pv 5))) (ae_cons (oe_of (de_var (pv 1))) (ae_cons (oe_of (de_var (pv 3))) (ae_cons (oe_of (de_var (pv 4))) ae_nil))))))))))
abbrev st_adaptive_counts : Stmt := top 34
noncomputable def B_adaptive_counts : M Fl := sSeq (sDrop (fCall [] F_check_small 2 (consA (shareO (takeS 0)) (consA (shareO (takeS 1)) (nilA))))) (sSeq (sDrop (fCall [] F_check_blocks 3 (consA (shareO (takeS 2)) (consA (shareO (takeS 3)) (consA (shareO (takeS 4)) (nilA)))))) (sSeq (sDrop (fCall [] F_check_limits 4 (consA (shareO (fB lenD (consA (nameO 0) (nilA)))) (consA (shareO (takeS 1)) (consA (shareO (takeS 2)) (consA (shareO (takeS 3)) (nilA))))))) (sRet (fCall [] F_counts_of_blocks 5 (consA (shareO (takeS 0)) (consA (shareO (takeS 1)) (consA (shareO (takeS 2)) (consA (shareO (takeS 3)) (consA (shareO (takeS 4)) (nilA))))))))))
noncomputable def F_adaptive_counts : M R := bodyF [] 5 5 B_adaptive_counts
abbrev N_adaptive_counts : List Str := ["text", "size", "block", "bits", "window"]
theorem dd_adaptive_counts {G : GC} {Hm : Hp} : Reps G Hm [D.non] [V.non] := by simp [Reps, Rep]
structure Bd_adaptive_counts (K : PySem.W.Frag) (fd : FuncData) (ps : List Str) : Prop where
  p0 : KBd K fd ps 5 [] [(0, 0), (0, 1), (0, 2), (0, 3), (0, 4)] [V.non]
  p1 : KBd K fd ps 4 [] [(0, 0), (0, 1), (0, 2), (0, 3), (1, 0)] [V.non]
  p2 : KBd K fd ps 0 ["window", "bits", "block", "size", "text"] [(2, 4), (2, 3), (2, 2), (2, 1), (2, 0)] [V.non]
theorem bd_adaptive_counts {K : PySem.W.Frag} {f : Addr} {fd : FuncData} (Fn : FunD K "adaptive_counts" "adaptive_counts" (defArgs st_adaptive_counts) (defBody st_adaptive_counts) (defScope st_adaptive_counts) [V.non] [] f fd) : Bd_adaptive_counts K fd ["text", "size", "block", "bits", "window"] := ⟨kbd_of Fn 5 [] [(0, 0), (0, 1), (0, 2), (0, 3), (0, 4)] (by simp) (fun T kV doc pm an cdv ct us its ws h1 h2 h3 => match us, its, ws, h1, h2, h3 with | [_, _, _, _, _], [_], [], _, _, _ => ⟨_, rfl, rfl⟩), kbd_of Fn 4 [] [(0, 0), (0, 1), (0, 2), (0, 3), (1, 0)] (by simp) (fun T kV doc pm an cdv ct us its ws h1 h2 h3 => match us, its, ws, h1, h2, h3 with | [_, _, _, _], [_], [], _, _, _ => ⟨_, rfl, rfl⟩), kbd_of Fn 0 ["window", "bits", "block", "size", "text"] [(2, 4), (2, 3), (2, 2), (2, 1), (2, 0)] (by simp) (fun T kV doc pm an cdv ct us its ws h1 h2 h3 => match us, its, ws, h1, h2, h3 with | [], [_], [_, _, _, _, _], _, _, _ => ⟨_, rfl, rfl⟩)⟩
theorem sc_adaptive_counts : FnScope ["text", "size", "block", "bits", "window"] ["text", "size", "block", "bits", "window"] (defScope st_adaptive_counts) := ⟨rfl, rfl, rfl, by decide +kernel, rfl, by decide +kernel, by decide +kernel⟩
theorem ok_adaptive_counts {P : Program} {w : World} {K : PySem.W.Frag} {mg : Str → Option Value} {base : Heap} {cls : Str → Addr} {f : Addr} {fd : FuncData} (T : Txt K mg) (C_check_blocks : CalX P w K mg base ⟨K, cls⟩ 4 "check_blocks" [] 3 F_check_blocks (B0 K)) (C_check_limits : CalX P w K mg base ⟨K, cls⟩ 1 "check_limits" [] 4 F_check_limits (B0 K)) (C_check_small : CalX P w K mg base ⟨K, cls⟩ 5 "check_small" [] 2 F_check_small (B0 K)) (C_counts_of_blocks : CalX P w K mg base ⟨K, cls⟩ 4 "counts_of_blocks" [] 5 F_counts_of_blocks (B0 K)) (Fn : FunD K "adaptive_counts" "adaptive_counts" (defArgs st_adaptive_counts) (defBody st_adaptive_counts) (defScope st_adaptive_counts) [V.non] [] f fd) (hm : mg "adaptive_counts" = some (.ref f)) : CalX P w K mg base ⟨K, cls⟩ 6 "adaptive_counts" [] 5 F_adaptive_counts (Bd_adaptive_counts K) := by
  refine cal_mkD Fn hm sc_adaptive_counts rfl (by decide) (bd_adaptive_counts Fn) fun cdv A outer s H E hr => ?_
  have TK := takes_of (X := cxOf (L2.CX P w) P w K mg base ["text", "size", "block", "bits", "window"] "adaptive_counts" (defScope st_adaptive_counts) f cdv A outer s H E) (E := E) rfl rfl rfl rfl
  have S := sc_adaptive_counts
  exact (dss_cons (ds_expr (dc C_check_small hr (by decide) TK rfl (ae_cons (oe_of (de_var (pv 0))) (ae_cons (oe_of (de_var (pv 1))) ae_nil))))
      (dss_cons (ds_expr (dc C_check_blocks hr (by decide) TK rfl (ae_cons (oe_of (de_var (pv 2))) (ae_cons (oe_of (de_var (pv 3))) (ae_cons (oe_of (de_var (pv 4))) ae_nil)))))
      (dss_cons (ds_expr (dc C_check_limits hr (by decide) TK rfl (ae_cons (oe_of (de_cb (cr_len rfl) rfl T.n_len PySem.boot_len (ae_cons (oe_var (pv 0)) ae_nil))) (ae_cons (oe_of (de_var (pv 1))) (ae_cons (oe_of (de_var (pv 2))) (ae_cons (oe_of (de_var (pv 3))) ae_nil))))))
      (dss_one (ds_ret (dc C_counts_of_blocks hr (by decide) TK rfl (ae_cons (oe_of (de_var (pv 0))) (ae_cons (oe_of (de_var (pv 1))) (ae_cons (oe_of (de_var (pv 2))) (ae_cons (oe_of (de_var (pv 3))) (ae_cons (oe_of (de_var (pv 4))) ae_nil)))))))))))
abbrev st_is_pair : Stmt := top 17
noncomputable def B_is_pair : M Fl := sSeq (sIf (fOr (fNot (boolR (fUn (isiD "tuple") (nameO 0)))) (boolR (fBin neD (shareO (fB lenD (consA (nameO 0) (nilA)))) (shareO (cst (.int 2)))))) (sRet (cst (.bl false))) (sNext)) (sRet (fAndV (boolR (fCall [] F_is_symbol 1 (consA (shareO (fBin ixD (nameO 0) (shareO (cst (.int 0))))) (nilA)))) (fCall [] F_is_between 3 (consA (shareO (fBin ixD (nameO 0) (shareO (cst (.int 1))))) (consA (shareO (cst (.int 1))) (consA (shareO (cst (.int 1000000000000000000000000000000))) (nilA)))))))
noncomputable def F_is_pair : M R := bodyF [] 1 1 B_is_pair
abbrev N_is_pair : List Str := ["value"]
theorem sc_is_pair : FnScope ["value"] ["value"] (defScope st_is_pair) := ⟨rfl, rfl, rfl, by decide +kernel, rfl, by decide +kernel, by decide +kernel⟩
theorem ok_is_pair {P : Program} {w : World} {K : PySem.W.Frag} {mg : Str → Option Value} {base : Heap} {cls : Str → Addr} {f : Addr} {fd : FuncData} (T : Txt K mg) (C_is_between : CalX P w K mg base ⟨K, cls⟩ 2 "is_between" [] 3 F_is_between (B0 K)) (C_is_symbol : CalX P w K mg base ⟨K, cls⟩ 3 "is_symbol" [] 1 F_is_symbol (B0 K)) (Fn : Fun K "is_pair" "is_pair" st_is_pair f fd) (hm : mg "is_pair" = some (.ref f)) : CalX P w K mg base ⟨K, cls⟩ 4 "is_pair" [] 1 F_is_pair (B0 K) := by
  refine cal_mk Fn hm sc_is_pair rfl (by decide) (fun _ _ _ _ _ _ us h => match us, h with | [_], _ => rfl) fun cdv A outer s H E hr => ?_
  have TK := takes_of (X := cxOf (L2.CX P w) P w K mg base ["value"] "is_pair" (defScope st_is_pair) f cdv A outer s H E) (E := E) rfl rfl rfl rfl
  have S := sc_is_pair
  exact (dss_cons (ds_if (DW.dt (dw_or (dt_not (dt_val (de_isi isi_tuple rfl T.n_isinstance rfl T.n_tuple PyProof.Rows.boot_tuple (oe_var (pv 0)) rfl))) (dw_or1 (dt_cmp (op_neG (hu64 hr) rfl) (oe_of (de_cb (cr_len rfl) rfl T.n_len PySem.boot_len (ae_cons (oe_var (pv 0)) ae_nil))) (oe_of de_int) (nomark _))))) (dss_one (ds_ret de_bl)) dss_nil)
      (dss_one (ds_ret (de_and (dc C_is_symbol hr (by decide) TK rfl (ae_cons (oe_of (de_ix (hu1 hr) (oe_var (pv 0)) (oe_of de_int) (fun _ _ => rfl) rfl)) ae_nil)) (de_one (dc C_is_between hr (by decide) TK rfl (ae_cons (oe_of (de_ix (hu1 hr) (oe_var (pv 0)) (oe_of de_int) (fun _ _ => rfl) rfl)) (ae_cons (oe_of de_int) (ae_cons (oe_of (de_gint rfl T.v_MOST_NUMBER.choose_spec)) ae_nil)))))))))
abbrev st_is_numbers : Stmt := top 18
noncomputable def B_is_numbers : M Fl := sSeq (sIf (fOr (fNot (boolR (fUn (isiD "list") (nameO 0)))) (fNot (boolR (fChain leD leD (shareO (cst (.int 1))) (shareO (fB lenD (consA (nameO 0) (nilA)))) (shareO (fBin addD (shareO (cst (.int 999))) (shareO (cst (.int 1))))))))) (sRet (cst (.bl false))) (sNext)) (sSeq (sIf (fNot (boolR (fB allD (consA (shareO (fLc (fIter listD (takeS 0)) [1] (tName 1) (M.pure true) (fCall [] F_is_pair 1 (consA (shareO (takeS 1)) (nilA))))) (nilA))))) (sRet (cst (.bl false))) (sNext)) (sRet (fB allD (consA (shareO (fLc (fRng1 (consA (shareO (fBin subD (shareO (fB lenD (consA (nameO 0) (nilA)))) (shareO (cst (.int 1))))) (nilA))) [2] (tName 2) (M.pure true) (fBin ltD (shareO (fBin ixD (shareO (fBin ixD (nameO 0) (nameO 2))) (shareO (cst (.int 0))))) (shareO (fBin ixD (shareO (fBin ixD (nameO 0) (shareO (fBin addD (nameO 2) (shareO (cst (.int 1))))))) (shareO (cst (.int 0)))))))) (nilA)))))
noncomputable def F_is_numbers : M R := bodyF [] 1 3 B_is_numbers
abbrev N_is_numbers : List Str := ["value", "one", "at"]
theorem sc_is_numbers : FnScope ["value", "one", "at"] ["value"] (defScope st_is_numbers) := ⟨rfl, rfl, rfl, by decide +kernel, rfl, by decide +kernel, by decide +kernel⟩
theorem ok_is_numbers {P : Program} {w : World} {K : PySem.W.Frag} {mg : Str → Option Value} {base : Heap} {cls : Str → Addr} {f : Addr} {fd : FuncData} (T : Txt K mg) (C_is_pair : CalX P w K mg base ⟨K, cls⟩ 4 "is_pair" [] 1 F_is_pair (B0 K)) (Fn : Fun K "is_numbers" "is_numbers" st_is_numbers f fd) (hm : mg "is_numbers" = some (.ref f)) : CalX P w K mg base ⟨K, cls⟩ 5 "is_numbers" [] 1 F_is_numbers (B0 K) := by
  refine cal_mk Fn hm sc_is_numbers rfl (by decide) (fun _ _ _ _ _ _ us h => match us, h with | [_], _ => rfl) fun cdv A outer s H E hr => ?_
  have TK := takes_of (X := cxOf (L2.CX P w) P w K mg base ["value", "one", "at"] "is_numbers" (defScope st_is_numbers) f cdv A outer s H E) (E := E) rfl rfl rfl rfl
  have S := sc_is_numbers
  exact (dss_cons (ds_if (DW.dt (dw_or (dt_not (dt_val (de_isi isi_list rfl T.n_isinstance rfl T.n_list PyProof.Rows.boot_list (oe_var (pv 0)) rfl))) (dw_or1 (dt_not (dt_chain op_leG op_leG (oe_of de_int) (oe_of (de_cb (cr_len rfl) rfl T.n_len PySem.boot_len (ae_cons (oe_var (pv 0)) ae_nil))) (oe_of (de_bin (op_addD rfl) (oe_of (de_gint rfl T.v_MOST_SYMBOL.choose_spec)) (oe_of de_int)))))))) (dss_one (ds_ret de_bl)) dss_nil)
      (dss_cons (ds_if (dt_not (dt_val (de_cb (cr_allG rfl rfl) rfl T.n_all PyProof.Rows.boot_all (ae_cons (oe_of (de_lc rfl S.nd (ie_list (de_var (pv 0)) rfl) (own := [("one", 1)]) (show BlkOk N_is_numbers (defScope st_is_numbers) _ _ from blkOk_by (by decide +kernel)) (by decide) (fun _ => (ge_name S.nd rfl (by first | exact .inl rfl | exact .inr rfl) (by decide))) (fun _ => dts_nil) (fun _ => (dc C_is_pair hr (by decide) takes0 rfl (ae_cons (oe_of (de_var (pv 1))) ae_nil))))) ae_nil)))) (dss_one (ds_ret de_bl)) dss_nil)
      (dss_one (ds_ret (de_cb (cr_allG rfl rfl) rfl T.n_all PyProof.Rows.boot_all (ae_cons (oe_of (de_lc rfl S.nd (ie_rng1 rfl T.n_range (ae_cons (oe_of (de_bin op_subD (oe_of (de_cb (cr_len rfl) rfl T.n_len PySem.boot_len (ae_cons (oe_var (pv 0)) ae_nil))) (oe_of de_int))) ae_nil)) (own := [("at", 2)]) (show BlkOk N_is_numbers (defScope st_is_numbers) _ _ from blkOk_by (by decide +kernel)) (by decide) (fun _ => (ge_name S.nd rfl (by first | exact .inl rfl | exact .inr rfl) (by decide))) (fun _ => dts_nil) (fun _ => (de_cmp op_ltG (oe_of (de_ix (hu1 hr) (oe_of (de_ix (hu1 hr) (oe_var (pv 0)) (oe_var (pv 2)) (fun _ _ => rfl) rfl)) (oe_of de_int) (fun _ _ => rfl) rfl)) (oe_of (de_ix (hu1 hr) (oe_of (de_ix (hu1 hr) (oe_var (pv 0)) (oe_of (de_bin (op_addD rfl) (oe_var (pv 2)) (oe_of de_int))) (fun _ _ => rfl) rfl)) (oe_of de_int) (fun _ _ => rfl) rfl)) (nomark _))))) ae_nil))))))
abbrev st_check_asked : Stmt := top 20
noncomputable def B_check_asked : M Fl := sSeq (sIf (fNot (boolR (fCall [] F_is_numbers 1 (consA (shareO (takeS 0)) (nilA))))) (badM) (sNext)) (sSeq (sIf (fNot (boolR (fCall [] F_is_between 3 (consA (shareO (takeS 1)) (consA (shareO (cst (.int 1))) (consA (shareO (cst (.int 12))) (nilA))))))) (badM) (sNext)) (sIf (boolR (fBin gtD (shareO (fB lenD (consA (nameO 0) (nilA)))) (shareO (fBin shlD (shareO (cst (.int 1))) (nameO 1))))) (badM) (sNext)))
noncomputable def F_check_asked : M R := bodyF [] 2 2 B_check_asked
abbrev N_check_asked : List Str := ["numbers", "bits"]
theorem sc_check_asked : FnScope ["numbers", "bits"] ["numbers", "bits"] (defScope st_check_asked) := ⟨rfl, rfl, rfl, by decide +kernel, rfl, by decide +kernel, by decide +kernel⟩
theorem ok_check_asked {P : Program} {w : World} {K : PySem.W.Frag} {mg : Str → Option Value} {base : Heap} {cls : Str → Addr} {f : Addr} {fd : FuncData} (T : Txt K mg) (C_is_between : CalX P w K mg base ⟨K, cls⟩ 2 "is_between" [] 3 F_is_between (B0 K)) (C_is_numbers : CalX P w K mg base ⟨K, cls⟩ 5 "is_numbers" [] 1 F_is_numbers (B0 K)) (Fn : Fun K "check_asked" "check_asked" st_check_asked f fd) (hm : mg "check_asked" = some (.ref f)) : CalX P w K mg base ⟨K, cls⟩ 6 "check_asked" [] 2 F_check_asked (B0 K) := by
  refine cal_mk Fn hm sc_check_asked rfl (by decide) (fun _ _ _ _ _ _ us h => match us, h with | [_, _], _ => rfl) fun cdv A outer s H E hr => ?_
  have TK := takes_of (X := cxOf (L2.CX P w) P w K mg base ["numbers", "bits"] "check_asked" (defScope st_check_asked) f cdv A outer s H E) (E := E) rfl rfl rfl rfl
  have S := sc_check_asked
  exact (dss_cons (ds_if (dt_not (dt_val (dc C_is_numbers hr (by decide) TK rfl (ae_cons (oe_of (de_var (pv 0))) ae_nil)))) (dss_one ds_nev) dss_nil)
      (dss_cons (ds_if (dt_not (dt_val (dc C_is_between hr (by decide) TK rfl (ae_cons (oe_of (de_var (pv 1))) (ae_cons (oe_of de_int) (ae_cons (oe_of (de_gint rfl T.v_MOST_BITS.choose_spec)) ae_nil)))))) (dss_one ds_nev) dss_nil)
      (dss_one (ds_if (dt_cmp op_gtG (oe_of (de_cb (cr_len rfl) rfl T.n_len PySem.boot_len (ae_cons (oe_var (pv 0)) ae_nil))) (oe_of (de_bin op_shlD (oe_of de_int) (oe_var (pv 1)))) (nomark _)) (dss_one ds_nev) dss_nil))))
abbrev st_by_rests : Stmt := top 22
noncomputable def B_by_rests : M Fl := sSeq (sDrop (fCall [] F_check_asked 2 (consA (shareO (takeS 0)) (consA (shareO (takeS 1)) (nilA))))) (sRet (fCall [] F_shared 2 (consA (shareO (takeS 0)) (consA (shareO (fBin shlD (shareO (cst (.int 1))) (nameO 1))) (nilA)))))
noncomputable def F_by_rests : M R := bodyF [] 2 2 B_by_rests
abbrev N_by_rests : List Str := ["numbers", "bits"]
theorem sc_by_rests : FnScope ["numbers", "bits"] ["numbers", "bits"] (defScope st_by_rests) := ⟨rfl, rfl, rfl, by decide +kernel, rfl, by decide +kernel, by decide +kernel⟩
theorem ok_by_rests {P : Program} {w : World} {K : PySem.W.Frag} {mg : Str → Option Value} {base : Heap} {cls : Str → Addr} {f : Addr} {fd : FuncData} (T : Txt K mg) (C_check_asked : CalX P w K mg base ⟨K, cls⟩ 6 "check_asked" [] 2 F_check_asked (B0 K)) (C_shared : CalX P w K mg base ⟨K, cls⟩ 2 "shared" [] 2 F_shared (B0 K)) (Fn : Fun K "by_rests" "by_rests" st_by_rests f fd) (hm : mg "by_rests" = some (.ref f)) : CalX P w K mg base ⟨K, cls⟩ 7 "by_rests" [] 2 F_by_rests (B0 K) := by
  refine cal_mk Fn hm sc_by_rests rfl (by decide) (fun _ _ _ _ _ _ us h => match us, h with | [_, _], _ => rfl) fun cdv A outer s H E hr => ?_
  have TK := takes_of (X := cxOf (L2.CX P w) P w K mg base ["numbers", "bits"] "by_rests" (defScope st_by_rests) f cdv A outer s H E) (E := E) rfl rfl rfl rfl
  have S := sc_by_rests
  exact (dss_cons (ds_expr (dc C_check_asked hr (by decide) TK rfl (ae_cons (oe_of (de_var (pv 0))) (ae_cons (oe_of (de_var (pv 1))) ae_nil))))
      (dss_one (ds_ret (dc C_shared hr (by decide) TK rfl (ae_cons (oe_of (de_var (pv 0))) (ae_cons (oe_of (de_bin op_shlD (oe_of de_int) (oe_var (pv 1)))) ae_nil))))))
abbrev st__law_counts : Stmt := top 39
noncomputable def B__law_counts : M Fl := sSeq (sSet 5 (fIf (boolR (fBin isND (nameO 4) (shareO (cst .non)))) (cst (.int 0)) (fB maxD (consA (shareO (cst (.int 0))) (consA (shareO (fBin subD (nameO 1) (nameO 4))) (nilA)))))) (sSeq (sSet 6 (fLc (fRng1 (consA (shareO (takeS 2)) (nilA))) [7] (tName 7) (M.pure true) (fDisp .tup (consA (shareO (takeS 7)) (consA (shareO (fBin addD (shareO (cst (.int 1))) (shareO (fMeth "list" countD (shareO (fSlice (nameO 0) (partI (takeS 5)) (partI (takeS 1)))) (consA (nameO 7) (nilA)))))) (nilA)))))) (sRet (fCall [] F_by_rests 2 (consA (shareO (takeS 6)) (consA (shareO (takeS 3)) (nilA))))))
noncomputable def F__law_counts : M R := bodyF [] 5 8 B__law_counts
abbrev N__law_counts : List Str := ["_law_line_so", "_law_begin", "_law_amount", "_law_wide_so", "_law_far", "_law_low", "_law_pairs", "_law_symbol"]
theorem sc__law_counts : FnScope ["_law_line_so", "_law_begin", "_law_amount", "_law_wide_so", "_law_far", "_law_low", "_law_pairs", "_law_symbol"] ["_law_line_so", "_law_begin", "_law_amount", "_law_wide_so", "_law_far"] (defScope st__law_counts) := ⟨rfl, rfl, rfl, by decide +kernel, rfl, by decide +kernel, by decide +kernel⟩
theorem ok__law_counts {P : Program} {w : World} {K : PySem.W.Frag} {mg : Str → Option Value} {base : Heap} {cls : Str → Addr} {f : Addr} {fd : FuncData} (T : Txt K mg) (C_by_rests : CalX P w K mg base ⟨K, cls⟩ 7 "by_rests" [] 2 F_by_rests (B0 K)) (Fn : Fun K "_law_counts" "_law_counts" st__law_counts f fd) (hm : mg "_law_counts" = some (.ref f)) : CalX P w K mg base ⟨K, cls⟩ 8 "_law_counts" [] 5 F__law_counts (B0 K) := by
  refine cal_mk Fn hm sc__law_counts rfl (by decide) (fun _ _ _ _ _ _ us h => match us, h with | [_, _, _, _, _], _ => rfl) fun cdv A outer s H E hr => ?_
  have TK := takes_of (X := cxOf (L2.CX P w) P w K mg base ["_law_line_so", "_law_begin", "_law_amount", "_law_wide_so", "_law_far", "_law_low", "_law_pairs", "_law_symbol"] "_law_counts" (defScope st__law_counts) f cdv A outer s H E) (E := E) rfl rfl rfl rfl
  have S := sc__law_counts
  exact (dss_cons (ds_set S.nd (i := 5) rfl (by first | exact .inl rfl | exact .inr rfl) (by decide) (de_if (dt_cmp op_isG (oe_var (pv 4)) (oe_of de_non) (nomark _)) de_int (de_cb (cr_maxG rfl rfl) rfl T.n_max PyProof.Rows.boot_max (ae_cons (oe_of de_int) (ae_cons (oe_of (de_bin op_subD (oe_var (pv 1)) (oe_var (pv 4)))) ae_nil)))))
      (dss_cons (ds_setLc rfl S.nd (i := 6) rfl rfl (by decide) rfl (ie_rng1 rfl T.n_range (ae_cons (oe_of (de_var (pv 2))) ae_nil)) (own := [("_law_symbol", 7)]) (show BlkOk N__law_counts (defScope st__law_counts) _ _ from blkOk_by (by decide +kernel)) (by decide) (fun _ => (ge_name S.nd rfl (by first | exact .inl rfl | exact .inr rfl) (by decide))) (fun _ => dts_nil) (fun _ => (de_tup (ae_cons (oe_of (de_var (pv 7))) (ae_cons (oe_of (de_bin (op_addD rfl) (oe_of de_int) (oe_of (de_lm PySem.F.slot_list_count PySem.F.type_list_count (mt_countG rfl) (oe_of (de_slice (oe_var (pv 0)) (dp_some (de_var (pv 5))) (dp_some (de_var (pv 1))) rfl)) (ae_cons (oe_var (pv 7)) ae_nil) rfl)))) ae_nil)))))
      (dss_one (ds_ret (dc C_by_rests hr (by decide) TK rfl (ae_cons (oe_of (de_var (pv 6))) (ae_cons (oe_of (de_var (pv 3))) ae_nil)))))))
abbrev st__law_right : Stmt := top 40
noncomputable def B__law_right : M Fl := sSeq (sPar 5 6 (fDisp .lst (nilA)) (fB listD1 (consA (nameO 0) (nilA)))) (sSeq (sFor (fRng1 (consA (shareO (fB lenD (consA (nameO 0) (nilA)))) (nilA))) (tName 7) (sIf (boolR (fBin eqD (shareO (fBin modD (shareO (fB intD1 (consA (nameO 7) (nilA)))) (nameO 2))) (shareO (cst (.int 0))))) (sDrop (fMut "list" appD 5 (consA (shareO (fCall [] F__law_counts 5 (consA (shareO (takeS 0)) (consA (shareO (takeS 7)) (consA (shareO (takeS 1)) (consA (shareO (takeS 3)) (consA (shareO (takeS 4)) (nilA)))))))) (nilA)))) (sNext))) (sSeq (sSet 8 (fCallK [] F_adaptive_counts 5 0 [(0, 0), (0, 1), (0, 2), (0, 3), (0, 4)] [.non] (consA (shareO (takeS 0)) (consA (shareO (takeS 1)) (consA (shareO (takeS 2)) (consA (shareO (takeS 3)) (consA (shareO (takeS 4)) (nilA)))))) (nilA))) (sSeq (sIf (fOr (boolR (fBin neD (nameO 8) (nameO 5))) (boolR (fBin neD (nameO 0) (nameO 6)))) (sRet (cst (.bl false))) (sNext)) (sSeq (sIf (fAnd (boolR (fBin isND (nameO 4) (shareO (cst .non)))) (boolR (fBin neD (shareO (fCallK [] F_adaptive_counts 4 0 [(0, 0), (0, 1), (0, 2), (0, 3), (1, 0)] [.non] (consA (shareO (takeS 0)) (consA (shareO (takeS 1)) (consA (shareO (takeS 2)) (consA (shareO (takeS 3)) (nilA))))) (nilA))) (nameO 5)))) (sRet (cst (.bl false))) (sNext)) (sSeq (sDrop (fMut "list" appD 8 (consA (shareO (cst .non)) (nilA)))) (sSeq (sIf (boolR (fBin neD (shareO (fCallK [] F_adaptive_counts 0 5 [(2, 4), (2, 3), (2, 2), (2, 1), (2, 0)] [.non] (nilA) (consA (shareO (takeS 4)) (consA (shareO (takeS 3)) (consA (shareO (takeS 2)) (consA (shareO (takeS 1)) (consA (shareO (takeS 0)) (nilA)))))))) (nameO 5))) (sRet (cst (.bl false))) (sNext)) (sSeq (sScrap 0 9 10 11 (fCallK [] F_adaptive_counts 5 0 [(0, 0), (0, 1), (0, 2), (0, 3), (0, 4)] [.non] (consA (shareO (takeS 0)) (consA (shareO (takeS 1)) (consA (shareO (takeS 2)) (consA (shareO (takeS 3)) (consA (shareO (cst (.int 0))) (nilA)))))) (nilA)) (sIf (boolR (fBin neD (nameO 9) (shareO (fBin mulD (shareO (fSlice (nameO 5) (M.pure none) (partI (cst (.int 1))))) (shareO (fB lenD (consA (nameO 5) (nilA)))))))) (sRet (cst (.bl false))) (sNext))) (sSeq (sIf (boolR (fBin neD (shareO (fCallK [] F_adaptive_counts 5 0 [(0, 0), (0, 1), (0, 2), (0, 3), (0, 4)] [.non] (consA (shareO (takeS 0)) (consA (shareO (takeS 1)) (consA (shareO (takeS 2)) (consA (shareO (takeS 3)) (consA (shareO (cst (.int 0))) (nilA)))))) (nilA))) (shareO (fBin mulD (shareO (fSlice (nameO 5) (M.pure none) (partI (cst (.int 1))))) (shareO (fB lenD (consA (nameO 5) (nilA)))))))) (sRet (cst (.bl false))) (sNext)) (sRet (fBin eqD (shareO (fCallK [] F_adaptive_counts 5 0 [(0, 0), (0, 1), (0, 2), (0, 3), (0, 4)] [.non] (consA (shareO (takeS 0)) (consA (shareO (takeS 1)) (consA (shareO (fBin addD (shareO (fB lenD (consA (nameO 0) (nilA)))) (shareO (cst (.int 1))))) (consA (shareO (takeS 3)) (consA (shareO (takeS 4)) (nilA)))))) (nilA))) (shareO (fSlice (nameO 5) (M.pure none) (partI (cst (.int 1)))))))))))))))
noncomputable def F__law_right : M R := bodyF [] 5 11 B__law_right
abbrev N__law_right : List Str := ["_law_line_so", "_law_amount", "_law_piece_so", "_law_wide_so", "_law_far", "_law_due", "_law_kept", "_law_k", "_law_found", "_law_bare", "_law_row"]
theorem sc__law_right : FnScope ["_law_line_so", "_law_amount", "_law_piece_so", "_law_wide_so", "_law_far", "_law_due", "_law_kept", "_law_k", "_law_found", "_law_bare", "_law_row"] ["_law_line_so", "_law_amount", "_law_piece_so", "_law_wide_so", "_law_far"] (defScope st__law_right) := ⟨rfl, rfl, rfl, by decide +kernel, rfl, by decide +kernel, by decide +kernel⟩
theorem ok__law_right {P : Program} {w : World} {K : PySem.W.Frag} {mg : Str → Option Value} {base : Heap} {cls : Str → Addr} {f : Addr} {fd : FuncData} (T : Txt K mg) (C__law_counts : CalX P w K mg base ⟨K, cls⟩ 8 "_law_counts" [] 5 F__law_counts (B0 K)) (C_adaptive_counts : CalX P w K mg base ⟨K, cls⟩ 6 "adaptive_counts" [] 5 F_adaptive_counts (Bd_adaptive_counts K)) (Fn : Fun K "_law_right" "_law_right" st__law_right f fd) (hm : mg "_law_right" = some (.ref f)) : CalX P w K mg base ⟨K, cls⟩ 9 "_law_right" [] 5 F__law_right (B0 K) := by
  refine cal_mk Fn hm sc__law_right rfl (by decide) (fun _ _ _ _ _ _ us h => match us, h with | [_, _, _, _, _], _ => rfl) fun cdv A outer s H E hr => ?_
  have TK := takes_of (X := cxOf (L2.CX P w) P w K mg base ["_law_line_so", "_law_amount", "_law_piece_so", "_law_wide_so", "_law_far", "_law_due", "_law_kept", "_law_k", "_law_found", "_law_bare", "_law_row"] "_law_right" (defScope st__law_right) f cdv A outer s H E) (E := E) rfl rfl rfl rfl
  have S := sc__law_right
  exact (dss_cons (ds_par (i := 5) (j := 6) rfl S.nd rfl rfl (by decide) rfl rfl (by decide) (by decide) (de_lst ae_nil) (de_ct (cr_listG rfl) rfl T.n_list PyProof.Rows.boot_list (ae_cons (oe_var (pv 0)) ae_nil)) rfl)
      (dss_cons (ds_for (passes_of rfl) rfl (ie_rng1 rfl T.n_range (ae_cons (oe_of (de_cb (cr_len rfl) rfl T.n_len PySem.boot_len (ae_cons (oe_var (pv 0)) ae_nil))) ae_nil)) (ge_name S.nd rfl (by first | exact .inl rfl | exact .inr rfl) (by decide)) (dss_one (ds_if (dt_cmp (op_eqG (hu64 hr) rfl) (oe_of (de_bin op_modD (oe_of (de_ct cr_int rfl T.n_int PyProof.Rows.boot_int (ae_cons (oe_var (pv 7)) ae_nil))) (oe_var (pv 2)))) (oe_of de_int) (nomark _)) (dss_one (ds_expr (de_lmut PySem.F.slot_list_append PySem.F.type_list_append mt_app (pv 5) (ae_cons (oe_of (dc C__law_counts hr (by decide) TK rfl (ae_cons (oe_of (de_var (pv 0))) (ae_cons (oe_of (de_var (pv 7))) (ae_cons (oe_of (de_var (pv 1))) (ae_cons (oe_of (de_var (pv 3))) (ae_cons (oe_of (de_var (pv 4))) ae_nil))))))) ae_nil) rfl))) dss_nil)))
      (dss_cons (ds_set S.nd (i := 8) rfl (by first | exact .inl rfl | exact .inr rfl) (by decide) (dcD C_adaptive_counts hr (by decide) TK rfl (fun _ _ h => h.p0) (ae_cons (oe_of (de_var (pv 0))) (ae_cons (oe_of (de_var (pv 1))) (ae_cons (oe_of (de_var (pv 2))) (ae_cons (oe_of (de_var (pv 3))) (ae_cons (oe_of (de_var (pv 4))) ae_nil))))) (fun _ => dd_adaptive_counts)))
      (dss_cons (ds_if (DW.dt (dw_or (dt_cmp (op_neG (hu64 hr) rfl) (oe_var (pv 8)) (oe_var (pv 5)) (nomark _)) (dw_or1 (dt_cmp (op_neG (hu64 hr) rfl) (oe_var (pv 0)) (oe_var (pv 6)) (nomark _))))) (dss_one (ds_ret de_bl)) dss_nil)
      (dss_cons (ds_if (DW.dt (dw_and (dt_cmp op_isG (oe_var (pv 4)) (oe_of de_non) (nomark _)) (dw_and1 (dt_cmp (op_neG (hu64 hr) rfl) (oe_of (dcD C_adaptive_counts hr (by decide) TK rfl (fun _ _ h => h.p1) (ae_cons (oe_of (de_var (pv 0))) (ae_cons (oe_of (de_var (pv 1))) (ae_cons (oe_of (de_var (pv 2))) (ae_cons (oe_of (de_var (pv 3))) ae_nil)))) (fun _ => dd_adaptive_counts))) (oe_var (pv 5)) (nomark _))))) (dss_one (ds_ret de_bl)) dss_nil)
      (dss_cons (ds_expr (de_lmut PySem.F.slot_list_append PySem.F.type_list_append mt_app (pv 8) (ae_cons (oe_of de_non) ae_nil) rfl))
      (dss_cons (ds_if (dt_cmp (op_neG (hu64 hr) rfl) (oe_of (dcK0 (x := "adaptive_counts") (ks := ["window", "bits", "block", "size", "text"]) C_adaptive_counts hr (by decide) TK rfl (fun _ _ h => h.p2) (ke_cons (oe_of (de_var (pv 4))) (ke_cons (oe_of (de_var (pv 3))) (ke_cons (oe_of (de_var (pv 2))) (ke_cons (oe_of (de_var (pv 1))) (ke_cons (oe_of (de_var (pv 0))) ke_nil))))) (fun _ => dd_adaptive_counts))) (oe_var (pv 5)) (nomark _)) (dss_one (ds_ret de_bl)) dss_nil)
      (dss_scrap (i := 9) (j := 10) (l := 0) (nB := 11) S.nd rfl (by first | exact .inl rfl | exact .inr rfl) (by decide) (by decide) (dcD C_adaptive_counts hr (by decide) TK rfl (fun _ _ h => h.p0) (ae_cons (oe_of (de_var (pv 0))) (ae_cons (oe_of (de_var (pv 1))) (ae_cons (oe_of (de_var (pv 2))) (ae_cons (oe_of (de_var (pv 3))) (ae_cons (oe_of de_int) ae_nil))))) (fun _ => dd_adaptive_counts)) (ds_if (dt_cmp (op_neG (hu64 hr) rfl) (oe_var (pv 9)) (oe_of (de_bin (op_mulD rfl) (oe_of (de_slice (oe_var (pv 5)) dp_none (dp_some de_int) rfl)) (oe_of (de_cb (cr_len rfl) rfl T.n_len PySem.boot_len (ae_cons (oe_var (pv 5)) ae_nil))))) (nomark _)) (dss_one (ds_ret de_bl)) dss_nil)
      (ps_clr1 (passes_of rfl) rfl S.nd (by decide) rfl (by first | exact .inl rfl | exact .inr rfl) (pv 9) (pv 10))
      (dss_cons (ds_if (dt_cmp (op_neG (hu64 hr) rfl) (oe_of (dcD C_adaptive_counts hr (by decide) TK rfl (fun _ _ h => h.p0) (ae_cons (oe_of (de_var (pv 0))) (ae_cons (oe_of (de_var (pv 1))) (ae_cons (oe_of (de_var (pv 2))) (ae_cons (oe_of (de_var (pv 3))) (ae_cons (oe_of de_int) ae_nil))))) (fun _ => dd_adaptive_counts))) (oe_of (de_bin (op_mulD rfl) (oe_of (de_slice (oe_var (pv 5)) dp_none (dp_some de_int) rfl)) (oe_of (de_cb (cr_len rfl) rfl T.n_len PySem.boot_len (ae_cons (oe_var (pv 5)) ae_nil))))) (nomark _)) (dss_one (ds_ret de_bl)) dss_nil)
      (dss_one (ds_ret (de_cmp (op_eqG (hu64 hr) rfl) (oe_of (dcD C_adaptive_counts hr (by decide) TK rfl (fun _ _ h => h.p0) (ae_cons (oe_of (de_var (pv 0))) (ae_cons (oe_of (de_var (pv 1))) (ae_cons (oe_of (de_bin (op_addD rfl) (oe_of (de_cb (cr_len rfl) rfl T.n_len PySem.boot_len (ae_cons (oe_var (pv 0)) ae_nil))) (oe_of de_int))) (ae_cons (oe_of (de_var (pv 3))) (ae_cons (oe_of (de_var (pv 4))) ae_nil))))) (fun _ => dd_adaptive_counts))) (oe_of (de_slice (oe_var (pv 5)) dp_none (dp_some de_int) rfl)) (nomark _)))))))))))))
abbrev st__law_long_right : Stmt := top 41
noncomputable def B__law_long_right : M Fl := sSeq (sSet 1 (fCall [0] F__law_any 2 (consA (nameO 0) (consA (shareO (fDisp .lst (consA (shareO (takeS 1)) (consA (shareO (fBin addD (shareO (cst (.int 20))) (shareO (fCall [0] F__law_take 2 (consA (nameO 0) (consA (shareO (cst (.int 237))) (nilA))))))) (nilA))))) (nilA))))) (sSeq (sSet 2 (fBin addD (shareO (fLc (fRng1 (consA (shareO (fBin addD (shareO (cst (.int 1))) (shareO (fCall [0] F__law_take 2 (consA (nameO 0) (consA (shareO (cst (.int 20))) (nilA))))))) (nilA))) [3] (tName 3) (M.pure true) (fCall [0] F__law_take 2 (consA (nameO 0) (consA (shareO (takeS 1)) (nilA)))))) (shareO (fBin mulD (shareO (fDisp .lst (consA (shareO (cst (.int 0))) (nilA)))) (shareO (fCall [0] F__law_take 2 (consA (nameO 0) (consA (shareO (cst (.int 20))) (nilA))))))))) (sSeq (sPar 4 5 (fBin addD (shareO (cst (.int 9))) (shareO (fCall [0] F__law_take 2 (consA (nameO 0) (consA (shareO (cst (.int 4))) (nilA)))))) (fBin addD (shareO (cst (.int 300))) (shareO (fCall [0] F__law_take 2 (consA (nameO 0) (consA (shareO (cst (.int 1700))) (nilA))))))) (sSeq (sSet 6 (fSlice (shareO (fBin mulD (nameO 2) (shareO (fBin addD (shareO (cst (.int 1))) (shareO (fBin fdivD (shareO (cst (.int 2000))) (shareO (fB lenD (consA (nameO 2) (nilA)))))))))) (M.pure none) (partI (takeS 5)))) (sSeq (sSet 7 (fCall [0] F__law_any 2 (consA (nameO 0) (consA (shareO (fDisp .lst (consA (shareO (fBin fdivD (nameO 5) (shareO (cst (.int 2))))) (consA (shareO (fBin addD (shareO (fBin fdivD (nameO 5) (shareO (cst (.int 2))))) (shareO (cst (.int 1))))) (consA (shareO (fBin addD (shareO (fBin fdivD (nameO 5) (shareO (cst (.int 3))))) (shareO (cst (.int 1))))) (consA (shareO (fBin subD (nameO 5) (shareO (cst (.int 1))))) (nilA))))))) (nilA))))) (sRet (fCall [] F__law_right 5 (consA (shareO (takeS 6)) (consA (shareO (takeS 1)) (consA (shareO (takeS 7)) (consA (shareO (takeS 4)) (consA (shareO (fCall [0] F__law_any 2 (consA (nameO 0) (consA (shareO (fDisp .lst (consA (shareO (cst .non)) (consA (shareO (cst .non)) (consA (shareO (cst (.int 256))) (consA (shareO (fCall [0] F__law_take 2 (consA (nameO 0) (consA (shareO (takeS 5)) (nilA))))) (nilA))))))) (nilA))))) (nilA))))))))))))
noncomputable def F__law_long_right : M R := bodyF [0] 2 8 B__law_long_right
abbrev N__law_long_right : List Str := ["_law_store_here", "_law_amount", "_law_some", "_law_k", "_law_wide_so", "_law_whole", "_law_line_so", "_law_piece_so"]
theorem sc__law_long_right : FnScope ["_law_store_here", "_law_amount", "_law_some", "_law_k", "_law_wide_so", "_law_whole", "_law_line_so", "_law_piece_so"] ["_law_store_here", "_law_amount"] (defScope st__law_long_right) := ⟨rfl, rfl, rfl, by decide +kernel, rfl, by decide +kernel, by decide +kernel⟩
theorem ok__law_long_right {P : Program} {w : World} {K : PySem.W.Frag} {mg : Str → Option Value} {base : Heap} {cls : Str → Addr} {f : Addr} {fd : FuncData} (T : Txt K mg) (C__law_any : CalX P w K mg base ⟨K, cls⟩ 2 "_law_any" [0] 2 F__law_any (B0 K)) (C__law_right : CalX P w K mg base ⟨K, cls⟩ 9 "_law_right" [] 5 F__law_right (B0 K)) (C__law_take : CalX P w K mg base ⟨K, cls⟩ 1 "_law_take" [0] 2 F__law_take (B0 K)) (Fn : Fun K "_law_long_right" "_law_long_right" st__law_long_right f fd) (hm : mg "_law_long_right" = some (.ref f)) : CalX P w K mg base ⟨K, cls⟩ 10 "_law_long_right" [0] 2 F__law_long_right (B0 K) := by
  refine cal_mk Fn hm sc__law_long_right rfl (by decide) (fun _ _ _ _ _ _ us h => match us, h with | [_, _], _ => rfl) fun cdv A outer s H E hr => ?_
  have TK := takes_of (X := cxOf (L2.CX P w) P w K mg base ["_law_store_here", "_law_amount", "_law_some", "_law_k", "_law_wide_so", "_law_whole", "_law_line_so", "_law_piece_so"] "_law_long_right" (defScope st__law_long_right) f cdv A outer s H E) (E := E) rfl rfl rfl rfl
  have S := sc__law_long_right
  exact (dss_cons (ds_set S.nd (i := 1) rfl (by first | exact .inl rfl | exact .inr rfl) (by decide) (dc C__law_any hr (by decide) TK rfl (ae_cons (oe_var (pv 0)) (ae_cons (oe_of (de_lst (ae_cons (oe_of (de_var (pv 1))) (ae_cons (oe_of (de_bin (op_addD rfl) (oe_of de_int) (oe_of (dc C__law_take hr (by decide) TK rfl (ae_cons (oe_var (pv 0)) (ae_cons (oe_of de_int) ae_nil)))))) ae_nil)))) ae_nil))))
      (dss_cons (ds_set S.nd (i := 2) rfl (by first | exact .inl rfl | exact .inr rfl) (by decide) (de_bin (op_addD rfl) (oe_of (de_lc rfl S.nd (ie_rng1 rfl T.n_range (ae_cons (oe_of (de_bin (op_addD rfl) (oe_of de_int) (oe_of (dc C__law_take hr (by decide) TK rfl (ae_cons (oe_var (pv 0)) (ae_cons (oe_of de_int) ae_nil)))))) ae_nil)) (own := [("_law_k", 3)]) (show BlkOk N__law_long_right (defScope st__law_long_right) _ _ from blkOk_by (by decide +kernel)) (by decide) (fun _ => (ge_name S.nd rfl (by first | exact .inl rfl | exact .inr rfl) (by decide))) (fun _ => dts_nil) (fun _ => (dc C__law_take hr (by decide) takes0 rfl (ae_cons (oe_var (pv 0)) (ae_cons (oe_of (de_var (pv 1))) ae_nil)))))) (oe_of (de_bin (op_mulD rfl) (oe_of (de_lst (ae_cons (oe_of de_int) ae_nil))) (oe_of (dc C__law_take hr (by decide) TK rfl (ae_cons (oe_var (pv 0)) (ae_cons (oe_of de_int) ae_nil))))))))
      (dss_cons (ds_par (i := 4) (j := 5) rfl S.nd rfl rfl (by decide) rfl rfl (by decide) (by decide) (de_bin (op_addD rfl) (oe_of de_int) (oe_of (dc C__law_take hr (by decide) TK rfl (ae_cons (oe_var (pv 0)) (ae_cons (oe_of de_int) ae_nil))))) (de_bin (op_addD rfl) (oe_of de_int) (oe_of (dc C__law_take hr (by decide) TK rfl (ae_cons (oe_var (pv 0)) (ae_cons (oe_of de_int) ae_nil))))) rfl)
      (dss_cons (ds_set S.nd (i := 6) rfl (by first | exact .inl rfl | exact .inr rfl) (by decide) (de_slice (oe_of (de_bin (op_mulD rfl) (oe_var (pv 2)) (oe_of (de_bin (op_addD rfl) (oe_of de_int) (oe_of (de_bin op_fdivD (oe_of de_int) (oe_of (de_cb (cr_len rfl) rfl T.n_len PySem.boot_len (ae_cons (oe_var (pv 2)) ae_nil))))))))) dp_none (dp_some (de_var (pv 5))) rfl))
      (dss_cons (ds_set S.nd (i := 7) rfl (by first | exact .inl rfl | exact .inr rfl) (by decide) (dc C__law_any hr (by decide) TK rfl (ae_cons (oe_var (pv 0)) (ae_cons (oe_of (de_lst (ae_cons (oe_of (de_bin op_fdivD (oe_var (pv 5)) (oe_of de_int))) (ae_cons (oe_of (de_bin (op_addD rfl) (oe_of (de_bin op_fdivD (oe_var (pv 5)) (oe_of de_int))) (oe_of de_int))) (ae_cons (oe_of (de_bin (op_addD rfl) (oe_of (de_bin op_fdivD (oe_var (pv 5)) (oe_of de_int))) (oe_of de_int))) (ae_cons (oe_of (de_bin op_subD (oe_var (pv 5)) (oe_of de_int))) ae_nil)))))) ae_nil))))
      (dss_one (ds_ret (dc C__law_right hr (by decide) TK rfl (ae_cons (oe_of (de_var (pv 6))) (ae_cons (oe_of (de_var (pv 1))) (ae_cons (oe_of (de_var (pv 7))) (ae_cons (oe_of (de_var (pv 4))) (ae_cons (oe_of (dc C__law_any hr (by decide) TK rfl (ae_cons (oe_var (pv 0)) (ae_cons (oe_of (de_lst (ae_cons (oe_of de_non) (ae_cons (oe_of de_non) (ae_cons (oe_of de_int) (ae_cons (oe_of (dc C__law_take hr (by decide) TK rfl (ae_cons (oe_var (pv 0)) (ae_cons (oe_of (de_var (pv 5))) ae_nil)))) ae_nil)))))) ae_nil)))) ae_nil)))))))))))))
abbrev st_law : Stmt := top 42
noncomputable def B_law : M Fl := sSeq (sFor (fIter listD (fBin addD (shareO (fSlice (nameO 0) (M.pure none) (partI (cst (.int 4))))) (shareO (fDisp .lst (consA (shareO (cst (.int 0))) (nilA)))))) (tName 1) (sSeq (sSet 2 (fCall [] F__law_store 1 (consA (shareO (takeS 1)) (nilA)))) (sSeq (sSet 3 (fBin addD (shareO (cst (.int 2))) (shareO (fCall [0] F__law_take 2 (consA (nameO 2) (consA (shareO (cst (.int 8))) (nilA))))))) (sSeq (sSet 4 (fCall [0] F__law_any 2 (consA (nameO 2) (consA (shareO (fDisp .lst (consA (shareO (fListR1 (takeS 3))) (consA (shareO (fBin addD (shareO (fBin mulD (shareO (fDisp .lst (consA (shareO (cst (.int 0))) (nilA)))) (shareO (cst (.int 5))))) (shareO (fListR1 (takeS 3))))) (consA (shareO (fDisp .lst (consA (shareO (fBin subD (nameO 3) (shareO (cst (.int 1))))) (nilA)))) (nilA)))))) (nilA))))) (sSeq (sSet 5 (fLc (fRng1 (consA (shareO (fCall [0] F__law_take 2 (consA (nameO 2) (consA (shareO (fCall [0] F__law_any 2 (consA (nameO 2) (consA (shareO (fDisp .lst (consA (shareO (cst (.int 5))) (consA (shareO (cst (.int 61))) (nilA))))) (nilA))))) (nilA))))) (nilA))) [6] (tName 6) (M.pure true) (fCall [0] F__law_any 2 (consA (nameO 2) (consA (shareO (takeS 4)) (nilA)))))) (sSeq (sSet 7 (fBin addD (shareO (cst (.int 4))) (shareO (fCall [0] F__law_take 2 (consA (nameO 2) (consA (shareO (cst (.int 5))) (nilA))))))) (sSeq (sFor (fIter listD (fBin addD (shareO (fListR2 (cst (.int 1)) (cst (.int 14)))) (shareO (fDisp .lst (consA (shareO (fBin addD (shareO (cst (.int 14))) (shareO (fCall [0] F__law_take 2 (consA (nameO 2) (consA (shareO (cst (.int 60))) (nilA))))))) (nilA)))))) (tName 8) (sSeq (sSet 9 (fCall [0] F__law_any 2 (consA (nameO 2) (consA (shareO (fDisp .lst (consA (shareO (cst .non)) (consA (shareO (cst .non)) (consA (shareO (fCall [0] F__law_take 2 (consA (nameO 2) (consA (shareO (cst (.int 9))) (nilA))))) (consA (shareO (fCall [0] F__law_take 2 (consA (nameO 2) (consA (shareO (cst (.int 60))) (nilA))))) (nilA))))))) (nilA))))) (sIf (fNot (boolR (fCall [] F__law_right 5 (consA (shareO (takeS 5)) (consA (shareO (takeS 3)) (consA (shareO (takeS 8)) (consA (shareO (takeS 7)) (consA (shareO (takeS 9)) (nilA))))))))) (sRet (cst (.bl false))) (sNext)))) (sSeq (sIf (fNot (boolR (fCall [0] F__law_long_right 2 (consA (nameO 2) (consA (shareO (takeS 3)) (nilA)))))) (sRet (cst (.bl false))) (sNext)) (sSeq (sSet 10 (fCallK [] F_adaptive_counts 4 0 [(0, 0), (0, 1), (0, 2), (0, 3), (1, 0)] [.non] (consA (shareO (takeS 5)) (consA (shareO (takeS 3)) (consA (shareO (cst (.int 3))) (consA (shareO (takeS 7)) (nilA))))) (nilA))) (sIf (boolR (fBin neD (shareO (fCallK [] F_adaptive_counts 5 0 [(0, 0), (0, 1), (0, 2), (0, 3), (0, 4)] [.non] (consA (shareO (takeS 5)) (consA (shareO (takeS 3)) (consA (shareO (cst (.int 3))) (consA (shareO (takeS 7)) (consA (shareO (fB lenD (consA (nameO 5) (nilA)))) (nilA)))))) (nilA))) (nameO 10))) (sRet (cst (.bl false))) (sNext))))))))))) (sSeq (sIf (fOr (boolR (fBin neD (shareO (fCallK [] F_adaptive_counts 4 0 [(0, 0), (0, 1), (0, 2), (0, 3), (1, 0)] [.non] (consA (shareO (fDisp .lst (nilA))) (consA (shareO (cst (.int 2))) (consA (shareO (cst (.int 1))) (consA (shareO (cst (.int 1))) (nilA))))) (nilA))) (shareO (fDisp .lst (nilA))))) (boolR (fBin neD (shareO (fCallK [] F_adaptive_counts 4 0 [(0, 0), (0, 1), (0, 2), (0, 3), (1, 0)] [.non] (consA (shareO (fDisp .lst (consA (shareO (cst (.int 255))) (nilA)))) (consA (shareO (cst (.int 256))) (consA (shareO (cst (.int 9))) (consA (shareO (cst (.int 8))) (nilA))))) (nilA))) (shareO (fDisp .lst (consA (shareO (fLc (fRng1 (consA (shareO (cst (.int 256))) (nilA))) [6] (tName 6) (M.pure true) (fDisp .tup (consA (shareO (takeS 6)) (consA (shareO (cst (.int 1))) (nilA)))))) (nilA))))))) (sRet (cst (.bl false))) (sNext)) (sRet (fBin eqD (shareO (fCallK [] F_adaptive_counts 4 0 [(0, 0), (0, 1), (0, 2), (0, 3), (1, 0)] [.non] (consA (shareO (fDisp .lst (consA (shareO (cst (.int 0))) (consA (shareO (cst (.int 1))) (nilA))))) (consA (shareO (cst (.int 2))) (consA (shareO (cst (.int 1))) (consA (shareO (cst (.int 2))) (nilA))))) (nilA))) (shareO (fDisp .lst (consA (shareO (fDisp .lst (consA (shareO (fDisp .tup (consA (shareO (cst (.int 0))) (consA (shareO (cst (.int 2))) (nilA))))) (consA (shareO (fDisp .tup (consA (shareO (cst (.int 1))) (consA (shareO (cst (.int 2))) (nilA))))) (nilA))))) (consA (shareO (fDisp .lst (consA (shareO (fDisp .tup (consA (shareO (cst (.int 0))) (consA (shareO (cst (.int 3))) (nilA))))) (consA (shareO (fDisp .tup (consA (shareO (cst (.int 1))) (consA (shareO (cst (.int 1))) (nilA))))) (nilA))))) (nilA))))))))
noncomputable def F_law : M R := bodyF [] 1 11 B_law
abbrev N_law : List Str := ["_law_script", "_law_cell", "_law_store_here", "_law_amount", "_law_names", "_law_line_so", "_law_k", "_law_wide_so", "_law_piece_so", "_law_far", "_law_without"]
theorem sc_law : FnScope ["_law_script", "_law_cell", "_law_store_here", "_law_amount", "_law_names", "_law_line_so", "_law_k", "_law_wide_so", "_law_piece_so", "_law_far", "_law_without"] ["_law_script"] (defScope st_law) := ⟨rfl, rfl, rfl, by decide +kernel, rfl, by decide +kernel, by decide +kernel⟩
theorem fok_law {P : Program} {w : World} {K : PySem.W.Frag} {mg : Str → Option Value} {base : Heap} {cls : Str → Addr} {f : Addr} {fd : FuncData} (T : Txt K mg) (C__law_any : CalX P w K mg base ⟨K, cls⟩ 2 "_law_any" [0] 2 F__law_any (B0 K)) (C__law_long_right : CalX P w K mg base ⟨K, cls⟩ 10 "_law_long_right" [0] 2 F__law_long_right (B0 K)) (C__law_right : CalX P w K mg base ⟨K, cls⟩ 9 "_law_right" [] 5 F__law_right (B0 K)) (C__law_store : CalX P w K mg base ⟨K, cls⟩ 1 "_law_store" [] 1 F__law_store (B0 K)) (C__law_take : CalX P w K mg base ⟨K, cls⟩ 1 "_law_take" [0] 2 F__law_take (B0 K)) (C_adaptive_counts : CalX P w K mg base ⟨K, cls⟩ 6 "adaptive_counts" [] 5 F_adaptive_counts (Bd_adaptive_counts K)) (Fn : Fun K "law" "law" st_law f fd) : FnOk P w K mg base (L2.CX P w) 11 f fd ["_law_script"] (spD ⟨K, cls⟩ 1 [] F_law) := by
  refine fok_mk Fn sc_law (by decide) fun cdv A outer s H E hr => ?_
  have TK := takes_of (X := cxOf (L2.CX P w) P w K mg base ["_law_script", "_law_cell", "_law_store_here", "_law_amount", "_law_names", "_law_line_so", "_law_k", "_law_wide_so", "_law_piece_so", "_law_far", "_law_without"] "law" (defScope st_law) f cdv A outer s H E) (E := E) rfl rfl rfl rfl
  have S := sc_law
  exact (dss_cons (ds_for (passes_of rfl) rfl (ie_list (de_bin (op_addD rfl) (oe_of (de_slice (oe_var (pv 0)) dp_none (dp_some de_int) rfl)) (oe_of (de_lst (ae_cons (oe_of de_int) ae_nil)))) rfl) (ge_name S.nd rfl (by first | exact .inl rfl | exact .inr rfl) (by decide)) (dss_cons (ds_set S.nd (i := 2) rfl (by first | exact .inl rfl | exact .inr rfl) (by decide) (dc C__law_store hr (by decide) TK rfl (ae_cons (oe_of (de_var (pv 1))) ae_nil)))
      (dss_cons (ds_set S.nd (i := 3) rfl (by first | exact .inl rfl | exact .inr rfl) (by decide) (de_bin (op_addD rfl) (oe_of de_int) (oe_of (dc C__law_take hr (by decide) TK rfl (ae_cons (oe_var (pv 2)) (ae_cons (oe_of de_int) ae_nil))))))
      (dss_cons (ds_set S.nd (i := 4) rfl (by first | exact .inl rfl | exact .inr rfl) (by decide) (dc C__law_any hr (by decide) TK rfl (ae_cons (oe_var (pv 2)) (ae_cons (oe_of (de_lst (ae_cons (oe_of (de_listR1 rfl rfl T.n_list rfl T.n_range (de_var (pv 3)))) (ae_cons (oe_of (de_bin (op_addD rfl) (oe_of (de_bin (op_mulD rfl) (oe_of (de_lst (ae_cons (oe_of de_int) ae_nil))) (oe_of de_int))) (oe_of (de_listR1 rfl rfl T.n_list rfl T.n_range (de_var (pv 3)))))) (ae_cons (oe_of (de_lst (ae_cons (oe_of (de_bin op_subD (oe_var (pv 3)) (oe_of de_int))) ae_nil))) ae_nil))))) ae_nil))))
      (dss_cons (ds_setLc rfl S.nd (i := 5) rfl rfl (by decide) rfl (ie_rng1 rfl T.n_range (ae_cons (oe_of (dc C__law_take hr (by decide) TK rfl (ae_cons (oe_var (pv 2)) (ae_cons (oe_of (dc C__law_any hr (by decide) TK rfl (ae_cons (oe_var (pv 2)) (ae_cons (oe_of (de_lst (ae_cons (oe_of de_int) (ae_cons (oe_of de_int) ae_nil)))) ae_nil)))) ae_nil)))) ae_nil)) (own := [("_law_k", 6)]) (show BlkOk N_law (defScope st_law) _ _ from blkOk_by (by decide +kernel)) (by decide) (fun _ => (ge_name S.nd rfl (by first | exact .inl rfl | exact .inr rfl) (by decide))) (fun _ => dts_nil) (fun _ => (dc C__law_any hr (by decide) takes0 rfl (ae_cons (oe_var (pv 2)) (ae_cons (oe_of (de_var (pv 4))) ae_nil)))))
      (dss_cons (ds_set S.nd (i := 7) rfl (by first | exact .inl rfl | exact .inr rfl) (by decide) (de_bin (op_addD rfl) (oe_of de_int) (oe_of (dc C__law_take hr (by decide) TK rfl (ae_cons (oe_var (pv 2)) (ae_cons (oe_of de_int) ae_nil))))))
      (dss_cons (ds_for (passes_of rfl) rfl (ie_list (de_bin (op_addD rfl) (oe_of (de_listR2 rfl rfl T.n_list rfl T.n_range de_int de_int)) (oe_of (de_lst (ae_cons (oe_of (de_bin (op_addD rfl) (oe_of de_int) (oe_of (dc C__law_take hr (by decide) TK rfl (ae_cons (oe_var (pv 2)) (ae_cons (oe_of de_int) ae_nil)))))) ae_nil)))) rfl) (ge_name S.nd rfl (by first | exact .inl rfl | exact .inr rfl) (by decide)) (dss_cons (ds_set S.nd (i := 9) rfl (by first | exact .inl rfl | exact .inr rfl) (by decide) (dc C__law_any hr (by decide) TK rfl (ae_cons (oe_var (pv 2)) (ae_cons (oe_of (de_lst (ae_cons (oe_of de_non) (ae_cons (oe_of de_non) (ae_cons (oe_of (dc C__law_take hr (by decide) TK rfl (ae_cons (oe_var (pv 2)) (ae_cons (oe_of de_int) ae_nil)))) (ae_cons (oe_of (dc C__law_take hr (by decide) TK rfl (ae_cons (oe_var (pv 2)) (ae_cons (oe_of de_int) ae_nil)))) ae_nil)))))) ae_nil))))
      (dss_one (ds_if (dt_not (dt_val (dc C__law_right hr (by decide) TK rfl (ae_cons (oe_of (de_var (pv 5))) (ae_cons (oe_of (de_var (pv 3))) (ae_cons (oe_of (de_var (pv 8))) (ae_cons (oe_of (de_var (pv 7))) (ae_cons (oe_of (de_var (pv 9))) ae_nil)))))))) (dss_one (ds_ret de_bl)) dss_nil))))
      (dss_cons (ds_if (dt_not (dt_val (dc C__law_long_right hr (by decide) TK rfl (ae_cons (oe_var (pv 2)) (ae_cons (oe_of (de_var (pv 3))) ae_nil))))) (dss_one (ds_ret de_bl)) dss_nil)
      (dss_cons (ds_set S.nd (i := 10) rfl (by first | exact .inl rfl | exact .inr rfl) (by decide) (dcD C_adaptive_counts hr (by decide) TK rfl (fun _ _ h => h.p1) (ae_cons (oe_of (de_var (pv 5))) (ae_cons (oe_of (de_var (pv 3))) (ae_cons (oe_of de_int) (ae_cons (oe_of (de_var (pv 7))) ae_nil)))) (fun _ => dd_adaptive_counts)))
      (dss_one (ds_if (dt_cmp (op_neG (hu64 hr) rfl) (oe_of (dcD C_adaptive_counts hr (by decide) TK rfl (fun _ _ h => h.p0) (ae_cons (oe_of (de_var (pv 5))) (ae_cons (oe_of (de_var (pv 3))) (ae_cons (oe_of de_int) (ae_cons (oe_of (de_var (pv 7))) (ae_cons (oe_of (de_cb (cr_len rfl) rfl T.n_len PySem.boot_len (ae_cons (oe_var (pv 5)) ae_nil))) ae_nil))))) (fun _ => dd_adaptive_counts))) (oe_var (pv 10)) (nomark _)) (dss_one (ds_ret de_bl)) dss_nil)))))))))))
      (dss_cons (ds_if (DW.dt (dw_or (dt_cmp (op_neG (hu64 hr) rfl) (oe_of (dcD C_adaptive_counts hr (by decide) TK rfl (fun _ _ h => h.p1) (ae_cons (oe_of (de_lst ae_nil)) (ae_cons (oe_of de_int) (ae_cons (oe_of de_int) (ae_cons (oe_of de_int) ae_nil)))) (fun _ => dd_adaptive_counts))) (oe_of (de_lst ae_nil)) (nomark _)) (dw_or1 (dt_cmp (op_neG (hu64 hr) rfl) (oe_of (dcD C_adaptive_counts hr (by decide) TK rfl (fun _ _ h => h.p1) (ae_cons (oe_of (de_lst (ae_cons (oe_of de_int) ae_nil))) (ae_cons (oe_of de_int) (ae_cons (oe_of de_int) (ae_cons (oe_of de_int) ae_nil)))) (fun _ => dd_adaptive_counts))) (oe_of (de_lst (ae_cons (oe_of (de_lc rfl S.nd (ie_rng1 rfl T.n_range (ae_cons (oe_of de_int) ae_nil)) (own := [("_law_k", 6)]) (show BlkOk N_law (defScope st_law) _ _ from blkOk_by (by decide +kernel)) (by decide) (fun _ => (ge_name S.nd rfl (by first | exact .inl rfl | exact .inr rfl) (by decide))) (fun _ => dts_nil) (fun _ => (de_tup (ae_cons (oe_of (de_var (pv 6))) (ae_cons (oe_of de_int) ae_nil)))))) ae_nil))) (nomark _))))) (dss_one (ds_ret de_bl)) dss_nil)
      (dss_one (ds_ret (de_cmp (op_eqG (hu64 hr) rfl) (oe_of (dcD C_adaptive_counts hr (by decide) TK rfl (fun _ _ h => h.p1) (ae_cons (oe_of (de_lst (ae_cons (oe_of de_int) (ae_cons (oe_of de_int) ae_nil)))) (ae_cons (oe_of de_int) (ae_cons (oe_of de_int) (ae_cons (oe_of de_int) ae_nil)))) (fun _ => dd_adaptive_counts))) (oe_of (de_lst (ae_cons (oe_of (de_lst (ae_cons (oe_of (de_tup (ae_cons (oe_of de_int) (ae_cons (oe_of de_int) ae_nil)))) (ae_cons (oe_of (de_tup (ae_cons (oe_of de_int) (ae_cons (oe_of de_int) ae_nil)))) ae_nil)))) (ae_cons (oe_of (de_lst (ae_cons (oe_of (de_tup (ae_cons (oe_of de_int) (ae_cons (oe_of de_int) ae_nil)))) (ae_cons (oe_of (de_tup (ae_cons (oe_of de_int) (ae_cons (oe_of de_int) ae_nil)))) ae_nil)))) ae_nil)))) (nomark _))))))end K68
set_option Elab.async false
set_option linter.all false
set_option maxRecDepth 100000
set_option maxHeartbeats 1000000
namespace K68
open PySem PySem.Spec PyProof.Rows L2 DL
/-- the store's numbers -/
def St (n : Nat) (s : S) : Prop := ∃ a b m : Int, s = .own (.lst [.int a, .int b, .int m]) ∧ 0 ≤ a ∧ 0 ≤ b ∧ b < 2147483629 ∧ 0 ≤ m ∧ m ≤ n
theorem okMul_of {i j : Int} (h : (-(2 ^ 64) < i ∧ i < 2 ^ 64) ∨ (-(2 ^ 64) < j ∧ j < 2 ^ 64)) : okMul i j = true := by
  unfold okMul smallI
  simp only [Bool.or_eq_true, Bool.and_eq_true, decide_eq_true_eq]
  rcases h with h | h
  · exact .inl (.inl h)
  · exact .inl (.inr h)
theorem okDiv_of {j : Int} (h : 0 < j) (h2 : j < 2 ^ 64) : okDiv j = true := by
  unfold okDiv
  simp only [Bool.and_eq_true, decide_eq_true_eq]
  refine ⟨h, ?_⟩
  have : j.natAbs < 2 ^ 64 := by omega
  have h3 : j.natAbs.log2 < 64 := (Nat.log2_lt (by omega)).mpr this
  omega
theorem okPow_of' {i : Int} (h : -(2 ^ 63) < i ∧ i < 2 ^ 63) {j : Int} (h2 : 0 ≤ j) (h3 : j ≤ 1000000) : okPow i j = true := by
  unfold okPow
  simp only [Bool.and_eq_true, decide_eq_true_eq]
  exact ⟨⟨h2, h3⟩, by omega⟩
theorem store_ok (c : Int) : ∃ s, F__law_store [.val (.int c)] = .ok ⟨.lst s, true⟩ [.un] ∧ St 1 (.own (.lst s)) := by
  obtain ⟨g, hg⟩ : ∃ g, (if c < -c then -c else c) = g := ⟨_, rfl⟩
  have g0 : 0 ≤ g := by rw [← hg]; split <;> omega
  refine ⟨[.int (g * (if (10 : Int) ^ 18 ≤ g then 1 else 0)), .int (g % 2147483629), .int 1], ?_, ?_⟩
  · have p1 : powD (.int 10) (.int 18) = some ⟨.int (10 ^ 18), false⟩ := rfl
    have m1 : okMul g (if (1000000000000000000 : Int) ≤ g then 1 else 0) = true := okMul_of (.inr (by split <;> omega))
    simp [F__law_store, B__law_store, hg, p1, d_mul m1, d_mod, sizeD, outs]
  · refine ⟨_, _, _, rfl, ?_, ?_, ?_, ?_, ?_⟩
    · split <;> omega
    · omega
    · omega
    · omega
    · omega
theorem take_ok {n : Nat} {s : S} (h : St n s) (hn : n < 2 ^ 30) {k : Int} (hk : 0 < k) (hk2 : k < 2 ^ 64) : ∃ r s', F__law_take [s, .val (.int k)] = .ok ⟨.int r, false⟩ [s', .un] ∧ 0 ≤ r ∧ r < k ∧ St (n + 1) s' := by
  obtain ⟨a, b, m, rfl, ha, hb, hb2, hm, hm2⟩ := h
  have dk := okDiv_of hk hk2
  by_cases c : 0 < a
  · refine ⟨a % k, .own (.lst [.int (a / k), .int b, .int m]), ?_, Int.emod_nonneg _ (by omega), Int.emod_lt_of_pos _ hk, a / k, b, m, rfl, Int.ediv_nonneg ha (by omega), hb, hb2, hm, by omega⟩
    simp [F__law_take, B__law_take, atI, ixN, c, d_mod hk, d_fdiv dk, outs, List.range, List.range.loop]
  · obtain ⟨x1, e1⟩ : ∃ x, x = (b + 49999 * (m + 1) + 17) ^ 3 % 2147483587 := ⟨_, rfl⟩
    obtain ⟨x2, e2⟩ : ∃ x, x = (x1 + 13 * (m + 1)) * (x1 / 1031 + 60013) % 2147483579 := ⟨_, rfl⟩
    have b1 : 0 ≤ x1 ∧ x1 < 2147483587 := by rw [e1]; omega
    have b2 : 0 ≤ x2 ∧ x2 < 2147483579 := by rw [e2]; omega
    refine ⟨x2 * (x2 / 2017 + 40009) % 2147483563 / 7 % k, .own (.lst [.int a, .int b, .int (m + 1)]), ?_, Int.emod_nonneg _ (by omega), Int.emod_lt_of_pos _ hk, a, b, m + 1, rfl, ha, hb, hb2, by omega, by omega⟩
    have hp : okPow (b + 49999 * (m + 1) + 17) 3 = true := okPow_of' (by omega) (by omega) (by omega)
    have m1 : okMul 49999 (m + 1) = true := okMul_of (.inl (by omega))
    have m2 : okMul 13 (m + 1) = true := okMul_of (.inl (by omega))
    have m3 : okMul (x1 + 13 * (m + 1)) (x1 / 1031 + 60013) = true := okMul_of (.inr (by omega))
    have m4 : okMul x2 (x2 / 2017 + 40009) = true := okMul_of (.inl (by omega))
    have dd1 : okDiv 1031 = true := okDiv_of (by omega) (by omega)
    have dd2 : okDiv 2017 = true := okDiv_of (by omega) (by omega)
    have dd3 : okDiv 7 = true := okDiv_of (by omega) (by omega)
    simp [F__law_take, B__law_take, atI, ixN, c, d_mod, d_mod hk, d_pow hp, d_mul m1, ← e1, d_mul m2, d_fdiv dd1, d_mul m3, ← e2, d_fdiv dd2, d_mul m4, d_fdiv dd3, outs, List.range, List.range.loop]
theorem any_ok {n : Nat} {s : S} (h : St n s) (hn : n < 2 ^ 30) {ds : List D} (hd : 0 < ds.length) (hd2 : ds.length < 2 ^ 30) : ∃ (j : Nat) (hj : j < ds.length) (s' : S), F__law_any [s, .val (.lst ds)] = .ok ⟨ds[j], false⟩ [s', .un] ∧ St (n + 1) s' := by
  obtain ⟨r, s', h1, h2, h3, h4⟩ := take_ok h hn (k := (ds.length : Nat)) (by omega) (by omega)
  refine ⟨r.toNat, by omega, s', ?_, h4⟩
  obtain ⟨a, b, m, rfl, _⟩ := h
  obtain ⟨a', b', m', rfl, _⟩ := h4
  have e1 : atI ds r = some ds[r.toNat] := by
    unfold atI ixN
    rw [if_pos h2, if_pos h3]
    exact List.getElem?_eq_getElem (by omega)
  simp [F__law_any, B__law_any, h1, e1, outs, List.range, List.range.loop]
/-! ### the checks -/
theorem isint_i (v : Int) : F_is_integer [.val (.int v)] = .ok ⟨.bl true, false⟩ [.un] := by
  simp [F_is_integer, B_is_integer, outs, List.range, List.range.loop, noObj, isT, tyD]
theorem between_i (v lo hi : Int) : F_is_between [.val (.int v), .val (.int lo), .val (.int hi)] = .ok ⟨.bl (decide (lo ≤ v) && decide (v ≤ hi)), false⟩ [.un, .un, .un] := by
  by_cases c : lo ≤ v <;> simp [F_is_between, B_is_between, isint_i, outs, List.range, List.range.loop, c]
theorem checkb_i (x : Str) {v lo hi : Int} (h1 : lo ≤ v) (h2 : v ≤ hi) : F_check_between [.val (.str x), .val (.int v), .val (.int lo), .val (.int hi)] = .ok ⟨.non, false⟩ [.un, .un, .un, .un] := by
  simp [F_check_between, B_check_between, between_i, outs, List.range, List.range.loop, h1, h2]
theorem symbol_i {v : Int} (h1 : 0 ≤ v) (h2 : v ≤ 999) : F_is_symbol [.val (.int v)] = .ok ⟨.bl true, false⟩ [.un] := by
  simp [F_is_symbol, B_is_symbol, between_i, outs, List.range, List.range.loop, h1, h2]
theorem size_i {v : Int} (h1 : 2 ≤ v) (h2 : v ≤ 256) : F_check_size [.val (.int v)] = .ok ⟨.non, false⟩ [.un] := by
  simp [F_check_size, B_check_size, checkb_i _ h1 h2, outs, List.range, List.range.loop]
theorem blocks_i {b w : Int} {f : D} (h1 : 1 ≤ b) (h2 : b ≤ 10000) (h3 : 1 ≤ w) (h4 : w ≤ 12) (hf : f = .non ∨ ∃ v : Int, f = .int v ∧ 0 ≤ v ∧ v ≤ 10000) : F_check_blocks [.val (.int b), .val (.int w), .val f] = .ok ⟨.non, false⟩ [.un, .un, .un] := by
  rcases hf with rfl | ⟨v, rfl, k1, k2⟩
  · simp [F_check_blocks, B_check_blocks, checkb_i _ h1 h2, checkb_i _ h3 h4, outs, List.range, List.range.loop, isNonD]
  · simp [F_check_blocks, B_check_blocks, checkb_i _ h1 h2, checkb_i _ h3 h4, between_i, k1, k2, outs, List.range, List.range.loop, isNonD]
theorem cut_from0 {α : Type} (xs : List α) (k : Int) (h : 0 ≤ k) : cutL xs none (some k) = xs.take k.toNat := by
  unfold cutL HT.sIx
  simp only [List.drop_zero, Nat.sub_zero]
  rw [if_neg (by omega)]
  rw [List.take_eq_take_iff]
  omega
theorem text_i {ns : List Int} (h : ∀ n ∈ ns, 0 ≤ n ∧ n ≤ 999) (hl : ns.length ≤ 10000) : F_check_text [.val (.lst (ns.map D.int))] = .ok ⟨.non, false⟩ [.un] := by
  have e1 : cutL (ns.map D.int) none (some 10001) = ns.map D.int := by
    rw [cut_from0 _ _ (by omega)]
    exact List.take_of_length_le (by simp; omega)
  obtain ⟨ρ', k1, k2⟩ := loop_inv (ft := tTuple 2 (tsCons (tName 1) (tsCons (tName 2) (tsNil)))) (fb := sIf (fOr (boolR (fBin eqD (nameO 1) (shareO (cst (.int 10000))))) (fNot (boolR (fCall [] F_is_symbol 1 (consA (shareO (takeS 2)) (nilA)))))) badM (sNext))
    (fun i ρ => ∃ a b, ρ = [.val (.lst (ns.map D.int)), a, b]) (ds := enumL 0 (ns.map D.int)) (fun i d ρ hd ⟨a, b, e⟩ => by
      subst e
      obtain ⟨e, he, rfl⟩ := enumL_get 0 _ i hd
      rw [List.getElem?_map] at he
      cases q : ns[i]? with
      | none => rw [q] at he; cases he
      | some n =>
        rw [q] at he
        cases he
        obtain ⟨b1, b2⟩ := h n (List.mem_of_getElem? q)
        have hi := (List.getElem?_eq_some_iff.mp q).1
        refine ⟨[.val (.lst (ns.map D.int)), .val (.int ((0 + i : Nat) : Int)), .val (.int n)], [.val (.lst (ns.map D.int)), .val (.int ((0 + i : Nat) : Int)), .val (.int n)], by simp, ?_, _, _, rfl⟩
        have ne : ¬ ((i : Int) = 10000) := by omega
        simp [symbol_i b1 b2, ne]) (ρ := [.val (.lst (ns.map D.int)), .un, .un]) ⟨_, _, rfl⟩
  obtain ⟨a, b, rfl⟩ := k2
  simp [F_check_text, B_check_text, outs, List.range, List.range.loop, noObj, isT, tyD, e1, k1]
theorem small_i {ns : List Int} {sz : Int} (h : ∀ n ∈ ns, 0 ≤ n ∧ n < sz) (hl : ns.length ≤ 10000) (h1 : 2 ≤ sz) (h2 : sz ≤ 256) : F_check_small [.val (.lst (ns.map D.int)), .val (.int sz)] = .ok ⟨.non, false⟩ [.un, .un] := by
  have t := text_i (ns := ns) (fun n hn => ⟨(h n hn).1, by have := (h n hn).2; omega⟩) hl
  obtain ⟨ρ', k1, k2⟩ := loop_inv (ft := tName 2) (fb := sIf (boolR (fBin geD (nameO 2) (nameO 1))) badM (sNext))
    (fun i ρ => ∃ a, ρ = [.val (.lst (ns.map D.int)), .val (.int sz), a]) (ds := ns.map D.int) (fun i d ρ hd ⟨a, e⟩ => by
      subst e
      rw [List.getElem?_map] at hd
      cases q : ns[i]? with
      | none => rw [q] at hd; cases hd
      | some n =>
        rw [q] at hd
        cases hd
        obtain ⟨b1, b2⟩ := h n (List.mem_of_getElem? q)
        refine ⟨[.val (.lst (ns.map D.int)), .val (.int sz), .val (.int n)], [.val (.lst (ns.map D.int)), .val (.int sz), .val (.int n)], by simp, ?_, _, rfl⟩
        have ne : ¬ (sz ≤ n) := by omega
        simp [ne]) (ρ := [.val (.lst (ns.map D.int)), .val (.int sz), .un]) ⟨_, rfl⟩
  obtain ⟨a, rfl⟩ := k2
  simp [F_check_small, B_check_small, outs, List.range, List.range.loop, t, size_i h1 h2, listD, k1]
theorem limits_i {m sz b w : Int} (h1 : sz ≤ 2 ^ w.toNat) (hw : 0 ≤ w) (hw2 : w ≤ 12) (hb : 0 < b) (hb2 : b < 2 ^ 30) (hm : 0 ≤ m) (hm2 : m < 2 ^ 30) (h2 : (m + b - 1) / b * 2 ^ w.toNat ≤ 200000) : F_check_limits [.val (.int m), .val (.int sz), .val (.int b), .val (.int w)] = .ok ⟨.non, false⟩ [.un, .un, .un, .un] := by
  have p1 : okPow 1 w = true := okPow_of' (by omega) hw (by omega)
  have d1 : okDiv b = true := okDiv_of hb (by omega)
  have q1 : 0 ≤ (m + b - 1) / b := Int.ediv_nonneg (by omega) (by omega)
  have q2 : (m + b - 1) / b ≤ m + b - 1 := Int.ediv_le_self _ (by omega)
  have p2 : okPow ((m + b - 1) / b) w = true := okPow_of' (by omega) hw (by omega)
  have n1 : ¬ (2 ^ w.toNat < sz) := by omega
  have n2 : ¬ (200000 < (m + b - 1) / b * 2 ^ w.toNat) := by omega
  simp [F_check_limits, B_check_limits, d_shl p1, d_fdiv d1, d_shl p2, outs, List.range, List.range.loop, n1, n2]
end K68
set_option Elab.async false
set_option linter.all false
set_option maxRecDepth 100000
set_option maxHeartbeats 1000000
namespace K68
open PySem PySem.Spec PyProof.Rows L2 DL
def pD (p : Int × Int) : D := .tup [.int p.1, .int p.2]
theorem sum_ok {ps : List (Int × Int)} (hl : ps.length ≤ 10000) : F_sum_of [.val (.lst (ps.map pD))] = .ok ⟨.int (ps.map (·.2)).sum, false⟩ [.un] := by
  have h := lc_mapF (vs := [1, 2]) (ft := tTuple 2 (tsCons (tName 1) (tsCons (tName 2) (tsNil)))) (fc := M.pure true) (fe := takeS 2) (ρw := [.val (.lst (ps.map pD)), .un, .un]) pD (fun p => .int p.2) (ps := ps) (ρ := [.val (.lst (ps.map pD)), .un, .un]) rfl
    (fun p hp => ⟨[.val (.lst (ps.map pD)), .val (.int p.1), .val (.int p.2)], [.val (.lst (ps.map pD)), .val (.int p.1), .val (.int p.2)], [.val (.lst (ps.map pD)), .val (.int p.1), .val (.int p.2)], false, by simp [pD], rfl, by simp, by simp⟩) (by unfold sizeD; omega)
  have e : (ps.map fun p => D.int p.2) = (ps.map (·.2)).map D.int := by rw [List.map_map]; rfl
  rw [e] at h
  simp [F_sum_of, B_sum_of, r_fLc, listD, h, outs, List.range, List.range.loop, -List.map_map]
theorem sum_le {ns : List Int} {b : Int} (h : ∀ n ∈ ns, n ≤ b) : ns.sum ≤ ns.length * b := by
  induction ns with
  | nil => simp
  | cons n ns ih =>
    have h1 := h n (List.mem_cons_self ..)
    have h2 := ih fun m hm => h m (List.mem_cons_of_mem _ hm)
    rw [List.sum_cons, List.length_cons, Int.natCast_add, Int.add_mul]
    omega
theorem sum_ge {ns : List Int} (h : ∀ n ∈ ns, 1 ≤ n) : (ns.length : Int) ≤ ns.sum := by
  induction ns with
  | nil => simp
  | cons n ns ih =>
    have h1 := h n (List.mem_cons_self ..)
    have h2 := ih fun m hm => h m (List.mem_cons_of_mem _ hm)
    rw [List.sum_cons, List.length_cons, Int.natCast_add]
    omega
theorem sum_set : ∀ {ns : List Int} {j : Nat} (h : j < ns.length) (v : Int), (ns.set j v).sum = ns.sum - ns[j] + v
  | n :: ns, 0, h, v => by simp [List.sum_cons]; omega
  | n :: ns, j + 1, h, v => by
    rw [List.set_cons_succ, List.sum_cons, List.sum_cons, sum_set (by simpa using h) v]
    simp
    omega
theorem map_set {α β : Type} (f : α → β) (xs : List α) (j : Nat) (v : α) : (xs.map f).set j (f v) = (xs.set j v).map f := by rw [List.map_set]
/-- the state of shared's body between the steps -/
def Mid (ps : List (Int × Int)) (size total : Int) (ρ : List S) : Prop := ∃ (fs : List Int) (s6 s7 s8 : S), ρ = [.val (.lst (ps.map pD)), .val (.int size), .val (.int total), .own (.lst (fs.map D.int)), .un, .un, s6, s7, s8, .un] ∧ fs.length = ps.length ∧ (s7 = .un ∨ ∃ d, s7 = .val d)
theorem getD_map (ps : List (Int × Int)) {j : Nat} (h : j < ps.length) : L2.atI (ps.map pD) (j : Int) = some (pD ps[j]) := by
  rw [atI_nat (by simpa using h)]
  simp
theorem atI_ints (ns : List Int) {j : Nat} (h : j < ns.length) : L2.atI (ns.map D.int) (j : Int) = some (.int ns[j]) := by
  rw [atI_nat (by simpa using h)]
  simp
theorem tup_alike (a b c d : Int) : PySem.W.alike (toP (.tup [.int a, .int b])) (toP (.tup [.int c, .int d])) = true := by
  simp [toP, toPs, PySem.W.alike, PySem.W.alikeAll]
theorem sort_pairs {rs : List D} (h : ∀ d ∈ rs, ∃ a b : Int, d = .tup [.int a, .int b]) : sortOk rs = true := by
  unfold sortOk
  rw [Bool.and_eq_true, Bool.and_eq_true]
  refine ⟨⟨?_, ?_⟩, ?_⟩
  · refine List.all_eq_true.mpr fun d hd => List.all_eq_true.mpr fun e he => ?_
    obtain ⟨d', hd', rfl⟩ := List.mem_map.mp hd
    obtain ⟨e', he', rfl⟩ := List.mem_map.mp he
    obtain ⟨a, b, rfl⟩ := h d' hd'
    obtain ⟨c, d, rfl⟩ := h e' he'
    exact tup_alike a b c d
  · unfold sortB
    rw [Bool.or_eq_true]
    refine .inl (List.all_eq_true.mpr fun d hd => ?_)
    obtain ⟨d', hd', rfl⟩ := List.mem_map.mp hd
    obtain ⟨a, b, rfl⟩ := h d' hd'
    rfl
  · refine List.all_eq_true.mpr fun d hd => ?_
    obtain ⟨a, b, rfl⟩ := h d hd
    exact fine_ok (n := 1) (fine_tup (by simp)) (by decide)
theorem spread_loop {ps : List (Int × Int)} {size total : Int} {ds : List D} (hd : ∀ d ∈ ds, ∃ (a : Int) (j : Nat), d = .tup [.int a, .int (j : Int)] ∧ j < ps.length) {ρ : List S} (h : Mid ps size total ρ) :
    ∃ ρ', loopL (tTuple 2 (tsCons (tName 8) (tsCons (tName 7) (tsNil)))) (sPut 3 (takeS 7) (fBin addD (shareO (fBin ixD (nameO 3) (nameO 7))) (shareO (cst (.int 1))))) ds ρ = .ok .next ρ' ∧ Mid ps size total ρ' := by
  refine loop_inv (fun _ ρ => Mid ps size total ρ) (fun i d ρ hi hm => ?_) h
  obtain ⟨fs, s6, s7, s8, rfl, hl, h7⟩ := hm
  obtain ⟨a, j, rfl, hj⟩ := hd d (List.mem_of_getElem? hi)
  have hjf : j < fs.length := by omega
  refine ⟨[.val (.lst (ps.map pD)), .val (.int size), .val (.int total), .own (.lst (fs.map D.int)), .un, .un, s6, .val (.int j), .val (.int a), .un], [.val (.lst (ps.map pD)), .val (.int size), .val (.int total), .own (.lst ((fs.set j (fs[j] + 1)).map D.int)), .un, .un, s6, .val (.int j), .val (.int a), .un], by simp, ?_, fs.set j (fs[j] + 1), s6, _, _, rfl, by rw [List.length_set]; exact hl, .inr ⟨_, rfl⟩⟩
  have e1 := atI_ints fs hjf
  have e2 : ixN (fs.map D.int).length (j : Int) = some j := ixN_nat (by simpa using hjf)
  rw [List.length_map] at e2
  simp [e1, e2, List.map_set]
def msr (size : Int) (ρ : List S) : Nat := match ρ[3]? with
  | some (S.own (D.lst ds)) => (((intsD ds).getD []).sum - size).toNat
  | _ => 0
theorem down_loop {ps : List (Int × Int)} (hp : ps ≠ []) {size total : Int} {ρ : List S} (h : Mid ps size total ρ) :
    ∃ ρ', sWhile (boolR (fBin gtD (shareO (fB sumD (consA (nameO 3) (nilA)))) (nameO 1))) (sSeq (sSet 7 (fMeth "list" indexD (nameO 3) (consA (shareO (fB maxD (consA (nameO 3) (nilA)))) (nilA)))) (sPut 3 (takeS 7) (fBin subD (shareO (fBin ixD (nameO 3) (nameO 7))) (shareO (cst (.int 1)))))) ρ = .ok .next ρ' ∧ Mid ps size total ρ' := by
  refine while_inv (Mid ps size total) (msr size) (fun ρ hm => ?_) h
  obtain ⟨fs, s6, s7, s8, rfl, hl, h7⟩ := hm
  by_cases c : size < fs.sum
  · right
    have hne : fs ≠ [] := by
      intro z
      rw [z] at hl
      exact hp (List.eq_nil_of_length_eq_zero hl.symm)
    have hpos : 0 < fs.length := List.length_pos_iff.mpr hne
    obtain ⟨j, hj, ei⟩ := d_indexI (maxL_spec hpos).1
    have e1 := atI_ints fs hj
    have e2 : ixN fs.length (j : Int) = some j := ixN_nat hj
    refine ⟨[.val (.lst (ps.map pD)), .val (.int size), .val (.int total), .own (.lst (fs.map D.int)), .un, .un, s6, s7, s8, .un], [.val (.lst (ps.map pD)), .val (.int size), .val (.int total), .own (.lst ((fs.set j (fs[j] - 1)).map D.int)), .un, .un, s6, .val (.int j), s8, .un], ?_, ?_, ⟨fs.set j (fs[j] - 1), s6, _, s8, rfl, by rw [List.length_set]; exact hl, .inr ⟨_, rfl⟩⟩, ?_⟩
    · simp [c]
    · simp [d_maxl hne, ei, e1, e2, List.map_set]
    · simp only [msr, List.getElem?_cons_succ, List.getElem?_cons_zero, intsD_map, Option.getD_some, sum_set hj]
      omega
  · left
    exact ⟨_, by simp [c], fs, s6, s7, s8, rfl, hl, h7⟩
end K68
set_option Elab.async false
set_option linter.all false
set_option maxRecDepth 100000
set_option maxHeartbeats 1000000
namespace K68
open PySem PySem.Spec PyProof.Rows L2 DL
def fnd (size total : Int) (p : Int × Int) : Int := if p.2 * size / total > 1 then p.2 * size / total else 1
structure Good (ps : List (Int × Int)) : Prop where
  ne : ps ≠ []
  len : ps.length ≤ 256
  lo : ∀ p ∈ ps, 1 ≤ p.2
  hi : ∀ p ∈ ps, p.2 ≤ 20000
theorem shared_ok {ps : List (Int × Int)} (G : Good ps) {size : Int} (h1 : 1 ≤ size) (h2 : size ≤ 4096) : ∃ qs : List (Int × Int), qs.length = ps.length ∧ F_shared [.val (.lst (ps.map pD)), .val (.int size)] = .ok ⟨.lst (qs.map pD), true⟩ [.un, .un] := by
  obtain ⟨total, ht⟩ : ∃ t, t = (ps.map (·.2)).sum := ⟨_, rfl⟩
  have t1 : (ps.length : Int) ≤ total := by
    have := sum_ge (ns := ps.map (·.2)) (fun n hn => by obtain ⟨p, hp, rfl⟩ := List.mem_map.mp hn; exact G.lo p hp)
    rw [List.length_map] at this
    omega
  have t2 : total ≤ 256 * 20000 := by
    have := sum_le (ns := ps.map (·.2)) (b := 20000) (fun n hn => by obtain ⟨p, hp, rfl⟩ := List.mem_map.mp hn; exact G.hi p hp)
    rw [List.length_map] at this
    have := G.len
    omega
  have pl : 0 < ps.length := List.length_pos_iff.mpr G.ne
  have t0 : 0 < total := by omega
  have dt : okDiv total = true := okDiv_of t0 (by omega)
  have mt : ∀ p ∈ ps, okMul p.2 size = true := fun p hp => okMul_of (.inr (by omega))
  have sz : ps.length ≤ sizeD := by have := G.len; unfold sizeD; omega
  have hsum := sum_ok (ps := ps) (by have := G.len; omega)
  rw [← ht] at hsum
  -- found
  have hf := lc_mapF (vs := [4, 5]) (ft := tTuple 2 (tsCons (tName 4) (tsCons (tName 5) (tsNil)))) (fc := M.pure true) (fe := fB maxD (consA (shareO (cst (.int 1))) (consA (shareO (fBin fdivD (shareO (fBin mulD (nameO 5) (nameO 1))) (nameO 2))) (nilA))))
    (ρw := [.val (.lst (ps.map pD)), .val (.int size), .val (.int total), .un, .un, .un, .un, .un, .un, .un]) pD (fun p => .int (fnd size total p)) (ps := ps) (ρ := [.val (.lst (ps.map pD)), .val (.int size), .val (.int total), .un, .un, .un, .un, .un, .un, .un]) rfl
    (fun p hp => ⟨[.val (.lst (ps.map pD)), .val (.int size), .val (.int total), .un, .val (.int p.1), .val (.int p.2), .un, .un, .un, .un], [.val (.lst (ps.map pD)), .val (.int size), .val (.int total), .un, .val (.int p.1), .val (.int p.2), .un, .un, .un, .un], [.val (.lst (ps.map pD)), .val (.int size), .val (.int total), .un, .val (.int p.1), .val (.int p.2), .un, .un, .un, .un], false, by simp [pD], rfl, by
      simp [d_mul (mt p hp), d_fdiv dt, fnd], by simp⟩) sz
  have ef : (ps.map fun p => D.int (fnd size total p)) = (ps.map (fnd size total)).map D.int := by rw [List.map_map]; rfl
  rw [ef] at hf
  obtain ⟨fs, hfs⟩ : ∃ fs, fs = ps.map (fnd size total) := ⟨_, rfl⟩
  rw [← hfs] at hf
  have lf : fs.length = ps.length := by rw [hfs, List.length_map]
  -- rests
  have hr := lc_fmF (vs := [7, 4, 5]) (ft := tTuple 2 (tsCons (tName 7) (tsCons (tTuple 2 (tsCons (tName 4) (tsCons (tName 5) (tsNil)))) (tsNil)))) (fc := boolR (fBin geD (shareO (fBin mulD (nameO 5) (nameO 1))) (nameO 2)))
    (fe := fDisp .tup (consA (shareO (fBin subD (shareO (cst (.int 0))) (shareO (fBin modD (shareO (fBin mulD (nameO 5) (nameO 1))) (nameO 2))))) (consA (shareO (takeS 7)) (nilA))))
    (ρw := [.val (.lst (ps.map pD)), .val (.int size), .val (.int total), .own (.lst (fs.map D.int)), .un, .un, .un, .un, .un, .un]) (fun q : (Int × Int) × Nat => D.tup [.int (q.2 : Int), pD q.1])
    (fun q : (Int × Int) × Nat => if total ≤ q.1.2 * size then some (.tup [.int (0 - q.1.2 * size % total), .int (q.2 : Int)]) else none) (ps := ps.zipIdx) (acc := []) (ρ := [.val (.lst (ps.map pD)), .val (.int size), .val (.int total), .own (.lst (fs.map D.int)), .un, .un, .un, .un, .un, .un]) rfl
    (fun q hq => by
      have hp : q.1 ∈ ps := by
        obtain ⟨_, _, e⟩ := List.mem_zipIdx hq
        rw [e]
        exact List.getElem_mem _
      refine ⟨[.val (.lst (ps.map pD)), .val (.int size), .val (.int total), .own (.lst (fs.map D.int)), .val (.int q.1.1), .val (.int q.1.2), .un, .val (.int (q.2 : Int)), .un, .un], [.val (.lst (ps.map pD)), .val (.int size), .val (.int total), .own (.lst (fs.map D.int)), .val (.int q.1.1), .val (.int q.1.2), .un, .val (.int (q.2 : Int)), .un, .un], by simp [pD], ?_⟩
      by_cases c : total ≤ q.1.2 * size
      · refine .inr ⟨[.val (.lst (ps.map pD)), .val (.int size), .val (.int total), .own (.lst (fs.map D.int)), .val (.int q.1.1), .val (.int q.1.2), .un, .val (.int (q.2 : Int)), .un, .un], ⟨.tup [.int (0 - q.1.2 * size % total), .int (q.2 : Int)], true⟩, ?_, ?_, if_pos c, by simp⟩
        · simp [d_mul (mt _ hp), c]
        · simp [d_mul (mt _ hp), d_mod t0, sizeD]
      · refine .inl ⟨if_neg c, ?_, by simp⟩
        simp [d_mul (mt _ hp), c]) (by simpa using sz)
  rw [← enumL_zip, List.nil_append] at hr
  obtain ⟨rs, hrs⟩ : ∃ rs, rs = ps.zipIdx.filterMap (fun q : (Int × Int) × Nat => if total ≤ q.1.2 * size then some (D.tup [.int (0 - q.1.2 * size % total), .int (q.2 : Int)]) else none) := ⟨_, rfl⟩
  rw [← hrs] at hr
  have mr : ∀ d ∈ rs, ∃ (a : Int) (j : Nat), d = .tup [.int a, .int (j : Int)] ∧ j < ps.length := fun d hd => by
    rw [hrs] at hd
    obtain ⟨q, hq, e⟩ := List.mem_filterMap.mp hd
    obtain ⟨hl, hl2, _⟩ := List.mem_zipIdx hq
    split at e
    · cases e
      exact ⟨_, q.2, rfl, by omega⟩
    · cases e
  have so : sortOk rs = true := sort_pairs fun d hd => by obtain ⟨a, j, e, _⟩ := mr d hd; exact ⟨a, j, e⟩
  have es : sortedD [.lst rs] = some ⟨.lst (sortL rs), true⟩ := if_pos so
  obtain ⟨k, hk⟩ : ∃ k, k = (if fs.sum < size then size - fs.sum else 0) := ⟨_, rfl⟩
  have k0 : 0 ≤ k := by rw [hk]; split <;> omega
  have ec : cutL (sortL rs) none (some k) = (sortL rs).take k.toNat := cut_from0 _ _ k0
  have mtk : ∀ d ∈ (sortL rs).take k.toNat, ∃ (a : Int) (j : Nat), d = .tup [.int a, .int (j : Int)] ∧ j < ps.length := fun d hd => mr d (List.mem_mergeSort.mp (List.mem_of_mem_take hd))
  have m0 : Mid ps size total [.val (.lst (ps.map pD)), .val (.int size), .val (.int total), .own (.lst (fs.map D.int)), .un, .un, .own (.lst rs), .un, .un, .un] := ⟨fs, _, _, _, rfl, lf, .inl rfl⟩
  obtain ⟨ρ1, l1, m1⟩ := spread_loop mtk m0
  obtain ⟨ρ2, l2, m2⟩ := down_loop G.ne m1
  obtain ⟨gs, s6, s7, s8, rfl, lg, h7⟩ := m2
  have hlast := lc_mapF (vs := [7, 9]) (ft := tTuple 2 (tsCons (tName 7) (tsCons (tName 9) (tsNil)))) (fc := M.pure true) (fe := fDisp .tup (consA (shareO (fBin ixD (shareO (fBin ixD (nameO 0) (nameO 7))) (shareO (cst (.int 0))))) (consA (shareO (takeS 9)) (nilA))))
    (ρw := [.val (.lst (ps.map pD)), .val (.int size), .val (.int total), .val (.lst (gs.map D.int)), .un, .un, s6, .un, s8, .un]) (fun q : Int × Nat => D.tup [.int (q.2 : Int), .int q.1]) (fun q : Int × Nat => pD ((ps.getD q.2 (0, 0)).1, q.1)) (ps := gs.zipIdx)
    (ρ := [.val (.lst (ps.map pD)), .val (.int size), .val (.int total), .val (.lst (gs.map D.int)), .un, .un, s6, s7, s8, .un]) (by simp)
    (fun q hq => by
      obtain ⟨hl, hl2, _⟩ := List.mem_zipIdx hq
      have hj : q.2 < ps.length := by omega
      refine ⟨[.val (.lst (ps.map pD)), .val (.int size), .val (.int total), .val (.lst (gs.map D.int)), .un, .un, s6, .val (.int (q.2 : Int)), s8, .val (.int q.1)], [.val (.lst (ps.map pD)), .val (.int size), .val (.int total), .val (.lst (gs.map D.int)), .un, .un, s6, .val (.int (q.2 : Int)), s8, .val (.int q.1)], [.val (.lst (ps.map pD)), .val (.int size), .val (.int total), .val (.lst (gs.map D.int)), .un, .un, s6, .val (.int (q.2 : Int)), s8, .val (.int q.1)], true, by simp, rfl, ?_, by simp⟩
      have e1 := getD_map ps hj
      have e2 : ps[q.2]?.getD (0, 0) = ps[q.2] := by rw [List.getElem?_eq_getElem hj]; rfl
      simp [e1, pD, sizeD, List.getD_eq_getElem?_getD, e2]
      rfl) (by simp; omega)
  rw [← enumL_zip] at hlast
  refine ⟨gs.zipIdx.map (fun q : Int × Nat => ((ps.getD q.2 (0, 0)).1, q.1)), by rw [List.length_map, List.length_zipIdx]; exact lg, ?_⟩
  have el : (gs.zipIdx.map fun q : Int × Nat => pD ((ps.getD q.2 (0, 0)).1, q.1)) = (gs.zipIdx.map (fun q : Int × Nat => ((ps.getD q.2 (0, 0)).1, q.1))).map pD := by rw [List.map_map]; rfl
  rw [el] at hlast
  rcases h7 with rfl | ⟨d7, rfl⟩
  · simp [F_shared, B_shared, hsum, r_fLc, listD, hf, hr, es, ← hk, ec, l1, l2, hlast, outs, List.range, List.range.loop, -List.map_map]
  · simp [F_shared, B_shared, hsum, r_fLc, listD, hf, hr, es, ← hk, ec, l1, l2, hlast, outs, List.range, List.range.loop, -List.map_map]
end K68
set_option Elab.async false
set_option linter.all false
set_option maxRecDepth 100000
set_option maxHeartbeats 1000000
namespace K68
open PySem PySem.Spec PyProof.Rows L2 DL
open Classical in
noncomputable def shq (ps : List (Int × Int)) (size : Int) : List (Int × Int) :=
  if h : ∃ qs : List (Int × Int), qs.length = ps.length ∧ F_shared [.val (.lst (ps.map pD)), .val (.int size)] = .ok ⟨.lst (qs.map pD), true⟩ [.un, .un] then h.choose else []
theorem shared_eq {ps : List (Int × Int)} (G : Good ps) {size : Int} (h1 : 1 ≤ size) (h2 : size ≤ 4096) : F_shared [.val (.lst (ps.map pD)), .val (.int size)] = .ok ⟨.lst ((shq ps size).map pD), true⟩ [.un, .un] := by
  have h := shared_ok G h1 h2
  unfold shq
  rw [dif_pos h]
  exact h.choose_spec.2
theorem shq_len {ps : List (Int × Int)} (G : Good ps) {size : Int} (h1 : 1 ≤ size) (h2 : size ≤ 4096) : (shq ps size).length = ps.length := by
  have h := shared_ok G h1 h2
  unfold shq
  rw [dif_pos h]
  exact h.choose_spec.1
/-- the counts ahead of a block -/
def row (sl : List Int) (sz : Nat) : List (Int × Int) := (List.range sz).map fun s : Nat => ((s : Int), 1 + ((sl.count (s : Int) : Nat) : Int))
theorem row_good {sl : List Int} {sz : Nat} (h1 : 1 ≤ sz) (h2 : sz ≤ 256) (hl : sl.length ≤ 10000) : Good (row sl sz) := by
  refine ⟨fun z => ?_, by unfold row; simpa using h2, fun p hp => ?_, fun p hp => ?_⟩
  · have := congrArg List.length z
    unfold row at this
    simp at this
    omega
  · obtain ⟨s, _, rfl⟩ := List.mem_map.mp hp
    show (1 : Int) ≤ 1 + _
    omega
  · obtain ⟨s, _, rfl⟩ := List.mem_map.mp hp
    have : sl.count (s : Int) ≤ sl.length := List.count_le_length
    show (1 : Int) + _ ≤ 20000
    omega
noncomputable def outD (sl : List Int) (sz w : Nat) : D := .lst ((shq (row sl sz) ((2 : Int) ^ w)).map pD)
theorem pow_le {w : Nat} (h : w ≤ 12) : (2 : Int) ^ w ≤ 4096 := by
  have : (2 : Nat) ^ w ≤ 2 ^ 12 := Nat.pow_le_pow_right (by decide) h
  have e : ((2 : Nat) ^ w : Nat) = ((2 : Int) ^ w) := by norm_cast
  omega
theorem pow_pos' (w : Nat) : (1 : Int) ≤ 2 ^ w := by
  have : 0 < (2 : Nat) ^ w := Nat.pow_pos (by decide)
  have e : ((2 : Nat) ^ w : Nat) = ((2 : Int) ^ w) := by norm_cast
  omega
theorem pair_i {p : Int × Int} (h1 : 0 ≤ p.1) (h2 : p.1 ≤ 999) (h3 : 1 ≤ p.2) (h4 : p.2 ≤ 20000) : F_is_pair [.val (pD p)] = .ok ⟨.bl true, false⟩ [.un] := by
  have e0 : ∀ (a b : D), L2.atI [a, b] 0 = some a := fun _ _ => rfl
  have e1 : ∀ (a b : D), L2.atI [a, b] 1 = some b := fun _ _ => rfl
  have n2 : neD (.int 2) (.int 2) = some ⟨.bl false, false⟩ := d_ne_self (n := 0) (fine_int 0 2) (by decide)
  have b : F_is_between [.val (.int p.2), .val (.int 1), .val (.int 1000000000000000000000000000000)] = .ok ⟨.bl true, false⟩ [.un, .un, .un] := by
    rw [between_i, decide_eq_true h3, decide_eq_true (by omega)]; rfl
  simp [F_is_pair, B_is_pair, pD, n2, e0, e1, symbol_i h1 h2, b, outs, List.range, List.range.loop]
theorem row_fst {sl : List Int} {sz k : Nat} (h : k < (row sl sz).length) : (row sl sz)[k].1 = (k : Int) := by
  simp only [row, List.getElem_map, List.getElem_range]
theorem numbers_i {sl : List Int} {sz : Nat} (h1 : 1 ≤ sz) (h2 : sz ≤ 256) (hl : sl.length ≤ 10000) : F_is_numbers [.val (.lst ((row sl sz).map pD))] = .ok ⟨.bl true, false⟩ [.un] := by
  have G := row_good h1 h2 hl
  have lr : (row sl sz).length = sz := by unfold row; simp
  obtain ⟨ps, hps⟩ : ∃ ps, ps = row sl sz := ⟨_, rfl⟩
  rw [← hps] at G lr ⊢
  have pr : ∀ p ∈ ps, 0 ≤ p.1 ∧ p.1 ≤ 999 := fun p hp => by
    rw [hps] at hp
    obtain ⟨s, hs, rfl⟩ := List.mem_map.mp hp
    have := List.mem_range.mp hs
    show (0 : Int) ≤ (s : Int) ∧ (s : Int) ≤ 999
    omega
  have ha := lc_mapF (vs := [1]) (ft := tName 1) (fc := M.pure true) (fe := fCall [] F_is_pair 1 (consA (shareO (takeS 1)) (nilA))) (ρw := [.val (.lst (ps.map pD)), .un, .un]) pD (fun _ => D.bl true) (ps := ps) (ρ := [.val (.lst (ps.map pD)), .un, .un]) rfl
    (fun p hp => ⟨[.val (.lst (ps.map pD)), .val (pD p), .un], [.val (.lst (ps.map pD)), .val (pD p), .un], [.val (.lst (ps.map pD)), .val (pD p), .un], false, by simp, rfl, by simp [pair_i (pr p hp).1 (pr p hp).2 (G.lo p hp) (G.hi p hp)], by simp⟩) (by unfold sizeD; omega)
  have ea : (ps.map fun _ => D.bl true) = (ps.map fun _ => true).map D.bl := by rw [List.map_map]; rfl
  rw [ea] at ha
  have hb := lc_mapF (vs := [2]) (ft := tName 2) (fc := M.pure true) (fe := fBin ltD (shareO (fBin ixD (shareO (fBin ixD (nameO 0) (nameO 2))) (shareO (cst (.int 0))))) (shareO (fBin ixD (shareO (fBin ixD (nameO 0) (shareO (fBin addD (nameO 2) (shareO (cst (.int 1))))))) (shareO (cst (.int 0)))))) (ρw := [.val (.lst (ps.map pD)), .un, .un])
    (fun k : Nat => D.int (0 + (k : Nat))) (fun _ => D.bl true) (ps := List.range (sz - 1)) (ρ := [.val (.lst (ps.map pD)), .un, .un]) rfl
    (fun k hk => by
      have hk' := List.mem_range.mp hk
      refine ⟨[.val (.lst (ps.map pD)), .un, .val (.int (0 + (k : Nat)))], [.val (.lst (ps.map pD)), .un, .val (.int (0 + (k : Nat)))], [.val (.lst (ps.map pD)), .un, .val (.int (0 + (k : Nat)))], false, by simp, rfl, ?_, by simp⟩
      have k1 : k < ps.length := by omega
      have k2 : k + 1 < ps.length := by omega
      have e1 := getD_map ps k1
      have e2 := getD_map ps k2
      rw [Int.natCast_add] at e2
      have e0 : ∀ (a b : D), L2.atI [a, b] 0 = some a := fun _ _ => rfl
      have v1 : ps[k].1 = (k : Int) := by subst hps; exact row_fst k1
      have v2 : ps[k + 1].1 = ((k + 1 : Nat) : Int) := by subst hps; exact row_fst k2
      have e2' : L2.atI (ps.map pD) ((k : Int) + 1) = some (pD ps[k + 1]) := e2
      simp [e1, e2', pD, e0, v1, v2]
      omega) (by simp [sizeD]; omega)
  have er : rngD 0 (sz - 1) = (List.range (sz - 1)).map fun k : Nat => D.int (0 + (k : Nat)) := rfl
  rw [← er] at hb
  have eb : ((List.range (sz - 1)).map fun _ => D.bl true) = ((List.range (sz - 1)).map fun _ => true).map D.bl := by rw [List.map_map]; rfl
  rw [eb] at hb
  have al : ∀ {τ : Type} (xs : List τ), allD [.lst ((xs.map fun _ => true).map D.bl)] = some ⟨.bl true, false⟩ := fun xs => by
    show (blsD _).bind _ = _
    rw [blsD_map]
    show rb _ = _
    rw [show (xs.map fun _ => true).all id = true from by simp]
    rfl
  have n1 : (1 : Int) ≤ (sz : Int) := by omega
  have n2 : (sz : Int) ≤ 1000 := by omega
  have i6 : in62 ((sz : Int) - 1) = true := by unfold in62; simp only [Bool.and_eq_true, decide_eq_true_eq]; omega
  have tn : ((sz : Int) - 1).toNat = sz - 1 := by omega
  simp [F_is_numbers, B_is_numbers, lr, n1, n2, r_fLc, listD, ha, al, i6, tn, hb, outs, List.range, List.range.loop, -List.map_map]
end K68
set_option Elab.async false
set_option linter.all false
set_option maxRecDepth 100000
set_option maxHeartbeats 1000000
namespace K68
open PySem PySem.Spec PyProof.Rows L2 DL
theorem asked_i {sl : List Int} {sz w : Nat} (h1 : 1 ≤ sz) (h2 : sz ≤ 256) (hl : sl.length ≤ 10000) (w1 : 1 ≤ w) (w2 : w ≤ 12) (hs : (sz : Int) ≤ 2 ^ w) : F_check_asked [.val (.lst ((row sl sz).map pD)), .val (.int (w : Int))] = .ok ⟨.non, false⟩ [.un, .un] := by
  have lr : (row sl sz).length = sz := by unfold row; simp
  have p1 : okPow 1 (w : Int) = true := okPow_of' (by omega) (by omega) (by omega)
  have b : F_is_between [.val (.int (w : Int)), .val (.int 1), .val (.int 12)] = .ok ⟨.bl true, false⟩ [.un, .un, .un] := by
    rw [between_i, decide_eq_true (by omega), decide_eq_true (by omega)]; rfl
  have n1 : ¬ ((2 : Int) ^ w < (sz : Int)) := by omega
  simp [F_check_asked, B_check_asked, numbers_i h1 h2 hl, b, d_shl p1, lr, n1, outs, List.range, List.range.loop]
theorem rests_i {sl : List Int} {sz w : Nat} (h1 : 1 ≤ sz) (h2 : sz ≤ 256) (hl : sl.length ≤ 10000) (w1 : 1 ≤ w) (w2 : w ≤ 12) (hs : (sz : Int) ≤ 2 ^ w) : F_by_rests [.val (.lst ((row sl sz).map pD)), .val (.int (w : Int))] = .ok ⟨outD sl sz w, true⟩ [.un, .un] := by
  have p1 : okPow 1 (w : Int) = true := okPow_of' (by omega) (by omega) (by omega)
  have e := shared_eq (row_good h1 h2 hl) (pow_pos' w) (pow_le w2)
  simp [F_by_rests, B_by_rests, asked_i h1 h2 hl w1 w2 hs, d_shl p1, e, outD, outs, List.range, List.range.loop]
/-- the line between the window's begin and the place -/
def far : Option Nat → D
  | none => .non
  | some v => .int (v : Int)
def lowF (a : Nat) : Option Nat → Nat
  | none => 0
  | some v => a - v
def sliceF (ns : List Int) (a : Nat) (f : Option Nat) : List Int := (ns.take a).drop (lowF a f)
theorem cut_slice {ns : List Int} {a : Nat} (f : Option Nat) (ha : a ≤ ns.length) : cutL (ns.map D.int) (some ((lowF a f : Nat) : Int)) (some (a : Int)) = (sliceF ns a f).map D.int := by
  have hl : lowF a f ≤ a := by cases f <;> simp [lowF]
  unfold cutL sliceF
  rw [List.length_map, HT.sIx_nat, HT.sIx_nat, Nat.min_eq_left ha, Nat.min_eq_left (Nat.le_trans hl ha), List.map_drop, List.map_take, List.drop_take]
theorem low_eq (a v : Nat) : (if (a : Int) - (v : Int) > 0 then (a : Int) - (v : Int) else 0) = ((a - v : Nat) : Int) := by split <;> omega
theorem low_eq' (a v : Nat) : (if (v : Int) < (a : Int) then (a : Int) - (v : Int) else 0) = ((a - v : Nat) : Int) := by split <;> omega
theorem low_eq2 (a v : Nat) : (if v < a then (a : Int) - (v : Int) else 0) = ((a - v : Nat) : Int) := by split <;> omega
theorem slice_len {ns : List Int} {a : Nat} (f : Option Nat) (h : ns.length ≤ 10000) : (sliceF ns a f).length ≤ 10000 := by
  unfold sliceF
  rw [List.length_drop, List.length_take]
  omega
theorem count_map (ns : List Int) (k : Int) : countD (.lst (ns.map D.int)) [.int k] = some ⟨.int (ns.count k : Nat), false⟩ := by
  show (intsD (ns.map D.int)).bind _ = _
  rw [intsD_map]
  rfl
theorem run_rng1 {fs : M (List O)} {ρ ρ' : List S} {j : Int} (h : fs ρ = .ok [.v (.int j)] ρ') (hj : in62 j = true) : fRng1 fs ρ = .ok (rngD 0 j.toNat) ρ' := by
  unfold fRng1
  show (fs ρ).bind _ = _
  rw [h]
  show gd (in62 j) (M.pure (rngD 0 j.toNat)) ρ' = _
  rw [hj]
  rfl
theorem s2a {ns : List Int} {a sz w : Nat} {fd : D} {lo : Int} (i6 : in62 (sz : Int) = true) : fRng1 (consA (shareO (takeS 2)) (nilA)) [.val (.lst (ns.map D.int)), .val (.int (a : Int)), .val (.int (sz : Int)), .val (.int (w : Int)), .val fd, .val (.int lo), .un, .un] = .ok (rngD 0 sz) [.val (.lst (ns.map D.int)), .val (.int (a : Int)), .val (.int (sz : Int)), .val (.int (w : Int)), .val fd, .val (.int lo), .un, .un] := by
  have z := run_rng1 (fs := consA (shareO (takeS 2)) (nilA)) (ρ := [.val (.lst (ns.map D.int)), .val (.int (a : Int)), .val (.int (sz : Int)), .val (.int (w : Int)), .val fd, .val (.int lo), .un, .un]) (ρ' := [.val (.lst (ns.map D.int)), .val (.int (a : Int)), .val (.int (sz : Int)), .val (.int (w : Int)), .val fd, .val (.int lo), .un, .un]) (j := (sz : Int)) rfl i6
  rw [Int.toNat_natCast] at z
  exact z
theorem s2b {ns : List Int} {a sz w : Nat} {fd : D} {lo : Int} {fe : M R} {ds : List D} (e1 : fRng1 (consA (shareO (takeS 2)) (nilA)) [.val (.lst (ns.map D.int)), .val (.int (a : Int)), .val (.int (sz : Int)), .val (.int (w : Int)), .val fd, .val (.int lo), .un, .un] = .ok (rngD 0 sz) [.val (.lst (ns.map D.int)), .val (.int (a : Int)), .val (.int (sz : Int)), .val (.int (w : Int)), .val fd, .val (.int lo), .un, .un]) (hc : lcL [7] (tName 7) (M.pure true) fe (rngD 0 sz) [] [.val (.lst (ns.map D.int)), .val (.int (a : Int)), .val (.int (sz : Int)), .val (.int (w : Int)), .val fd, .val (.int lo), .un, .un] = .ok ds [.val (.lst (ns.map D.int)), .val (.int (a : Int)), .val (.int (sz : Int)), .val (.int (w : Int)), .val fd, .val (.int lo), .un, .un]) : fLc (fRng1 (consA (shareO (takeS 2)) (nilA))) [7] (tName 7) (M.pure true) fe [.val (.lst (ns.map D.int)), .val (.int (a : Int)), .val (.int (sz : Int)), .val (.int (w : Int)), .val fd, .val (.int lo), .un, .un] = .ok ⟨.lst ds, true⟩ [.val (.lst (ns.map D.int)), .val (.int (a : Int)), .val (.int (sz : Int)), .val (.int (w : Int)), .val fd, .val (.int lo), .un, .un] := by
  rw [r_fLc, e1, r_bok', if_pos (by simp), hc]
  rfl
theorem s2e {ns : List Int} {a sz w : Nat} {z : Int} {fd : D} {lo : Int} {sl : List Int} (e : cutL (ns.map D.int) (some lo) (some (a : Int)) = sl.map D.int) : fMeth "list" countD (shareO (fSlice (nameO 0) (partI (takeS 5)) (partI (takeS 1)))) (consA (nameO 7) (nilA)) [.val (.lst (ns.map D.int)), .val (.int (a : Int)), .val (.int (sz : Int)), .val (.int (w : Int)), .val fd, .val (.int lo), .un, .val (.int z)] = .ok ⟨.int ((sl.count z : Nat) : Int), false⟩ [.val (.lst (ns.map D.int)), .val (.int (a : Int)), .val (.int (sz : Int)), .val (.int (w : Int)), .val fd, .val (.int lo), .un, .val (.int z)] := by
  simp [e, count_map]
theorem s2d {ns : List Int} {a sz w : Nat} {z : Int} {fd : D} {lo : Int} {sl : List Int} (e : cutL (ns.map D.int) (some lo) (some (a : Int)) = sl.map D.int) : (fDisp .tup (consA (shareO (takeS 7)) (consA (shareO (fBin addD (shareO (cst (.int 1))) (shareO (fMeth "list" countD (shareO (fSlice (nameO 0) (partI (takeS 5)) (partI (takeS 1)))) (consA (nameO 7) (nilA)))))) (nilA)))) [.val (.lst (ns.map D.int)), .val (.int (a : Int)), .val (.int (sz : Int)), .val (.int (w : Int)), .val fd, .val (.int lo), .un, .val (.int z)] = .ok ⟨pD (z, 1 + ((sl.count z : Nat) : Int)), true⟩ [.val (.lst (ns.map D.int)), .val (.int (a : Int)), .val (.int (sz : Int)), .val (.int (w : Int)), .val fd, .val (.int lo), .un, .val (.int z)] := by
  have h := s2e (sz := sz) (w := w) (z := z) (fd := fd) e
  rw [r_fDisp, r_consA, r_shareO, r_take]
  simp only [List.getElem?_cons_succ, List.getElem?_cons_zero, r_bok, r_bok', r_pure, r_bind, r_consA, r_shareO, r_fBin, r_cst, h, r_nilA, r_lift2, r_resOv, d_add, r_vals1, r_vals0, Option.map_some]
  rfl
theorem ebx (sl : List Int) (sz : Nat) : ((List.range sz).map fun k : Nat => pD (0 + (k : Nat), 1 + ((sl.count (0 + ((k : Nat) : Int)) : Nat) : Int))) = (row sl sz).map pD := by
  unfold row
  rw [List.map_map]
  exact List.map_congr_left fun k _ => by rw [Int.zero_add]; rfl
theorem s2c {ns : List Int} {a sz w : Nat} {fd : D} {lo : Int} (f : Option Nat) (h2 : sz ≤ 256) (ha : a ≤ ns.length) (hlo : lo = ((lowF a f : Nat) : Int)) : lcL [7] (tName 7) (M.pure true) (fDisp .tup (consA (shareO (takeS 7)) (consA (shareO (fBin addD (shareO (cst (.int 1))) (shareO (fMeth "list" countD (shareO (fSlice (nameO 0) (partI (takeS 5)) (partI (takeS 1)))) (consA (nameO 7) (nilA)))))) (nilA)))) (rngD 0 sz) [] [.val (.lst (ns.map D.int)), .val (.int (a : Int)), .val (.int (sz : Int)), .val (.int (w : Int)), .val fd, .val (.int lo), .un, .un] = .ok ((row (sliceF ns a f) sz).map pD) [.val (.lst (ns.map D.int)), .val (.int (a : Int)), .val (.int (sz : Int)), .val (.int (w : Int)), .val fd, .val (.int lo), .un, .un] := by
  have hc := lc_mapF (vs := [7]) (ft := tName 7) (fc := M.pure true) (fe := (fDisp .tup (consA (shareO (takeS 7)) (consA (shareO (fBin addD (shareO (cst (.int 1))) (shareO (fMeth "list" countD (shareO (fSlice (nameO 0) (partI (takeS 5)) (partI (takeS 1)))) (consA (nameO 7) (nilA)))))) (nilA)))))
    (ρw := [.val (.lst (ns.map D.int)), .val (.int (a : Int)), .val (.int (sz : Int)), .val (.int (w : Int)), .val fd, .val (.int lo), .un, .un]) (fun k : Nat => D.int (0 + (k : Nat))) (fun k : Nat => pD (0 + (k : Nat), 1 + (((sliceF ns a f).count (0 + ((k : Nat) : Int)) : Nat) : Int))) (ps := List.range sz)
    (ρ := [.val (.lst (ns.map D.int)), .val (.int (a : Int)), .val (.int (sz : Int)), .val (.int (w : Int)), .val fd, .val (.int lo), .un, .un]) rfl
    (fun k hk => by
      refine ⟨[.val (.lst (ns.map D.int)), .val (.int (a : Int)), .val (.int (sz : Int)), .val (.int (w : Int)), .val fd, .val (.int lo), .un, .val (.int (0 + (k : Nat)))], [.val (.lst (ns.map D.int)), .val (.int (a : Int)), .val (.int (sz : Int)), .val (.int (w : Int)), .val fd, .val (.int lo), .un, .val (.int (0 + (k : Nat)))], [.val (.lst (ns.map D.int)), .val (.int (a : Int)), .val (.int (sz : Int)), .val (.int (w : Int)), .val fd, .val (.int lo), .un, .val (.int (0 + (k : Nat)))], true, by simp, rfl, ?_, by simp⟩
      have e := cut_slice f ha
      rw [← hlo] at e
      exact s2d e) (by rw [List.length_range]; unfold sizeD; omega)
  rw [ebx] at hc
  exact hc
theorem body_ret {fx : List Nat} {n N : Nat} {fb : M Fl} {ρ ρ' : List S} {r : R} (h : fb (ρ ++ List.replicate (N - n) .un) = .ok (.ret r) ρ') : bodyF fx n N fb ρ = .ok r (outs fx n ρ') := by
  rw [r_body, h]
theorem seq_ok {a b : M Fl} {ρ ρ1 : List S} {x : Res Fl} (h1 : a ρ = .ok .next ρ1) (h2 : b ρ1 = x) : sSeq a b ρ = x := by
  rw [r_sSeq, h1]
  exact h2
theorem set_ok {i : Nat} {f : M R} {ρ ρ1 : List S} {r : R} (h : f ρ = .ok r ρ1) (hi : i < ρ1.length) : sSet i f ρ = .ok .next (setR i r ρ1) := by
  rw [r_sSet, h]
  exact if_pos hi
theorem ret_ok {f : M R} {ρ ρ1 : List S} {r : R} (h : f ρ = .ok r ρ1) : sRet f ρ = .ok (.ret r) ρ1 := by
  rw [r_sRet, h]
  rfl
theorem s3a {ns : List Int} {a sz w : Nat} {fd : D} {lo : Int} {ds : List D} {o : D} (r : F_by_rests [.val (.lst ds), .val (.int (w : Int))] = .ok ⟨o, true⟩ [.un, .un]) : fCall [] F_by_rests 2 (consA (shareO (takeS 6)) (consA (shareO (takeS 3)) (nilA))) [.val (.lst (ns.map D.int)), .val (.int (a : Int)), .val (.int (sz : Int)), .val (.int (w : Int)), .val fd, .val (.int lo), .own (.lst ds), .un] = .ok ⟨o, true⟩ [.val (.lst (ns.map D.int)), .val (.int (a : Int)), .val (.int (sz : Int)), .val (.int (w : Int)), .val fd, .val (.int lo), .val (.lst ds), .un] := by
  simp [r]
theorem s4a {ns : List Int} {a sz w : Nat} {fd : D} {lo : Int} {ds : List D} {o : D} (s1 : fIf (boolR (fBin isND (nameO 4) (shareO (cst .non)))) (cst (.int 0)) (fB maxD (consA (shareO (cst (.int 0))) (consA (shareO (fBin subD (nameO 1) (nameO 4))) (nilA)))) [.val (.lst (ns.map D.int)), .val (.int (a : Int)), .val (.int (sz : Int)), .val (.int (w : Int)), .val fd, .un, .un, .un] = .ok ⟨.int lo, false⟩ [.val (.lst (ns.map D.int)), .val (.int (a : Int)), .val (.int (sz : Int)), .val (.int (w : Int)), .val fd, .un, .un, .un])
    (s2 : fLc (fRng1 (consA (shareO (takeS 2)) (nilA))) [7] (tName 7) (M.pure true) (fDisp .tup (consA (shareO (takeS 7)) (consA (shareO (fBin addD (shareO (cst (.int 1))) (shareO (fMeth "list" countD (shareO (fSlice (nameO 0) (partI (takeS 5)) (partI (takeS 1)))) (consA (nameO 7) (nilA)))))) (nilA)))) [.val (.lst (ns.map D.int)), .val (.int (a : Int)), .val (.int (sz : Int)), .val (.int (w : Int)), .val fd, .val (.int lo), .un, .un] = .ok ⟨.lst ds, true⟩ [.val (.lst (ns.map D.int)), .val (.int (a : Int)), .val (.int (sz : Int)), .val (.int (w : Int)), .val fd, .val (.int lo), .un, .un])
    (s3 : fCall [] F_by_rests 2 (consA (shareO (takeS 6)) (consA (shareO (takeS 3)) (nilA))) [.val (.lst (ns.map D.int)), .val (.int (a : Int)), .val (.int (sz : Int)), .val (.int (w : Int)), .val fd, .val (.int lo), .own (.lst ds), .un] = .ok ⟨o, true⟩ [.val (.lst (ns.map D.int)), .val (.int (a : Int)), .val (.int (sz : Int)), .val (.int (w : Int)), .val fd, .val (.int lo), .val (.lst ds), .un]) :
    F__law_counts [.val (.lst (ns.map D.int)), .val (.int (a : Int)), .val (.int (sz : Int)), .val (.int (w : Int)), .val fd] = .ok ⟨o, true⟩ [.un, .un, .un, .un, .un] := by
  have b : B__law_counts [.val (.lst (ns.map D.int)), .val (.int (a : Int)), .val (.int (sz : Int)), .val (.int (w : Int)), .val fd, .un, .un, .un] = .ok (.ret ⟨o, true⟩) [.val (.lst (ns.map D.int)), .val (.int (a : Int)), .val (.int (sz : Int)), .val (.int (w : Int)), .val fd, .val (.int lo), .val (.lst ds), .un] :=
    seq_ok (set_ok s1 (by simp)) (seq_ok (set_ok s2 (by simp)) (ret_ok s3))
  exact body_ret (fx := []) (n := 5) (N := 8) (fb := B__law_counts) b
theorem s1a {ns : List Int} {a sz w : Nat} {fd : D} {lo : Int} (f : Option Nat) (hf : fd = far f) (hlo : lo = ((lowF a f : Nat) : Int)) : fIf (boolR (fBin isND (nameO 4) (shareO (cst .non)))) (cst (.int 0)) (fB maxD (consA (shareO (cst (.int 0))) (consA (shareO (fBin subD (nameO 1) (nameO 4))) (nilA)))) [.val (.lst (ns.map D.int)), .val (.int (a : Int)), .val (.int (sz : Int)), .val (.int (w : Int)), .val fd, .un, .un, .un] =
      .ok ⟨.int lo, false⟩ [.val (.lst (ns.map D.int)), .val (.int (a : Int)), .val (.int (sz : Int)), .val (.int (w : Int)), .val fd, .un, .un, .un] := by
  cases f with
  | none =>
    have hlo' : lo = 0 := hlo
    subst hlo'
    have hf' : fd = .non := hf
    subst hf'
    simp [isNonD]
  | some v =>
    have hlo' : lo = ((a - v : Nat) : Int) := hlo
    subst hlo'
    have hf' : fd = .int (v : Int) := hf
    subst hf'
    simp [isNonD, low_eq2]
theorem counts_i {ns : List Int} {a sz w : Nat} (f : Option Nat) (h1 : 1 ≤ sz) (h2 : sz ≤ 256) (hl : ns.length ≤ 10000) (ha : a ≤ ns.length) (w1 : 1 ≤ w) (w2 : w ≤ 12) (hs : (sz : Int) ≤ 2 ^ w) :
    F__law_counts [.val (.lst (ns.map D.int)), .val (.int (a : Int)), .val (.int (sz : Int)), .val (.int (w : Int)), .val (far f)] = .ok ⟨outD (sliceF ns a f) sz w, true⟩ [.un, .un, .un, .un, .un] :=
  s4a (s1a f rfl rfl) (s2b (s2a (in62_nat (by omega))) (s2c f h2 ha rfl)) (s3a (rests_i h1 h2 (slice_len f hl) w1 w2 hs))
/-- the numbers ahead -/
def nums (sl : List Int) (sz : Nat) : List Int := (List.range sz).map fun s : Nat => 1 + ((sl.count (s : Int) : Nat) : Int)
theorem nums_step {sl : List Int} {sz i : Nat} {n : Int} (hi : sl[i]? = some n) (h0 : 0 ≤ n) (h1 : n < sz) : ∃ (h : n.toNat < (nums (sl.take i) sz).length), (nums (sl.take i) sz).set n.toNat ((nums (sl.take i) sz)[n.toNat] + 1) = nums (sl.take (i + 1)) sz := by
  have hl : n.toNat < (nums (sl.take i) sz).length := by unfold nums; simp; omega
  refine ⟨hl, ?_⟩
  have et : sl.take (i + 1) = sl.take i ++ [n] := by
    rw [List.take_succ, hi]; rfl
  apply List.ext_getElem
  · simp [nums]
  · intro k k1 k2
    have hk : k < sz := by simpa [nums] using k2
    simp only [et]
    by_cases c : n.toNat = k
    · subst c
      have en : ((n.toNat : Nat) : Int) = n := by omega
      rw [List.getElem_set_self]
      simp only [nums, List.getElem_map, List.getElem_range, List.count_append, en, List.count_singleton_self]
      omega
    · rw [List.getElem_set_ne c]
      have ne : ¬ (n = (k : Int)) := by omega
      have e0 : List.count (k : Int) [n] = 0 := by
        rw [List.count_eq_zero]
        intro z
        exact ne (List.mem_singleton.mp z).symm
      simp only [nums, List.getElem_map, List.getElem_range, List.count_append, e0]
      omega
theorem nums_row (sl : List Int) (sz : Nat) : enumL 0 ((nums sl sz).map D.int) = (row sl sz).map pD := by
  rw [enumL_zip]
  apply List.ext_getElem
  · simp [nums, row]
  · intro k k1 k2
    simp [nums, row, pD]
theorem ahead_i {ns : List Int} {a sz w : Nat} (f : Option Nat) (hn : ∀ n ∈ ns, 0 ≤ n ∧ n < (sz : Int)) (h1 : 1 ≤ sz) (h2 : sz ≤ 256) (hl : ns.length ≤ 10000) (ha : a ≤ ns.length) (w1 : 1 ≤ w) (w2 : w ≤ 12) :
    F_counts_ahead [.val (.lst (ns.map D.int)), .val (.int (a : Int)), .val (.int (sz : Int)), .val (.int (w : Int)), .val (far f)] = .ok ⟨outD (sliceF ns a f) sz w, true⟩ [.un, .un, .un, .un, .un] := by
  obtain ⟨fd, hf⟩ : ∃ fd, fd = far f := ⟨_, rfl⟩
  obtain ⟨sl, hsl⟩ : ∃ sl, sl = sliceF ns a f := ⟨_, rfl⟩
  have msl : ∀ n ∈ sl, 0 ≤ n ∧ n < (sz : Int) := fun n h => hn n (by rw [hsl] at h; exact List.mem_of_mem_take (List.mem_of_mem_drop h))
  have e := cut_slice f ha
  obtain ⟨lo, hlo⟩ : ∃ lo : Int, lo = ((lowF a f : Nat) : Int) := ⟨_, rfl⟩
  rw [← hlo, ← hsl] at e
  obtain ⟨ρ', k1, k2⟩ := loop_inv (ft := tName 7) (fb := sAugIx (fun i j => i + j) 6 (takeS 7) (cst (.int 1)))
    (fun i ρ => ∃ s7, ρ = [.val (.lst (ns.map D.int)), .val (.int (a : Int)), .val (.int (sz : Int)), .val (.int (w : Int)), .val fd, .val (.int lo), .own (.lst ((nums (sl.take i) sz).map D.int)), s7]) (ds := sl.map D.int) (fun i d ρ hd ⟨s7, er⟩ => by
      subst er
      rw [List.getElem?_map] at hd
      cases q : sl[i]? with
      | none => rw [q] at hd; cases hd
      | some n =>
        rw [q] at hd
        cases hd
        obtain ⟨b1, b2⟩ := msl n (List.mem_of_getElem? q)
        obtain ⟨hln, hst⟩ := nums_step q b1 b2
        have en : ((n.toNat : Nat) : Int) = n := by omega
        have e1 := atI_ints (nums (sl.take i) sz) hln
        have e2 : ixN (nums (sl.take i) sz).length ((n.toNat : Nat) : Int) = some n.toNat := ixN_nat hln
        rw [en] at e1 e2
        refine ⟨[.val (.lst (ns.map D.int)), .val (.int (a : Int)), .val (.int (sz : Int)), .val (.int (w : Int)), .val fd, .val (.int lo), .own (.lst ((nums (sl.take i) sz).map D.int)), .val (.int n)], [.val (.lst (ns.map D.int)), .val (.int (a : Int)), .val (.int (sz : Int)), .val (.int (w : Int)), .val fd, .val (.int lo), .own (.lst ((nums (sl.take (i + 1)) sz).map D.int)), .val (.int n)], by simp, ?_, _, rfl⟩
        have hst' : ((nums (sl.take i) sz).map D.int).set n.toNat (.int ((nums (sl.take i) sz)[n.toNat] + 1)) = (nums (sl.take (i + 1)) sz).map D.int := by rw [← hst, List.map_set]
        simp [e1, e2, hst'])
    (ρ := [.val (.lst (ns.map D.int)), .val (.int (a : Int)), .val (.int (sz : Int)), .val (.int (w : Int)), .val fd, .val (.int lo), .own (.lst ((nums (sl.take 0) sz).map D.int)), .un]) ⟨_, rfl⟩
  obtain ⟨s7, rfl⟩ := k2
  have e0 : (List.replicate sz [D.int 1]).flatten = (nums (sl.take 0) sz).map D.int := by
    have : nums (sl.take 0) sz = List.replicate sz 1 := by
      unfold nums
      apply List.ext_getElem <;> simp
    rw [this]
    apply List.ext_getElem <;> simp
  have em : mulD (.lst [.int 1]) (.int (sz : Int)) = some ⟨.lst ((nums (sl.take 0) sz).map D.int), true⟩ := by
    show (if [D.int 1].length * (sz : Int).toNat ≤ sizeD ∧ -(2 ^ 63) ≤ (sz : Int) ∧ (sz : Int) < 2 ^ 63 then some (⟨.lst (List.replicate (sz : Int).toNat [D.int 1]).flatten, true⟩ : R) else none) = _
    rw [if_pos ⟨by simp [sizeD]; omega, by omega, by omega⟩, Int.toNat_natCast, e0]
  have ek : (sl.map D.int).length = sl.length := by simp
  have et : sl.take (sl.map D.int).length = sl := by rw [ek]; exact List.take_length
  rw [et] at k1
  rw [List.take_zero] at k1 em
  have p1 : okPow 1 (w : Int) = true := okPow_of' (by omega) (by omega) (by omega)
  have hG := row_good (sl := sl) h1 h2 (by rw [hsl]; exact slice_len f hl)
  have es := shared_eq hG (pow_pos' w) (pow_le w2)
  rw [← hsl]
  cases f with
  | none =>
    have hlo' : lo = 0 := hlo
    subst hlo'
    have hf' : fd = .non := hf
    subst hf'
    simp [F_counts_ahead, B_counts_ahead, far, isNonD, sizeD, em, e, listD, k1, nums_row, d_shl p1, es, outD, outs, List.range, List.range.loop, -List.map_map]
  | some v =>
    have hlo' : lo = ((a - v : Nat) : Int) := hlo
    subst hlo'
    have hf' : fd = .int (v : Int) := hf
    subst hf'
    simp [F_counts_ahead, B_counts_ahead, far, isNonD, low_eq2, sizeD, em, e, listD, k1, nums_row, d_shl p1, es, outD, outs, List.range, List.range.loop, -List.map_map]
end K68
set_option Elab.async false
set_option linter.all false
set_option maxRecDepth 100000
set_option maxHeartbeats 400000
namespace K68
open PySem PySem.Spec PyProof.Rows L2 DL
/-- how many blocks -/
def nBl (m b : Nat) : Nat := (m + b - 1) / b
theorem rng_size {m b : Nat} (hb : 0 < b) : Builtin.Range.rangeSize 0 (m : Int) (b : Int) = (nBl m b : Int) := by
  unfold Builtin.Range.rangeSize nBl
  rw [if_pos (by omega)]
  by_cases c : (0 : Int) < (m : Int)
  · rw [if_pos c]
    have e : m + b - 1 = (m - 1) + b := by omega
    rw [e, Nat.add_div_right _ hb]
    have e2 : (m : Int) - 0 - 1 = ((m - 1 : Nat) : Int) := by omega
    rw [e2]
    norm_cast
  · rw [if_neg c]
    have : m = 0 := by omega
    subst this
    have : (0 + b - 1) / b = 0 := Nat.div_eq_of_lt (by omega)
    rw [this]
    rfl
theorem nBl_le {m b : Nat} (hb : 0 < b) : nBl m b ≤ m := by
  unfold nBl
  rw [Nat.div_le_iff_le_mul_add_pred hb]
  cases b with
  | zero => omega
  | succ b =>
    have : m ≤ (b + 1) * m := Nat.le_mul_of_pos_left m (Nat.succ_pos b)
    omega
theorem filt {b : Nat} (hb : 0 < b) : ∀ m : Nat, (List.range m).filter (fun k => k % b = 0) = (List.range (nBl m b)).map (· * b)
  | 0 => by
    have : nBl 0 b = 0 := by unfold nBl; exact Nat.div_eq_of_lt (by omega)
    rw [this]; rfl
  | m + 1 => by
    rw [List.range_succ, List.filter_append, filt hb m]
    by_cases c : m % b = 0
    · obtain ⟨q, hq⟩ := Nat.dvd_of_mod_eq_zero c
      have e1 : nBl m b = q := by
        unfold nBl
        rw [hq]
        have : b * q + b - 1 = (b - 1) + b * q := by omega
        rw [this, Nat.add_mul_div_left _ _ hb, Nat.div_eq_of_lt (by omega)]
        omega
      have e2 : nBl (m + 1) b = q + 1 := by
        unfold nBl
        have : m + 1 + b - 1 = b * q + b := by omega
        rw [this, Nat.add_div_right _ hb, Nat.mul_div_cancel_left _ hb]
      rw [e1, e2, List.range_succ, List.map_append]
      simp [c, hq, Nat.mul_comm]
    · have e3 : nBl (m + 1) b = nBl m b := by
        unfold nBl
        have h := Nat.div_add_mod m b
        have hm := Nat.mod_lt m hb
        have a1 : m + 1 + b - 1 = m % b + b * (m / b + 1) := by rw [Nat.mul_add]; omega
        have a2 : m + b - 1 = (m % b - 1) + b * (m / b + 1) := by rw [Nat.mul_add]; omega
        rw [a1, a2, Nat.add_mul_div_left _ _ hb, Nat.add_mul_div_left _ _ hb, Nat.div_eq_of_lt hm, Nat.div_eq_of_lt (show m % b - 1 < b by omega)]
      rw [e3]
      simp [c]
theorem run_rng3 {fs : M (List O)} {ρ ρ' : List S} {i j c : Int} (h : fs ρ = .ok [.v (.int i), .v (.int j), .v (.int c)] ρ') (hj : okRg i j c = true) (hz : (Builtin.Range.rangeSize i j c).toNat ≤ sizeD) :
    fListR3 fs ρ = .ok ⟨.lst (rngC i c (Builtin.Range.rangeSize i j c).toNat), true⟩ ρ' := by
  unfold fListR3
  show (fs ρ).bind _ = _
  rw [h]
  show gd (okRg i j c && decide ((Builtin.Range.rangeSize i j c).toNat ≤ sizeD)) _ ρ' = _
  rw [hj, decide_eq_true hz]
  rfl
theorem begins_i {m b : Nat} (hb : 0 < b) (hb2 : b < 2 ^ 29) (hm : m < 2 ^ 24) : F_begins [.val (.int (m : Int)), .val (.int (b : Int))] = .ok ⟨.lst (rngC 0 (b : Int) (nBl m b)), true⟩ [.un, .un] := by
  have e := rng_size (m := m) hb
  have hn := nBl_le (m := m) hb
  have ok : okRg 0 (m : Int) (b : Int) = true := by
    unfold okRg
    rw [e, Int.toNat_natCast]
    have s : Builtin.Range.small 0 (m : Int) (b : Int) = true := by
      unfold Builtin.Range.small
      rw [e]
      simp only [Builtin.Range.rangeFitsLong, Bool.and_eq_true, Bool.or_eq_true, decide_eq_true_eq, beq_iff_eq]
      have h0 : (b : Int) > 0 := by omega
      have l1 : (nBl m b : Int) * (b : Int) ≤ (m : Int) + (b : Int) := by
        have : nBl m b * b ≤ m + b - 1 := Nat.div_mul_le_self _ _
        have e3 : ((nBl m b * b : Nat) : Int) = (nBl m b : Int) * (b : Int) := by norm_cast
        omega
      simp only [h0, if_true, Bool.and_eq_true, decide_eq_true_eq]
      refine ⟨by omega, .inr (by omega)⟩
    rw [s, decide_eq_true (by omega), decide_eq_true (by omega), decide_eq_true rfl]
    rfl
  have z := run_rng3 (fs := consA (shareO (cst (.int 0))) (consA (shareO (takeS 0)) (consA (shareO (takeS 1)) (nilA)))) (ρ := [.val (.int (m : Int)), .val (.int (b : Int))]) (ρ' := [.val (.int (m : Int)), .val (.int (b : Int))]) rfl ok (by rw [e, Int.toNat_natCast]; unfold sizeD; omega)
  rw [e, Int.toNat_natCast] at z
  have b0 : B_begins [.val (.int (m : Int)), .val (.int (b : Int))] = .ok (.ret ⟨.lst (rngC 0 (b : Int) (nBl m b)), true⟩) [.val (.int (m : Int)), .val (.int (b : Int))] := ret_ok z
  exact body_ret (fx := []) (n := 2) (N := 2) (fb := B_begins) b0
end K68
set_option Elab.async false
set_option linter.all false
set_option maxRecDepth 100000
set_option maxHeartbeats 400000
namespace K68
open PySem PySem.Spec PyProof.Rows L2 DL
theorem nBl_lt {m b j : Nat} (hb : 0 < b) (h : j < nBl m b) : j * b < m := by
  unfold nBl at h
  have h1 : (j + 1) * b ≤ m + b - 1 := (Nat.le_div_iff_mul_le hb).mp h
  rw [Nat.add_mul] at h1
  omega
theorem cb_turn {ns : List Int} {sz b w k : Nat} {f : Option Nat} {o : D} (r : F_counts_ahead [.val (.lst (ns.map D.int)), .val (.int (0 + (k : Nat) * (b : Int))), .val (.int (sz : Int)), .val (.int (w : Int)), .val (far f)] = .ok ⟨o, true⟩ [.un, .un, .un, .un, .un]) :
    fCall [] F_counts_ahead 5 (consA (shareO (takeS 0)) (consA (shareO (takeS 5)) (consA (shareO (takeS 1)) (consA (shareO (takeS 3)) (consA (shareO (takeS 4)) (nilA)))))) [.val (.lst (ns.map D.int)), .val (.int (sz : Int)), .val (.int (b : Int)), .val (.int (w : Int)), .val (far f), .val (.int (0 + (k : Nat) * (b : Int)))] = .ok ⟨o, true⟩ [.val (.lst (ns.map D.int)), .val (.int (sz : Int)), .val (.int (b : Int)), .val (.int (w : Int)), .val (far f), .val (.int (0 + (k : Nat) * (b : Int)))] := by
  have e : fCall [] F_counts_ahead 5 (consA (shareO (takeS 0)) (consA (shareO (takeS 5)) (consA (shareO (takeS 1)) (consA (shareO (takeS 3)) (consA (shareO (takeS 4)) (nilA)))))) [.val (.lst (ns.map D.int)), .val (.int (sz : Int)), .val (.int (b : Int)), .val (.int (w : Int)), .val (far f), .val (.int (0 + (k : Nat) * (b : Int)))] = callM [] F_counts_ahead [.v (.lst (ns.map D.int)), .v (.int (0 + (k : Nat) * (b : Int))), .v (.int (sz : Int)), .v (.int (w : Int)), .v (far f)] [.val (.lst (ns.map D.int)), .val (.int (sz : Int)), .val (.int (b : Int)), .val (.int (w : Int)), .val (far f), .val (.int (0 + (k : Nat) * (b : Int)))] := rfl
  rw [e, r_callM]
  simp only [r_argSs1, r_argSs0, r_argSv, r_lentv, r_lent0, r_nodup0, r_lokv, r_lok0, and_self, if_true, r]
  rfl
theorem cb_list {ns : List Int} {sz b w : Nat} (f : Option Nat) (hn : ∀ n ∈ ns, 0 ≤ n ∧ n < (sz : Int)) (h1 : 1 ≤ sz) (h2 : sz ≤ 256) (hl : ns.length ≤ 10000) (hb : 0 < b) (w1 : 1 ≤ w) (w2 : w ≤ 12) :
    lcL [5] (tName 5) (M.pure true) (fCall [] F_counts_ahead 5 (consA (shareO (takeS 0)) (consA (shareO (takeS 5)) (consA (shareO (takeS 1)) (consA (shareO (takeS 3)) (consA (shareO (takeS 4)) (nilA))))))) ((List.range (nBl ns.length b)).map fun k : Nat => D.int (0 + (k : Nat) * (b : Int))) [] [.val (.lst (ns.map D.int)), .val (.int (sz : Int)), .val (.int (b : Int)), .val (.int (w : Int)), .val (far f), .un] =
      .ok ((List.range (nBl ns.length b)).map fun k : Nat => outD (sliceF ns (k * b) f) sz w) [.val (.lst (ns.map D.int)), .val (.int (sz : Int)), .val (.int (b : Int)), .val (.int (w : Int)), .val (far f), .un] := by
  refine lc_mapF (fun k : Nat => D.int (0 + (k : Nat) * (b : Int))) (fun k : Nat => outD (sliceF ns (k * b) f) sz w) rfl (fun k hk => ?_) ?_
  · have hk' := nBl_lt hb (List.mem_range.mp hk)
    refine ⟨[.val (.lst (ns.map D.int)), .val (.int (sz : Int)), .val (.int (b : Int)), .val (.int (w : Int)), .val (far f), .val (.int (0 + (k : Nat) * (b : Int)))], [.val (.lst (ns.map D.int)), .val (.int (sz : Int)), .val (.int (b : Int)), .val (.int (w : Int)), .val (far f), .val (.int (0 + (k : Nat) * (b : Int)))], [.val (.lst (ns.map D.int)), .val (.int (sz : Int)), .val (.int (b : Int)), .val (.int (w : Int)), .val (far f), .val (.int (0 + (k : Nat) * (b : Int)))], true, rfl, rfl, cb_turn ?_, rfl⟩
    have e : (0 + (k : Nat) * (b : Int)) = ((k * b : Nat) : Int) := by rw [Int.zero_add]; norm_cast
    rw [e]
    exact ahead_i f hn h1 h2 hl (by omega) w1 w2
  · rw [List.length_range]
    have := nBl_le (m := ns.length) hb
    unfold sizeD
    omega
theorem cb_begins {ns : List Int} {sz b w : Nat} {f : Option Nat} {ds : List D} (r : F_begins [.val (.int (ns.length : Int)), .val (.int (b : Int))] = .ok ⟨.lst ds, true⟩ [.un, .un]) :
    fIter listD (fCall [] F_begins 2 (consA (shareO (fB lenD (consA (nameO 0) (nilA)))) (consA (shareO (takeS 2)) (nilA)))) [.val (.lst (ns.map D.int)), .val (.int (sz : Int)), .val (.int (b : Int)), .val (.int (w : Int)), .val (far f), .un] = .ok ds [.val (.lst (ns.map D.int)), .val (.int (sz : Int)), .val (.int (b : Int)), .val (.int (w : Int)), .val (far f), .un] := by
  simp [r, listD]
theorem blocks_run {ns : List Int} {sz b w : Nat} (f : Option Nat) (hn : ∀ n ∈ ns, 0 ≤ n ∧ n < (sz : Int)) (h1 : 1 ≤ sz) (h2 : sz ≤ 256) (hl : ns.length ≤ 10000) (hb : 0 < b) (hb2 : b < 2 ^ 29) (w1 : 1 ≤ w) (w2 : w ≤ 12) :
    F_counts_of_blocks [.val (.lst (ns.map D.int)), .val (.int (sz : Int)), .val (.int (b : Int)), .val (.int (w : Int)), .val (far f)] = .ok ⟨.lst ((List.range (nBl ns.length b)).map fun k : Nat => outD (sliceF ns (k * b) f) sz w), true⟩ [.un, .un, .un, .un, .un] := by
  have e1 := cb_begins (ns := ns) (sz := sz) (w := w) (f := f) (begins_i (m := ns.length) hb hb2 (by omega))
  have e2 := cb_list f hn h1 h2 hl hb w1 w2
  have e3 : fLc (fIter listD (fCall [] F_begins 2 (consA (shareO (fB lenD (consA (nameO 0) (nilA)))) (consA (shareO (takeS 2)) (nilA))))) [5] (tName 5) (M.pure true) (fCall [] F_counts_ahead 5 (consA (shareO (takeS 0)) (consA (shareO (takeS 5)) (consA (shareO (takeS 1)) (consA (shareO (takeS 3)) (consA (shareO (takeS 4)) (nilA))))))) [.val (.lst (ns.map D.int)), .val (.int (sz : Int)), .val (.int (b : Int)), .val (.int (w : Int)), .val (far f), .un] =
      .ok ⟨.lst ((List.range (nBl ns.length b)).map fun k : Nat => outD (sliceF ns (k * b) f) sz w), true⟩ [.val (.lst (ns.map D.int)), .val (.int (sz : Int)), .val (.int (b : Int)), .val (.int (w : Int)), .val (far f), .un] := by
    rw [r_fLc, e1, r_bok', if_pos (by simp)]
    unfold rngC
    rw [e2]
    rfl
  exact body_ret (fx := []) (n := 5) (N := 6) (fb := B_counts_of_blocks) (ret_ok e3)
end K68
set_option Elab.async false
set_option linter.all false
set_option maxRecDepth 100000
set_option maxHeartbeats 400000
namespace K68
open PySem PySem.Spec PyProof.Rows L2 DL
theorem drop_ok {f : M R} {ρ ρ1 : List S} {r : R} (h : f ρ = .ok r ρ1) : sDrop f ρ = .ok .next ρ1 := by
  rw [r_sDrop, h]
  rfl
/-- a call by values alone -/
theorem callv_ok {F : M R} {fs : M (List O)} {n : Nat} {ρ : List S} {ds : List D} {r : R} {ss : List S} (h : fs ρ = .ok (ds.map O.v) ρ) (hn : ds.length = n) (hF : F (ds.map S.val) = .ok r ss) (hs : ss.length = ds.length) : fCall [] F n fs ρ = .ok r ρ := by
  have a1 : ∀ ds : List D, argSs ρ (ds.map O.v) = some (ds.map S.val) := by
    intro ds
    induction ds with
    | nil => rfl
    | cons d ds ih => rw [List.map_cons, r_argSs1, r_argSv, ih]; rfl
  have a2 : ∀ ds : List D, lent (ds.map O.v) = [] := by
    intro ds
    induction ds with
    | nil => rfl
    | cons d ds ih => rw [List.map_cons, r_lentv, ih]
  have a3 : ∀ (ds : List D) (k : Nat), lentOk [] k (ds.map O.v) = true := by
    intro ds
    induction ds with
    | nil => intro k; rfl
    | cons d ds ih => intro k; rw [List.map_cons, r_lokv, ih]
  have a4 : ∀ (ds : List D) (ss : List S), ss.length = ds.length → backO ρ (ds.map O.v) ss = ρ := by
    intro ds
    induction ds with
    | nil => intro ss _; rw [List.map_nil, r_back0]
    | cons d ds ih =>
      intro ss h
      cases ss with
      | nil => cases h
      | cons s ss => rw [List.map_cons, r_backv, ih ss (by simpa using h)]
  rw [r_fCall, h]
  show gd (decide ((ds.map O.v).length = n)) (callM [] F (ds.map O.v)) ρ = _
  rw [decide_eq_true (by rw [List.length_map]; exact hn)]
  show callM [] F (ds.map O.v) ρ = _
  rw [r_callM, a1]
  simp only
  rw [a2, a3, if_pos ⟨rfl, rfl⟩, hF]
  simp only
  rw [a4 ds ss hs]
theorem adapt_run {ns : List Int} {sz b w : Nat} (f : Option Nat) (hn : ∀ n ∈ ns, 0 ≤ n ∧ n < (sz : Int)) (h1 : 2 ≤ sz) (h2 : sz ≤ 256) (hl : ns.length ≤ 10000) (hb : 0 < b) (hb2 : b ≤ 10000) (w1 : 1 ≤ w) (w2 : w ≤ 12) (hs : (sz : Int) ≤ 2 ^ w) (hf : ∀ v, f = some v → v ≤ 10000)
    (hk : ((ns.length : Int) + (b : Int) - 1) / (b : Int) * 2 ^ w ≤ 200000) :
    F_adaptive_counts [.val (.lst (ns.map D.int)), .val (.int (sz : Int)), .val (.int (b : Int)), .val (.int (w : Int)), .val (far f)] = .ok ⟨.lst ((List.range (nBl ns.length b)).map fun k : Nat => outD (sliceF ns (k * b) f) sz w), true⟩ [.un, .un, .un, .un, .un] := by
  have c1 := small_i (ns := ns) (sz := (sz : Int)) hn hl (by omega) (by omega)
  have c2 := blocks_i (b := (b : Int)) (w := (w : Int)) (f := far f) (by omega) (by omega) (by omega) (by omega) (by
    cases f with
    | none => exact .inl rfl
    | some v => exact .inr ⟨(v : Int), rfl, by omega, by have := hf v rfl; omega⟩)
  have c3 := limits_i (m := (ns.length : Int)) (sz := (sz : Int)) (b := (b : Int)) (w := (w : Int)) (by rw [Int.toNat_natCast]; exact hs) (by omega) (by omega) (by omega) (by omega) (by omega) (by omega) (by rw [Int.toNat_natCast]; exact hk)
  have c4 := blocks_run f hn (by omega) h2 hl hb (by omega) w1 w2
  have s1 : fCall [] F_check_small 2 (consA (shareO (takeS 0)) (consA (shareO (takeS 1)) (nilA))) [.val (.lst (ns.map D.int)), .val (.int (sz : Int)), .val (.int (b : Int)), .val (.int (w : Int)), .val (far f)] = .ok ⟨.non, false⟩ [.val (.lst (ns.map D.int)), .val (.int (sz : Int)), .val (.int (b : Int)), .val (.int (w : Int)), .val (far f)] := callv_ok (ds := [.lst (ns.map D.int), .int (sz : Int)]) rfl rfl c1 rfl
  have s2 : fCall [] F_check_blocks 3 (consA (shareO (takeS 2)) (consA (shareO (takeS 3)) (consA (shareO (takeS 4)) (nilA)))) [.val (.lst (ns.map D.int)), .val (.int (sz : Int)), .val (.int (b : Int)), .val (.int (w : Int)), .val (far f)] = .ok ⟨.non, false⟩ [.val (.lst (ns.map D.int)), .val (.int (sz : Int)), .val (.int (b : Int)), .val (.int (w : Int)), .val (far f)] := callv_ok (ds := [.int (b : Int), .int (w : Int), far f]) rfl rfl c2 rfl
  have ln : fB lenD (consA (nameO 0) (nilA)) [.val (.lst (ns.map D.int)), .val (.int (sz : Int)), .val (.int (b : Int)), .val (.int (w : Int)), .val (far f)] = .ok ⟨.int (ns.length : Int), false⟩ [.val (.lst (ns.map D.int)), .val (.int (sz : Int)), .val (.int (b : Int)), .val (.int (w : Int)), .val (far f)] := by simp
  have s3 : fCall [] F_check_limits 4 (consA (shareO (fB lenD (consA (nameO 0) (nilA)))) (consA (shareO (takeS 1)) (consA (shareO (takeS 2)) (consA (shareO (takeS 3)) (nilA))))) [.val (.lst (ns.map D.int)), .val (.int (sz : Int)), .val (.int (b : Int)), .val (.int (w : Int)), .val (far f)] = .ok ⟨.non, false⟩ [.val (.lst (ns.map D.int)), .val (.int (sz : Int)), .val (.int (b : Int)), .val (.int (w : Int)), .val (far f)] :=
    callv_ok (ds := [.int (ns.length : Int), .int (sz : Int), .int (b : Int), .int (w : Int)]) (by rw [r_consA, r_shareO, ln]; rfl) rfl c3 rfl
  have s4 : fCall [] F_counts_of_blocks 5 (consA (shareO (takeS 0)) (consA (shareO (takeS 1)) (consA (shareO (takeS 2)) (consA (shareO (takeS 3)) (consA (shareO (takeS 4)) (nilA)))))) [.val (.lst (ns.map D.int)), .val (.int (sz : Int)), .val (.int (b : Int)), .val (.int (w : Int)), .val (far f)] = .ok ⟨.lst ((List.range (nBl ns.length b)).map fun k : Nat => outD (sliceF ns (k * b) f) sz w), true⟩ [.val (.lst (ns.map D.int)), .val (.int (sz : Int)), .val (.int (b : Int)), .val (.int (w : Int)), .val (far f)] :=
    callv_ok (ds := [.lst (ns.map D.int), .int (sz : Int), .int (b : Int), .int (w : Int), far f]) rfl rfl c4 rfl
  exact body_ret (fx := []) (n := 5) (N := 5) (fb := B_adaptive_counts) (seq_ok (drop_ok s1) (seq_ok (drop_ok s2) (seq_ok (drop_ok s3) (ret_ok s4))))
end K68
set_option Elab.async false
set_option linter.all false
set_option maxRecDepth 100000
set_option maxHeartbeats 400000
namespace K68
open PySem PySem.Spec PyProof.Rows L2 DL
theorem if_ok {c : M Bool} {a b : M Fl} {ρ ρ1 : List S} {x : Res Fl} (hc : c ρ = .ok true ρ1) (h : a ρ1 = x) : sIf c a b ρ = x := by
  rw [r_sIf, hc]
  exact h
theorem if_no {c : M Bool} {a b : M Fl} {ρ ρ1 : List S} {x : Res Fl} (hc : c ρ = .ok false ρ1) (h : b ρ1 = x) : sIf c a b ρ = x := by
  rw [r_sIf, hc]
  exact h
/-- the due rows of the first i places -/
noncomputable def dueL (ns : List Int) (sz b w : Nat) (f : Option Nat) (i : Nat) : List D := ((List.range i).filter fun k => k % b = 0).map fun k => outD (sliceF ns k f) sz w
theorem dueL_all {ns : List Int} {sz b w : Nat} {f : Option Nat} (hb : 0 < b) (m : Nat) : dueL ns sz b w f m = (List.range (nBl m b)).map fun k : Nat => outD (sliceF ns (k * b) f) sz w := by
  unfold dueL
  rw [filt hb, List.map_map]
  rfl
theorem due_test {ns : List Int} {b k : Nat} {s1 s3 s4 s5 s6 s8 s9 s10 : S} (hb : 0 < b) (h5 : s5 ≠ .un) : boolR (fBin eqD (shareO (fBin modD (shareO (fB intD1 (consA (nameO 7) (nilA)))) (nameO 2))) (shareO (cst (.int 0)))) [.val (.lst (ns.map D.int)), s1, .val (.int (b : Int)), s3, s4, s5, s6, .val (.int (k : Int)), s8, s9, s10] =
    .ok (decide (k % b = 0)) [.val (.lst (ns.map D.int)), s1, .val (.int (b : Int)), s3, s4, s5, s6, .val (.int (k : Int)), s8, s9, s10] := by
  have e : ((k : Int) % (b : Int) = 0) = (k % b = 0) := by
    apply propext
    constructor
    · intro h; omega
    · intro h; omega
  simp [d_mod (show (0 : Int) < (b : Int) by omega), e]
theorem due_loop {ns : List Int} {sz b w : Nat} (f : Option Nat) (h1 : 1 ≤ sz) (h2 : sz ≤ 256) (hl : ns.length ≤ 10000) (hb : 0 < b) (w1 : 1 ≤ w) (w2 : w ≤ 12) (hs : (sz : Int) ≤ 2 ^ w) :
    ∃ s7, loopL (tName 7) (sIf (boolR (fBin eqD (shareO (fBin modD (shareO (fB intD1 (consA (nameO 7) (nilA)))) (nameO 2))) (shareO (cst (.int 0))))) (sDrop (fMut "list" appD 5 (consA (shareO (fCall [] F__law_counts 5 (consA (shareO (takeS 0)) (consA (shareO (takeS 7)) (consA (shareO (takeS 1)) (consA (shareO (takeS 3)) (consA (shareO (takeS 4)) (nilA)))))))) (nilA)))) (sNext)) (rngD 0 ns.length)
      [.val (.lst (ns.map D.int)), .val (.int (sz : Int)), .val (.int (b : Int)), .val (.int (w : Int)), .val (far f), .own (.lst []), .own (.lst (ns.map D.int)), .un, .un, .un, .un] =
      .ok .next [.val (.lst (ns.map D.int)), .val (.int (sz : Int)), .val (.int (b : Int)), .val (.int (w : Int)), .val (far f), .own (.lst (dueL ns sz b w f ns.length)), .own (.lst (ns.map D.int)), s7, .un, .un, .un] := by
  obtain ⟨ρ', k1, k2⟩ := loop_inv (ft := tName 7) (fb := sIf (boolR (fBin eqD (shareO (fBin modD (shareO (fB intD1 (consA (nameO 7) (nilA)))) (nameO 2))) (shareO (cst (.int 0))))) (sDrop (fMut "list" appD 5 (consA (shareO (fCall [] F__law_counts 5 (consA (shareO (takeS 0)) (consA (shareO (takeS 7)) (consA (shareO (takeS 1)) (consA (shareO (takeS 3)) (consA (shareO (takeS 4)) (nilA)))))))) (nilA)))) (sNext))
    (fun i ρ => ∃ s7, ρ = [.val (.lst (ns.map D.int)), .val (.int (sz : Int)), .val (.int (b : Int)), .val (.int (w : Int)), .val (far f), .own (.lst (dueL ns sz b w f i)), .own (.lst (ns.map D.int)), s7, .un, .un, .un]) (ds := rngD 0 ns.length) (fun i d ρ hd ⟨s7, er⟩ => by
      subst er
      obtain ⟨hi, rfl⟩ := rngD_get hd
      rw [Int.zero_add]
      have t := due_test (ns := ns) (k := i) (s1 := .val (.int (sz : Int))) (s3 := .val (.int (w : Int))) (s4 := .val (far f)) (s5 := .own (.lst (dueL ns sz b w f i))) (s6 := .own (.lst (ns.map D.int))) (s8 := .un) (s9 := .un) (s10 := .un) hb (by intro z; cases z)
      by_cases c : i % b = 0
      · have ed : dueL ns sz b w f (i + 1) = dueL ns sz b w f i ++ [outD (sliceF ns i f) sz w] := by
          unfold dueL
          rw [List.range_succ, List.filter_append, List.map_append]
          simp [c]
        have cc : fCall [] F__law_counts 5 (consA (shareO (takeS 0)) (consA (shareO (takeS 7)) (consA (shareO (takeS 1)) (consA (shareO (takeS 3)) (consA (shareO (takeS 4)) (nilA)))))) [.val (.lst (ns.map D.int)), .val (.int (sz : Int)), .val (.int (b : Int)), .val (.int (w : Int)), .val (far f), .own (.lst (dueL ns sz b w f i)), .own (.lst (ns.map D.int)), .val (.int (i : Int)), .un, .un, .un] = .ok ⟨outD (sliceF ns i f) sz w, true⟩ [.val (.lst (ns.map D.int)), .val (.int (sz : Int)), .val (.int (b : Int)), .val (.int (w : Int)), .val (far f), .own (.lst (dueL ns sz b w f i)), .own (.lst (ns.map D.int)), .val (.int (i : Int)), .un, .un, .un] :=
          callv_ok (ds := [.lst (ns.map D.int), .int (i : Int), .int (sz : Int), .int (w : Int), far f]) rfl rfl (counts_i f h1 h2 hl (by omega) w1 w2 hs) rfl
        have dl : (dueL ns sz b w f i).length < sizeD := by
          unfold dueL sizeD
          rw [List.length_map]
          have := List.length_filter_le (fun k => decide (k % b = 0)) (List.range i)
          rw [List.length_range] at this
          omega
        have ea : appD (.lst (dueL ns sz b w f i)) [outD (sliceF ns i f) sz w] = some (.lst (dueL ns sz b w f (i + 1)), .non) := by
          rw [ed]
          exact if_pos dl
        refine ⟨[.val (.lst (ns.map D.int)), .val (.int (sz : Int)), .val (.int (b : Int)), .val (.int (w : Int)), .val (far f), .own (.lst (dueL ns sz b w f i)), .own (.lst (ns.map D.int)), .val (.int (i : Int)), .un, .un, .un], [.val (.lst (ns.map D.int)), .val (.int (sz : Int)), .val (.int (b : Int)), .val (.int (w : Int)), .val (far f), .own (.lst (dueL ns sz b w f (i + 1))), .own (.lst (ns.map D.int)), .val (.int (i : Int)), .un, .un, .un], by simp, ?_, _, rfl⟩
        refine if_ok (by rw [t, decide_eq_true c]) ?_
        refine drop_ok (r := ⟨.non, false⟩) ?_
        rw [r_fMut]
        simp only [r_chkT, r_resOr, List.getElem?_cons_succ, List.getElem?_cons_zero, d_tyl, r_gdt, r_pure, r_bok, r_bok', r_bind, r_consA, r_shareO, cc, r_nilA, r_mutS, r_vals1, r_vals0, Option.map_some, ea]
        rfl
      · have ed : dueL ns sz b w f (i + 1) = dueL ns sz b w f i := by
          unfold dueL
          rw [List.range_succ, List.filter_append, List.map_append]
          simp [c]
        refine ⟨[.val (.lst (ns.map D.int)), .val (.int (sz : Int)), .val (.int (b : Int)), .val (.int (w : Int)), .val (far f), .own (.lst (dueL ns sz b w f i)), .own (.lst (ns.map D.int)), .val (.int (i : Int)), .un, .un, .un], [.val (.lst (ns.map D.int)), .val (.int (sz : Int)), .val (.int (b : Int)), .val (.int (w : Int)), .val (far f), .own (.lst (dueL ns sz b w f (i + 1))), .own (.lst (ns.map D.int)), .val (.int (i : Int)), .un, .un, .un], by simp, ?_, _, rfl⟩
        refine if_no (by rw [t, decide_eq_false c]) ?_
        rw [r_sNext, ed])
    (ρ := [.val (.lst (ns.map D.int)), .val (.int (sz : Int)), .val (.int (b : Int)), .val (.int (w : Int)), .val (far f), .own (.lst []), .own (.lst (ns.map D.int)), .un, .un, .un, .un]) ⟨_, rfl⟩
  obtain ⟨s7, rfl⟩ := k2
  rw [rngD_length] at k1
  exact ⟨s7, k1⟩
end K68
set_option Elab.async false
set_option linter.all false
set_option maxRecDepth 100000
set_option maxHeartbeats 400000
namespace K68
open PySem PySem.Spec PyProof.Rows L2 DL
theorem outD_fine (sl : List Int) (sz w : Nat) : fine 2 (outD sl sz w) = true := by
  unfold outD
  refine fine_lst fun d hd => ?_
  obtain ⟨p, _, rfl⟩ := List.mem_map.mp hd
  exact fine_tup (by simp)
noncomputable def outL (ns : List Int) (sz b w : Nat) (f : Option Nat) : List D := (List.range (nBl ns.length b)).map fun k : Nat => outD (sliceF ns (k * b) f) sz w
theorem outL_fine (ns : List Int) (sz b w : Nat) (f : Option Nat) : fine 3 (.lst (outL ns sz b w f)) = true := fine_lst fun d hd => by
  obtain ⟨k, _, rfl⟩ := List.mem_map.mp hd
  exact outD_fine _ _ _
theorem slice0 (ns : List Int) (a : Nat) : sliceF ns a (some 0) = [] := by
  unfold sliceF
  exact List.drop_eq_nil_of_le (by rw [List.length_take]; show min a ns.length ≤ a - 0; omega)
theorem sliceA (ns : List Int) (f : Option Nat) : sliceF ns 0 f = [] := by
  unfold sliceF
  rw [List.take_zero, List.drop_nil]
theorem outL0 (ns : List Int) (sz b w : Nat) : outL ns sz b w (some 0) = List.replicate (nBl ns.length b) (outD [] sz w) := by
  unfold outL
  rw [List.eq_replicate_iff]
  refine ⟨by simp, fun d hd => ?_⟩
  obtain ⟨k, _, rfl⟩ := List.mem_map.mp hd
  rw [slice0]
/-- due[:1] * len(due) -/
theorem due1 (ns : List Int) (sz b w : Nat) (f : Option Nat) : (List.replicate (outL ns sz b w f).length ((outL ns sz b w f).take 1)).flatten = outL ns sz b w (some 0) := by
  rw [outL0]
  have hl : (outL ns sz b w f).length = nBl ns.length b := by unfold outL; simp
  rw [hl]
  cases e : nBl ns.length b with
  | zero => simp
  | succ n =>
    have h1 : (outL ns sz b w f).take 1 = [outD [] sz w] := by
      unfold outL
      rw [e, List.range_succ_eq_map, List.map_cons, List.take_succ_cons, List.take_zero, Nat.zero_mul, sliceA]
    rw [h1]
    rw [List.eq_replicate_iff]
    refine ⟨by simp, fun d hd => ?_⟩
    obtain ⟨l, hl1, hl2⟩ := List.mem_flatten.mp hd
    rw [List.eq_of_mem_replicate hl1] at hl2
    exact List.mem_singleton.mp hl2
theorem nBl_one (m : Nat) : nBl m (m + 1) = if m = 0 then 0 else 1 := by
  unfold nBl
  by_cases c : m = 0
  · subst c; rfl
  · rw [if_neg c]
    have e : m + (m + 1) - 1 = (m - 1) + (m + 1) := by omega
    rw [e, Nat.add_div_right _ (Nat.succ_pos m), Nat.div_eq_of_lt (by omega)]
theorem outL_one (ns : List Int) (sz b w : Nat) (hb : 0 < b) (f : Option Nat) : outL ns sz (ns.length + 1) w f = (outL ns sz b w f).take 1 := by
  unfold outL
  rw [nBl_one]
  by_cases c : ns.length = 0
  · rw [if_pos c]
    have : nBl ns.length b = 0 := by rw [c]; unfold nBl; exact Nat.div_eq_of_lt (by omega)
    rw [this]; rfl
  · rw [if_neg c]
    have : 1 ≤ nBl ns.length b := by
      unfold nBl
      rw [Nat.le_div_iff_mul_le hb]
      omega
    obtain ⟨n, hn⟩ : ∃ n, nBl ns.length b = n + 1 := ⟨nBl ns.length b - 1, by omega⟩
    rw [hn, List.range_succ_eq_map (n := n), List.map_cons, List.take_succ_cons, List.take_zero, Nat.zero_mul, sliceA]
    show [outD (sliceF ns (0 * (ns.length + 1)) f) sz w] = _
    rw [Nat.zero_mul, sliceA]
end K68
set_option Elab.async false
set_option linter.all false
set_option maxRecDepth 100000
set_option maxHeartbeats 400000
namespace K68
open PySem PySem.Spec PyProof.Rows L2 DL
theorem callM_v {F : M R} {ρ : List S} {ds : List D} {r : R} {ss : List S} (hF : F (ds.map S.val) = .ok r ss) (hs : ss.length = ds.length) : callM [] F (ds.map O.v) ρ = .ok r ρ := by
  have h : gd (decide ((ds.map O.v).length = ds.length)) (callM [] F (ds.map O.v)) ρ = .ok r ρ := callv_ok (F := F) (fs := fun ρ => .ok (ds.map O.v) ρ) (n := ds.length) (ρ := ρ) (ds := ds) rfl rfl hF hs
  rw [decide_eq_true (by rw [List.length_map])] at h
  exact h
/-- a call with defaults and keywords, by values alone -/
theorem callk_ok {F : M R} {fs fk : M (List O)} {n m : Nat} {spec : List (Nat × Nat)} {dd : List D} {ρ : List S} {os zs : List O} {ds : List D} {r : R} {ss : List S} (h : fs ρ = .ok os ρ) (hk : fk ρ = .ok zs ρ) (hn : os.length = n) (hm : zs.length = m) (ha : arr spec os (dd.map O.v) zs = ds.map O.v) (hF : F (ds.map S.val) = .ok r ss) (hs : ss.length = ds.length) :
    fCallK [] F n m spec dd fs fk ρ = .ok r ρ := by
  rw [r_fCallK, h, r_bok, r_bind, hk, r_bok, ha, decide_eq_true hn, decide_eq_true hm]
  exact callM_v hF hs
abbrev st0 (ns : List Int) (sz b w : Nat) (f : Option Nat) : List S := [.val (.lst (ns.map D.int)), .val (.int (sz : Int)), .val (.int (b : Int)), .val (.int (w : Int)), .val (far f), .un, .un, .un, .un, .un, .un]
/-- the first two statements of _law_right -/
theorem right_1 {ns : List Int} {sz b w : Nat} (f : Option Nat) (h1 : 1 ≤ sz) (h2 : sz ≤ 256) (hl : ns.length ≤ 10000) (hb : 0 < b) (w1 : 1 ≤ w) (w2 : w ≤ 12) (hs : (sz : Int) ≤ 2 ^ w) :
    ∃ s7, sFor (fRng1 (consA (shareO (fB lenD (consA (nameO 0) (nilA)))) (nilA))) (tName 7) (sIf (boolR (fBin eqD (shareO (fBin modD (shareO (fB intD1 (consA (nameO 7) (nilA)))) (nameO 2))) (shareO (cst (.int 0))))) (sDrop (fMut "list" appD 5 (consA (shareO (fCall [] F__law_counts 5 (consA (shareO (takeS 0)) (consA (shareO (takeS 7)) (consA (shareO (takeS 1)) (consA (shareO (takeS 3)) (consA (shareO (takeS 4)) (nilA)))))))) (nilA)))) (sNext))
      [.val (.lst (ns.map D.int)), .val (.int (sz : Int)), .val (.int (b : Int)), .val (.int (w : Int)), .val (far f), .own (.lst []), .own (.lst (ns.map D.int)), .un, .un, .un, .un] =
      .ok .next [.val (.lst (ns.map D.int)), .val (.int (sz : Int)), .val (.int (b : Int)), .val (.int (w : Int)), .val (far f), .own (.lst (outL ns sz b w f)), .own (.lst (ns.map D.int)), s7, .un, .un, .un] := by
  obtain ⟨s7, h⟩ := due_loop f h1 h2 hl hb w1 w2 hs
  refine ⟨s7, ?_⟩
  have e : dueL ns sz b w f ns.length = outL ns sz b w f := dueL_all hb _
  rw [e] at h
  have z := run_rng1 (fs := consA (shareO (fB lenD (consA (nameO 0) (nilA)))) (nilA)) (ρ := [.val (.lst (ns.map D.int)), .val (.int (sz : Int)), .val (.int (b : Int)), .val (.int (w : Int)), .val (far f), .own (.lst []), .own (.lst (ns.map D.int)), .un, .un, .un, .un]) (ρ' := [.val (.lst (ns.map D.int)), .val (.int (sz : Int)), .val (.int (b : Int)), .val (.int (w : Int)), .val (far f), .own (.lst []), .own (.lst (ns.map D.int)), .un, .un, .un, .un]) (j := (ns.length : Int)) (by simp) (in62_nat (by omega))
  rw [Int.toNat_natCast] at z
  rw [r_sFor, z, r_bok]
  exact h
theorem right_0 {ns : List Int} {sz b w : Nat} (f : Option Nat) : sPar 5 6 (fDisp .lst (nilA)) (fB listD1 (consA (nameO 0) (nilA))) (st0 ns sz b w f) = .ok .next [.val (.lst (ns.map D.int)), .val (.int (sz : Int)), .val (.int (b : Int)), .val (.int (w : Int)), .val (far f), .own (.lst []), .own (.lst (ns.map D.int)), .un, .un, .un, .un] := by
  rfl
end K68
set_option Elab.async false
set_option linter.all false
set_option maxRecDepth 100000
set_option maxHeartbeats 400000
namespace K68
open PySem PySem.Spec PyProof.Rows L2 DL
/-- what _law_right is asked at -/
structure Ask (ns : List Int) (sz b w : Nat) (f : Option Nat) : Prop where
  mem : ∀ n ∈ ns, 0 ≤ n ∧ n < (sz : Int)
  sz1 : 2 ≤ sz
  sz2 : sz ≤ 256
  len : ns.length ≤ 9999
  b1 : 0 < b
  b2 : b ≤ 10000
  w1 : 1 ≤ w
  w2 : w ≤ 12
  fit : (sz : Int) ≤ 2 ^ w
  far : ∀ v, f = some v → v ≤ 10000
  work : ((ns.length : Int) + (b : Int) - 1) / (b : Int) * 2 ^ w ≤ 200000
theorem Ask.run {ns : List Int} {sz b w : Nat} {f : Option Nat} (A : Ask ns sz b w f) : F_adaptive_counts [.val (.lst (ns.map D.int)), .val (.int (sz : Int)), .val (.int (b : Int)), .val (.int (w : Int)), .val (K68.far f)] = .ok ⟨.lst (outL ns sz b w f), true⟩ [.un, .un, .un, .un, .un] :=
  adapt_run f A.mem A.sz1 A.sz2 (by have := A.len; omega) A.b1 A.b2 A.w1 A.w2 A.fit A.far A.work
section
variable {ns : List Int} {sz b w : Nat} {f : Option Nat} {τ : List S}
theorem call_5 (A : Ask ns sz b w f) : fCallK [] F_adaptive_counts 5 0 [(0, 0), (0, 1), (0, 2), (0, 3), (0, 4)] [.non] (consA (shareO (takeS 0)) (consA (shareO (takeS 1)) (consA (shareO (takeS 2)) (consA (shareO (takeS 3)) (consA (shareO (takeS 4)) (nilA)))))) (nilA)
    (.val (.lst (ns.map D.int)) :: .val (.int (sz : Int)) :: .val (.int (b : Int)) :: .val (.int (w : Int)) :: .val (K68.far f) :: τ) = .ok ⟨.lst (outL ns sz b w f), true⟩ (.val (.lst (ns.map D.int)) :: .val (.int (sz : Int)) :: .val (.int (b : Int)) :: .val (.int (w : Int)) :: .val (K68.far f) :: τ) :=
  callk_ok (os := [.v (.lst (ns.map D.int)), .v (.int (sz : Int)), .v (.int (b : Int)), .v (.int (w : Int)), .v (K68.far f)]) (zs := []) (ds := [.lst (ns.map D.int), .int (sz : Int), .int (b : Int), .int (w : Int), K68.far f]) rfl rfl rfl rfl rfl A.run rfl
theorem call_0 (A : Ask ns sz b w (some 0)) : fCallK [] F_adaptive_counts 5 0 [(0, 0), (0, 1), (0, 2), (0, 3), (0, 4)] [.non] (consA (shareO (takeS 0)) (consA (shareO (takeS 1)) (consA (shareO (takeS 2)) (consA (shareO (takeS 3)) (consA (shareO (cst (.int 0))) (nilA)))))) (nilA)
    (.val (.lst (ns.map D.int)) :: .val (.int (sz : Int)) :: .val (.int (b : Int)) :: .val (.int (w : Int)) :: τ) = .ok ⟨.lst (outL ns sz b w (some 0)), true⟩ (.val (.lst (ns.map D.int)) :: .val (.int (sz : Int)) :: .val (.int (b : Int)) :: .val (.int (w : Int)) :: τ) :=
  callk_ok (os := [.v (.lst (ns.map D.int)), .v (.int (sz : Int)), .v (.int (b : Int)), .v (.int (w : Int)), .v (.int 0)]) (zs := []) (ds := [.lst (ns.map D.int), .int (sz : Int), .int (b : Int), .int (w : Int), .int 0]) rfl rfl rfl rfl rfl A.run rfl
theorem call_d (A : Ask ns sz b w none) : fCallK [] F_adaptive_counts 4 0 [(0, 0), (0, 1), (0, 2), (0, 3), (1, 0)] [.non] (consA (shareO (takeS 0)) (consA (shareO (takeS 1)) (consA (shareO (takeS 2)) (consA (shareO (takeS 3)) (nilA))))) (nilA)
    (.val (.lst (ns.map D.int)) :: .val (.int (sz : Int)) :: .val (.int (b : Int)) :: .val (.int (w : Int)) :: τ) = .ok ⟨.lst (outL ns sz b w none), true⟩ (.val (.lst (ns.map D.int)) :: .val (.int (sz : Int)) :: .val (.int (b : Int)) :: .val (.int (w : Int)) :: τ) :=
  callk_ok (os := [.v (.lst (ns.map D.int)), .v (.int (sz : Int)), .v (.int (b : Int)), .v (.int (w : Int))]) (zs := []) (ds := [.lst (ns.map D.int), .int (sz : Int), .int (b : Int), .int (w : Int), .non]) rfl rfl rfl rfl rfl A.run rfl
theorem call_k (A : Ask ns sz b w f) : fCallK [] F_adaptive_counts 0 5 [(2, 4), (2, 3), (2, 2), (2, 1), (2, 0)] [.non] (nilA) (consA (shareO (takeS 4)) (consA (shareO (takeS 3)) (consA (shareO (takeS 2)) (consA (shareO (takeS 1)) (consA (shareO (takeS 0)) (nilA))))))
    (.val (.lst (ns.map D.int)) :: .val (.int (sz : Int)) :: .val (.int (b : Int)) :: .val (.int (w : Int)) :: .val (K68.far f) :: τ) = .ok ⟨.lst (outL ns sz b w f), true⟩ (.val (.lst (ns.map D.int)) :: .val (.int (sz : Int)) :: .val (.int (b : Int)) :: .val (.int (w : Int)) :: .val (K68.far f) :: τ) :=
  callk_ok (os := []) (zs := [.v (K68.far f), .v (.int (w : Int)), .v (.int (b : Int)), .v (.int (sz : Int)), .v (.lst (ns.map D.int))]) (ds := [.lst (ns.map D.int), .int (sz : Int), .int (b : Int), .int (w : Int), K68.far f]) rfl rfl rfl rfl rfl A.run rfl
end
end K68
set_option Elab.async false
set_option linter.all false
set_option maxRecDepth 100000
set_option maxHeartbeats 400000
namespace K68
open PySem PySem.Spec PyProof.Rows L2 DL
theorem outL_head {ns : List Int} {sz b w : Nat} (h1 : 1 ≤ sz) (h2 : sz ≤ 256) (w2 : w ≤ 12) : headOk (outL ns sz b w (some 0)) = true := by
  rw [outL0]
  cases e : nBl ns.length b with
  | zero => rfl
  | succ n =>
    have G := row_good (sl := []) h1 h2 (by simp)
    have hl := shq_len G (pow_pos' w) (pow_le w2)
    have lr : (row [] sz).length = sz := by unfold row; simp
    rw [List.replicate_succ]
    unfold outD
    cases q : shq (row [] sz) (2 ^ w) with
    | nil => rw [q, lr] at hl; simp at hl; omega
    | cons p ps => rfl
theorem ne_L (ns : List Int) (sz b w : Nat) (f : Option Nat) : neD (.lst (outL ns sz b w f)) (.lst (outL ns sz b w f)) = some ⟨.bl false, false⟩ := d_ne_self (outL_fine ns sz b w f) (by decide)
theorem eq_L (ns : List Int) (sz b w : Nat) (f : Option Nat) : eqD (.lst (outL ns sz b w f)) (.lst (outL ns sz b w f)) = some ⟨.bl true, false⟩ := d_eq_self (outL_fine ns sz b w f) (by decide)
theorem ne_I (ns : List Int) : neD (.lst (ns.map D.int)) (.lst (ns.map D.int)) = some ⟨.bl false, false⟩ := d_ne_self (n := 1) (fine_lst fun d hd => by
  obtain ⟨i, _, rfl⟩ := List.mem_map.mp hd
  exact fine_int 0 i) (by decide)
end K68
set_option Elab.async false
set_option linter.all false
set_option maxRecDepth 100000
set_option maxHeartbeats 400000
namespace K68
open PySem PySem.Spec PyProof.Rows L2 DL
abbrev bs (ns : List Int) (sz b w : Nat) (f : Option Nat) (τ : List S) : List S := .val (.lst (ns.map D.int)) :: .val (.int (sz : Int)) :: .val (.int (b : Int)) :: .val (.int (w : Int)) :: .val (far f) :: τ
section
variable {ns : List Int} {sz b w : Nat} {f : Option Nat} {s7 : S}
theorem right_3 (A : Ask ns sz b w f) : sSet 8 (fCallK [] F_adaptive_counts 5 0 [(0, 0), (0, 1), (0, 2), (0, 3), (0, 4)] [.non] (consA (shareO (takeS 0)) (consA (shareO (takeS 1)) (consA (shareO (takeS 2)) (consA (shareO (takeS 3)) (consA (shareO (takeS 4)) (nilA)))))) (nilA))
    (bs ns sz b w f [.own (.lst (outL ns sz b w f)), .own (.lst (ns.map D.int)), s7, .un, .un, .un]) = .ok .next (bs ns sz b w f [.own (.lst (outL ns sz b w f)), .own (.lst (ns.map D.int)), s7, .own (.lst (outL ns sz b w f)), .un, .un]) :=
  set_ok (call_5 A) (by simp)
theorem or_ff {a c : M Bool} {ρ : List S} (h1 : a ρ = .ok false ρ) (h2 : c ρ = .ok false ρ) : fOr a c ρ = .ok false ρ := by
  rw [r_fOr, h1]
  exact h2
theorem right_4 : sIf (fOr (boolR (fBin neD (nameO 8) (nameO 5))) (boolR (fBin neD (nameO 0) (nameO 6)))) (sRet (cst (.bl false))) (sNext)
    (bs ns sz b w f [.own (.lst (outL ns sz b w f)), .own (.lst (ns.map D.int)), s7, .own (.lst (outL ns sz b w f)), .un, .un]) = .ok .next (bs ns sz b w f [.own (.lst (outL ns sz b w f)), .own (.lst (ns.map D.int)), s7, .own (.lst (outL ns sz b w f)), .un, .un]) :=
  if_no (or_ff (by simp [ne_L]) (by simp [ne_I])) rfl
theorem right_5 (A : Ask ns sz b w f) : sIf (fAnd (boolR (fBin isND (nameO 4) (shareO (cst .non)))) (boolR (fBin neD (shareO (fCallK [] F_adaptive_counts 4 0 [(0, 0), (0, 1), (0, 2), (0, 3), (1, 0)] [.non] (consA (shareO (takeS 0)) (consA (shareO (takeS 1)) (consA (shareO (takeS 2)) (consA (shareO (takeS 3)) (nilA))))) (nilA))) (nameO 5)))) (sRet (cst (.bl false))) (sNext)
    (bs ns sz b w f [.own (.lst (outL ns sz b w f)), .own (.lst (ns.map D.int)), s7, .own (.lst (outL ns sz b w f)), .un, .un]) = .ok .next (bs ns sz b w f [.own (.lst (outL ns sz b w f)), .own (.lst (ns.map D.int)), s7, .own (.lst (outL ns sz b w f)), .un, .un]) := by
  refine if_no ?_ rfl
  cases f with
  | some v => simp [bs, far, isNonD]
  | none =>
    have h := call_d (τ := .val .non :: [.own (.lst (outL ns sz b w none)), .own (.lst (ns.map D.int)), s7, .own (.lst (outL ns sz b w none)), .un, .un]) A
    have h2 : boolR (fBin neD (shareO (fCallK [] F_adaptive_counts 4 0 [(0, 0), (0, 1), (0, 2), (0, 3), (1, 0)] [.non] (consA (shareO (takeS 0)) (consA (shareO (takeS 1)) (consA (shareO (takeS 2)) (consA (shareO (takeS 3)) (nilA))))) (nilA))) (nameO 5)) (bs ns sz b w none [.own (.lst (outL ns sz b w none)), .own (.lst (ns.map D.int)), s7, .own (.lst (outL ns sz b w none)), .un, .un]) = .ok false (bs ns sz b w none [.own (.lst (outL ns sz b w none)), .own (.lst (ns.map D.int)), s7, .own (.lst (outL ns sz b w none)), .un, .un]) := by
      rw [r_boolR, r_fBin, r_shareO, show bs ns sz b w none [.own (.lst (outL ns sz b w none)), .own (.lst (ns.map D.int)), s7, .own (.lst (outL ns sz b w none)), .un, .un] = .val (.lst (ns.map D.int)) :: .val (.int (sz : Int)) :: .val (.int (b : Int)) :: .val (.int (w : Int)) :: (.val .non :: [.own (.lst (outL ns sz b w none)), .own (.lst (ns.map D.int)), s7, .own (.lst (outL ns sz b w none)), .un, .un]) from rfl, h]
      simp [ne_L]
    rw [r_fAnd]
    show (Res.ok true _).bind _ = _
    exact h2
end
end K68
set_option Elab.async false
set_option linter.all false
set_option maxRecDepth 100000
set_option maxHeartbeats 400000
namespace K68
open PySem PySem.Spec PyProof.Rows L2 DL
section
variable {ns : List Int} {sz b w : Nat} {f : Option Nat} {s7 : S}
theorem right_6 (A : Ask ns sz b w f) : sDrop (fMut "list" appD 8 (consA (shareO (cst .non)) (nilA)))
    (bs ns sz b w f [.own (.lst (outL ns sz b w f)), .own (.lst (ns.map D.int)), s7, .own (.lst (outL ns sz b w f)), .un, .un]) = .ok .next (bs ns sz b w f [.own (.lst (outL ns sz b w f)), .own (.lst (ns.map D.int)), s7, .own (.lst (outL ns sz b w f ++ [.non])), .un, .un]) := by
  have hl : (outL ns sz b w f).length < sizeD := by
    unfold outL sizeD
    rw [List.length_map, List.length_range]
    have := nBl_le (m := ns.length) A.b1
    have := A.len
    omega
  have e : appD (.lst (outL ns sz b w f)) [.non] = some (.lst (outL ns sz b w f ++ [.non]), .non) := if_pos hl
  refine drop_ok (r := ⟨.non, false⟩) ?_
  simp [bs, e]
theorem right_7 (A : Ask ns sz b w f) : sIf (boolR (fBin neD (shareO (fCallK [] F_adaptive_counts 0 5 [(2, 4), (2, 3), (2, 2), (2, 1), (2, 0)] [.non] (nilA) (consA (shareO (takeS 4)) (consA (shareO (takeS 3)) (consA (shareO (takeS 2)) (consA (shareO (takeS 1)) (consA (shareO (takeS 0)) (nilA)))))))) (nameO 5))) (sRet (cst (.bl false))) (sNext)
    (bs ns sz b w f [.own (.lst (outL ns sz b w f)), .own (.lst (ns.map D.int)), s7, .own (.lst (outL ns sz b w f ++ [.non])), .un, .un]) = .ok .next (bs ns sz b w f [.own (.lst (outL ns sz b w f)), .own (.lst (ns.map D.int)), s7, .own (.lst (outL ns sz b w f ++ [.non])), .un, .un]) := by
  refine if_no ?_ rfl
  rw [r_boolR, r_fBin, r_shareO, call_k A]
  simp [ne_L]
end
end K68
set_option Elab.async false
set_option linter.all false
set_option maxRecDepth 100000
set_option maxHeartbeats 400000
namespace K68
open PySem PySem.Spec PyProof.Rows L2 DL
section
variable {ns : List Int} {sz b w : Nat} {f : Option Nat} {s7 s8 s9 s10 : S}
theorem cut1 (ds : List D) : cutL ds none (some 1) = ds.take 1 := cut_from0 ds 1 (by omega)
theorem mul_due (h : (outL ns sz b w f).length ≤ 10000) : mulD (.lst ((outL ns sz b w f).take 1)) (.int ((outL ns sz b w f).length : Int)) = some ⟨.lst (outL ns sz b w (some 0)), true⟩ := by
  have e := due1 ns sz b w f
  show (if ((outL ns sz b w f).take 1).length * ((outL ns sz b w f).length : Int).toNat ≤ sizeD ∧ -(2 ^ 63) ≤ ((outL ns sz b w f).length : Int) ∧ ((outL ns sz b w f).length : Int) < 2 ^ 63 then some (⟨.lst (List.replicate ((outL ns sz b w f).length : Int).toNat ((outL ns sz b w f).take 1)).flatten, true⟩ : R) else none) = _
  rw [Int.toNat_natCast, e]
  refine if_pos ⟨?_, by omega, by omega⟩
  have : ((outL ns sz b w f).take 1).length ≤ 1 := by rw [List.length_take]; omega
  have := Nat.mul_le_mul_right (outL ns sz b w f).length this
  unfold sizeD
  omega
theorem right_10 (A : Ask ns sz (ns.length + 1) w f) (hb : 0 < b) : sRet (fBin eqD (shareO (fCallK [] F_adaptive_counts 5 0 [(0, 0), (0, 1), (0, 2), (0, 3), (0, 4)] [.non] (consA (shareO (takeS 0)) (consA (shareO (takeS 1)) (consA (shareO (fBin addD (shareO (fB lenD (consA (nameO 0) (nilA)))) (shareO (cst (.int 1))))) (consA (shareO (takeS 3)) (consA (shareO (takeS 4)) (nilA)))))) (nilA))) (shareO (fSlice (nameO 5) (M.pure none) (partI (cst (.int 1))))))
    (bs ns sz b w f [.own (.lst (outL ns sz b w f)), .own (.lst (ns.map D.int)), s7, s8, s9, s10]) = .ok (.ret ⟨.bl true, false⟩) (bs ns sz b w f [.own (.lst (outL ns sz b w f)), .own (.lst (ns.map D.int)), s7, s8, s9, s10]) := by
  have c : fCallK [] F_adaptive_counts 5 0 [(0, 0), (0, 1), (0, 2), (0, 3), (0, 4)] [.non] (consA (shareO (takeS 0)) (consA (shareO (takeS 1)) (consA (shareO (fBin addD (shareO (fB lenD (consA (nameO 0) (nilA)))) (shareO (cst (.int 1))))) (consA (shareO (takeS 3)) (consA (shareO (takeS 4)) (nilA)))))) (nilA)
      (bs ns sz b w f [.own (.lst (outL ns sz b w f)), .own (.lst (ns.map D.int)), s7, s8, s9, s10]) = .ok ⟨.lst (outL ns sz (ns.length + 1) w f), true⟩ (bs ns sz b w f [.own (.lst (outL ns sz b w f)), .own (.lst (ns.map D.int)), s7, s8, s9, s10]) :=
    callk_ok (os := [.v (.lst (ns.map D.int)), .v (.int (sz : Int)), .v (.int ((ns.length + 1 : Nat) : Int)), .v (.int (w : Int)), .v (far f)]) (zs := []) (ds := [.lst (ns.map D.int), .int (sz : Int), .int ((ns.length + 1 : Nat) : Int), .int (w : Int), far f]) (by simp [bs]) rfl rfl rfl rfl A.run rfl
  refine ret_ok ?_
  rw [r_fBin, r_shareO, c]
  have e := outL_one ns sz b w hb f
  have q := eq_L ns sz (ns.length + 1) w f
  rw [e] at q ⊢
  simp [bs, cut1, q]
end
end K68
set_option Elab.async false
set_option linter.all false
set_option maxRecDepth 100000
set_option maxHeartbeats 400000
namespace K68
open PySem PySem.Spec PyProof.Rows L2 DL
section
variable {ns : List Int} {sz b w : Nat} {f : Option Nat} {s7 s8 s9 s10 : S}
theorem right_9 (A : Ask ns sz b w (some 0)) : sIf (boolR (fBin neD (shareO (fCallK [] F_adaptive_counts 5 0 [(0, 0), (0, 1), (0, 2), (0, 3), (0, 4)] [.non] (consA (shareO (takeS 0)) (consA (shareO (takeS 1)) (consA (shareO (takeS 2)) (consA (shareO (takeS 3)) (consA (shareO (cst (.int 0))) (nilA)))))) (nilA))) (shareO (fBin mulD (shareO (fSlice (nameO 5) (M.pure none) (partI (cst (.int 1))))) (shareO (fB lenD (consA (nameO 5) (nilA)))))))) (sRet (cst (.bl false))) (sNext)
    (bs ns sz b w f [.own (.lst (outL ns sz b w f)), .own (.lst (ns.map D.int)), s7, s8, s9, s10]) = .ok .next (bs ns sz b w f [.own (.lst (outL ns sz b w f)), .own (.lst (ns.map D.int)), s7, s8, s9, s10]) := by
  have hl : (outL ns sz b w f).length ≤ 10000 := by
    unfold outL
    rw [List.length_map, List.length_range]
    have := nBl_le (m := ns.length) A.b1
    have := A.len
    omega
  refine if_no ?_ rfl
  have c := call_0 (τ := .val (far f) :: [.own (.lst (outL ns sz b w f)), .own (.lst (ns.map D.int)), s7, s8, s9, s10]) A
  rw [r_boolR, r_fBin, r_shareO, show bs ns sz b w f [.own (.lst (outL ns sz b w f)), .own (.lst (ns.map D.int)), s7, s8, s9, s10] = .val (.lst (ns.map D.int)) :: .val (.int (sz : Int)) :: .val (.int (b : Int)) :: .val (.int (w : Int)) :: (.val (far f) :: [.own (.lst (outL ns sz b w f)), .own (.lst (ns.map D.int)), s7, s8, s9, s10]) from rfl, c]
  simp [cut1, mul_due hl, ne_L]
end
end K68
set_option Elab.async false
set_option linter.all false
set_option maxRecDepth 100000
set_option maxHeartbeats 400000
namespace K68
open PySem PySem.Spec PyProof.Rows L2 DL
section
variable {ns : List Int} {sz b w : Nat} {f : Option Nat} {s7 : S} {d8 : D}
theorem mask_0 : ∃ τ, maskA 0 (bs ns sz b w f [.own (.lst (outL ns sz b w f)), .own (.lst (ns.map D.int)), s7, .own d8, .un, .un]) = .val (.lst (ns.map D.int)) :: .val (.int (sz : Int)) :: .val (.int (b : Int)) :: .val (.int (w : Int)) :: τ := by
  have e : maskS true (.val (.lst (ns.map D.int))) = .val (.lst (ns.map D.int)) := by
    show (if true = true ∧ (intsD (ns.map D.int)).isSome = true then S.val (.lst (ns.map D.int)) else S.un) = _
    rw [intsD_map]
    rfl
  refine ⟨(maskA 0 (bs ns sz b w f [.own (.lst (outL ns sz b w f)), .own (.lst (ns.map D.int)), s7, .own d8, .un, .un])).drop 4, ?_⟩
  show maskS true (.val (.lst (ns.map D.int))) :: _ = _
  rw [e]
  rfl
theorem look_8 (A : Ask ns sz b w (some 0)) {τ : List S} {s10 s6 s8 : S} : sIf (boolR (fBin neD (nameO 9) (shareO (fBin mulD (shareO (fSlice (nameO 5) (M.pure none) (partI (cst (.int 1))))) (shareO (fB lenD (consA (nameO 5) (nilA)))))))) (sRet (cst (.bl false))) (sNext)
    (bs ns sz b w f [.val (.lst (outL ns sz b w f)), s6, s7, s8, .val (.lst (outL ns sz b w (some 0))), s10]) = .ok .next (bs ns sz b w f [.val (.lst (outL ns sz b w f)), s6, s7, s8, .val (.lst (outL ns sz b w (some 0))), s10]) := by
  have hl : (outL ns sz b w f).length ≤ 10000 := by
    unfold outL
    rw [List.length_map, List.length_range]
    have := nBl_le (m := ns.length) A.b1
    have := A.len
    omega
  refine if_no ?_ rfl
  simp [bs, cut1, mul_due hl, ne_L]
end
end K68
set_option Elab.async false
set_option linter.all false
set_option maxRecDepth 100000
set_option maxHeartbeats 400000
namespace K68
open PySem PySem.Spec PyProof.Rows L2 DL
theorem scrap_ok {l i j nB : Nat} {fA : M R} {fB : M Fl} {ρ ρa ρ2 : List S} {rows : List D} (h1 : fA (maskA l ρ) = .ok ⟨.lst rows, true⟩ ρa) (h2 : fB ((ρ.map toVal).set i (.val (.lst rows))) = .ok .next ρ2) (h3 : headOk rows = true ∧ i < ρ.length ∧ j < ρ.length ∧ i ≠ j ∧ ρ.length ≤ nB ∧ ρ2.length = ρ.length) :
    sScrap l i j nB fA fB ρ = .ok .next ((ρ.set i .un).set j .un) := by
  unfold sScrap
  simp only [h1, h2]
  exact if_pos h3
section
variable {ns : List Int} {sz b w : Nat} {f : Option Nat} {s7 : S} {d8 : D}
theorem right_8 (A : Ask ns sz b w (some 0)) : sScrap 0 9 10 11 (fCallK [] F_adaptive_counts 5 0 [(0, 0), (0, 1), (0, 2), (0, 3), (0, 4)] [.non] (consA (shareO (takeS 0)) (consA (shareO (takeS 1)) (consA (shareO (takeS 2)) (consA (shareO (takeS 3)) (consA (shareO (cst (.int 0))) (nilA)))))) (nilA)) (sIf (boolR (fBin neD (nameO 9) (shareO (fBin mulD (shareO (fSlice (nameO 5) (M.pure none) (partI (cst (.int 1))))) (shareO (fB lenD (consA (nameO 5) (nilA)))))))) (sRet (cst (.bl false))) (sNext))
    (bs ns sz b w f [.own (.lst (outL ns sz b w f)), .own (.lst (ns.map D.int)), s7, .own d8, .un, .un]) = .ok .next (bs ns sz b w f [.own (.lst (outL ns sz b w f)), .own (.lst (ns.map D.int)), s7, .own d8, .un, .un]) := by
  obtain ⟨τ, e⟩ := mask_0 (ns := ns) (sz := sz) (b := b) (w := w) (f := f) (s7 := s7) (d8 := d8)
  have c := call_0 (τ := τ) A
  rw [← e] at c
  exact scrap_ok c (look_8 (τ := []) A) ⟨outL_head (by have := A.sz1; omega) A.sz2 A.w2, by simp, by simp, by decide, by simp, rfl⟩
end
end K68
set_option Elab.async false
set_option linter.all false
set_option maxRecDepth 100000
set_option maxHeartbeats 400000
namespace K68
open PySem PySem.Spec PyProof.Rows L2 DL
/-- _law_right is true -/
theorem right_ok {ns : List Int} {sz b w : Nat} {f : Option Nat} (A : Ask ns sz b w f) (A0 : Ask ns sz b w (some 0)) (A1 : Ask ns sz (ns.length + 1) w f) :
    F__law_right [.val (.lst (ns.map D.int)), .val (.int (sz : Int)), .val (.int (b : Int)), .val (.int (w : Int)), .val (far f)] = .ok ⟨.bl true, false⟩ [.un, .un, .un, .un, .un] := by
  obtain ⟨s7, r1⟩ := right_1 (ns := ns) (sz := sz) (b := b) (w := w) f (by have := A.sz1; omega) A.sz2 (by have := A.len; omega) A.b1 A.w1 A.w2 A.fit
  exact body_ret (fx := []) (n := 5) (N := 11) (fb := B__law_right)
    (seq_ok (right_0 f) (seq_ok r1 (seq_ok (right_3 A) (seq_ok right_4 (seq_ok (right_5 A) (seq_ok (right_6 A) (seq_ok (right_7 A) (seq_ok (right_8 A0) (seq_ok (right_9 A0) (right_10 A1 A.b1))))))))))
end K68
set_option Elab.async false
set_option linter.all false
set_option maxRecDepth 100000
set_option maxHeartbeats 400000
namespace K68
open PySem PySem.Spec PyProof.Rows L2 DL
/-- the store's data -/
def SD (n : Nat) (d : D) : Prop := St n (.own d)
theorem store_own (c : Int) : ∃ d, F__law_store [.val (.int c)] = .ok ⟨d, true⟩ [.un] ∧ SD 1 d := by
  obtain ⟨s, h1, h2⟩ := store_ok c
  exact ⟨_, h1, h2⟩
theorem take_own {n : Nat} {d : D} (h : SD n d) (hn : n < 2 ^ 30) (k : Int) (hk : 0 < k) (hk2 : k < 2 ^ 64) : ∃ r d', F__law_take [.own d, .val (.int k)] = .ok ⟨.int r, false⟩ [.own d', .un] ∧ 0 ≤ r ∧ r < k ∧ SD (n + 1) d' := by
  obtain ⟨r, s', h1, h2, h3, h4⟩ := take_ok h hn hk hk2
  obtain ⟨a, b, m, rfl, h5⟩ := h4
  exact ⟨r, _, h1, h2, h3, a, b, m, rfl, h5⟩
theorem any_own {n : Nat} {d : D} (h : SD n d) (hn : n < 2 ^ 30) (ds : List D) (hd : 0 < ds.length) (hd2 : ds.length < 2 ^ 30) : ∃ (x d' : D), F__law_any [.own d, .val (.lst ds)] = .ok ⟨x, false⟩ [.own d', .un] ∧ x ∈ ds ∧ SD (n + 1) d' := by
  obtain ⟨j, hj, s', h1, h4⟩ := any_ok h hn hd hd2
  obtain ⟨a, b, m, rfl, h5⟩ := h4
  exact ⟨_, _, h1, List.getElem_mem _, a, b, m, rfl, h5⟩
theorem SD.more {n m : Nat} {d : D} (h : SD n d) (hm : n ≤ m) : SD m d := by
  obtain ⟨a, b, k, e, h1, h2, h3, h4, h5⟩ := h
  exact ⟨a, b, k, e, h1, h2, h3, h4, by omega⟩
end K68
set_option Elab.async false
set_option linter.all false
set_option maxRecDepth 100000
set_option maxHeartbeats 400000
namespace K68
open PySem PySem.Spec PyProof.Rows L2 DL
/-! the words of a run -/
local macro_rules | `(tactic| walk_at "lt") => `(tactic| exact Nat.le_of_ble_eq_true rfl)
local macro_rules | `(tactic| walk_at "ls") => `(tactic| first | with_reducible exact st_zero | ((with_reducible apply st_succ); walk_at "ls"))
local macro_rules | `(tactic| walk_at "rp") => `(tactic| first | with_reducible exact rp_zero | (apply rp_succ; walk_at "rp"))
local macro_rules | `(tactic| walk_at "ap") => `(tactic| first | with_reducible exact ap_nil | ((with_reducible apply ap_cons); walk_at "ap"))
local macro_rules | `(tactic| walk_at "sr") => `(tactic| first | ((with_reducible apply sr_v); walk_at "ls") | ((with_reducible apply sr_o); walk_at "ls"))
local macro_rules | `(tactic| walk_at "vl") => `(tactic| first | with_reducible exact v_nil | ((with_reducible apply v_cons); walk_at "vl"))
local macro_rules | `(tactic| walk_at "rs") => `(tactic| first | with_reducible exact rs_nil | ((with_reducible apply rs_v); walk_at "rs") | ((with_reducible apply rs_r); (focus rfl); walk_at "rs"))
local macro_rules | `(tactic| walk_at "as") => `(tactic| first | with_reducible exact as_nil | ((apply as_v); walk_at "as") | ((apply as_o); (focus exact rfl); walk_at "as") | ((apply as_s); (focus exact rfl); walk_at "as"))
local macro_rules | `(tactic| walk_at "bk") => `(tactic| first | with_reducible exact bk_nil | ((apply bk_v); walk_at "bk") | ((apply bk_o); (focus exact rfl); (focus walk_at "bk"); (focus walk_at "ls")) | ((apply bk_s); (focus exact rfl); (focus walk_at "bk"); (focus walk_at "ls")))
local macro_rules | `(tactic| walk_at "bs") => `(tactic| first | with_reducible exact bs_nil | ((with_reducible apply bs_v); (focus walk_at "bs"); (focus exact rfl); (focus walk_at "ls")) | ((with_reducible apply bs_u); (focus walk_at "bs"); (focus exact rfl); (focus walk_at "ls")))
local macro_rules | `(tactic| walk_at "wp") => `(tactic| first | with_reducible exact wp_nil | ((with_reducible apply wp_v); (focus walk_at "wp"); (focus walk_at "ls")))
local macro_rules | `(tactic| walk_at "ar") => `(tactic| first | with_reducible exact ar_nil | ((with_reducible apply ar_0); (focus exact rfl); (focus walk_at "ar")) | ((with_reducible apply ar_1); (focus exact rfl); (focus walk_at "ar")) | ((with_reducible apply ar_2); (focus exact rfl); (focus walk_at "ar")))
local macro_rules | `(tactic| walk_at "dc") => `(tactic| first | rfl | with_reducible assumption | exact decide_eq_true (by omega) | exact decide_eq_false (by omega))
local macro_rules | `(tactic| walk_at "dp") => `(tactic| first
  | with_reducible assumption
  | with_reducible exact d_add _ _ | with_reducible exact d_sub _ _ | with_reducible exact d_lt _ _ | with_reducible exact d_le _ _ | with_reducible exact d_gt _ _ | with_reducible exact d_ge _ _ | with_reducible exact d_eq_int _ _ | with_reducible exact d_isn _ | with_reducible exact d_isnn _ | with_reducible exact d_max _ _
  | with_reducible exact d_mul (by assumption) | with_reducible exact d_fdiv (by assumption) | with_reducible exact d_mod (by assumption) | with_reducible exact d_shl (by assumption) | with_reducible exact d_pow (by assumption)
  | with_reducible exact d_lenl _ | with_reducible exact d_lent _ | with_reducible exact d_cut _ _ _ | with_reducible exact d_cutc _ _ _
  | rfl)
local macro_rules | `(tactic| walk_at "dl") => `(tactic| first
  | with_reducible assumption
  | with_reducible exact k_cst | with_reducible exact k_nil | with_reducible exact k_next | with_reducible exact k_p0
  | ((with_reducible apply k_takeV); (focus exact rfl)) | ((with_reducible apply k_takeO); (focus exact rfl); (focus walk_at "ls")) | ((with_reducible apply k_moveV); (focus exact rfl)) | ((with_reducible apply k_moveO); (focus exact rfl); (focus walk_at "ls"))
  | ((with_reducible apply k_nameV); (focus exact rfl)) | ((with_reducible apply k_nameO); (focus exact rfl))
  | ((with_reducible apply k_shareO); walk_at "dl")
  | ((with_reducible apply k_cons); (focus walk_at "dl"); (focus walk_at "dl"))
  | ((with_reducible apply k_bin); (focus walk_at "dl"); (focus walk_at "dl"); (focus rfl); (focus rfl); (focus walk_at "dp"))
  | ((with_reducible apply k_un); (focus walk_at "dl"); (focus rfl); (focus walk_at "dp"))
  | ((with_reducible apply k_B); (focus walk_at "dl"); (focus walk_at "rs"); (focus walk_at "dp"))
  | ((with_reducible apply k_disp); (focus walk_at "dl"); (focus walk_at "vl"); (focus walk_at "lt"))
  | ((with_reducible apply k_p1); walk_at "dl")
  | ((with_reducible apply k_slice); (focus walk_at "dl"); (focus walk_at "dl"); (focus walk_at "dl"); (focus rfl); (focus walk_at "dp"))
  | ((with_reducible apply k_meth); (focus walk_at "dl"); (focus rfl); (focus rfl); (focus walk_at "dl"); (focus rfl); (focus walk_at "rs"); (focus walk_at "dp"))
  | ((with_reducible apply k_mut); (focus rfl); (focus rfl); (focus walk_at "dl"); (focus rfl); (focus walk_at "vl"); (focus walk_at "dp"); (focus walk_at "ls"))
  | ((with_reducible apply k_bool); (focus walk_at "dl"); (focus walk_at "dc"))
  | ((with_reducible apply k_andF); (focus walk_at "dl")) | ((with_reducible apply k_andT); (focus walk_at "dl"); (focus walk_at "dl"))
  | ((with_reducible apply k_orF); (focus walk_at "dl"); (focus walk_at "dl")) | ((with_reducible apply k_orT); (focus walk_at "dl"))
  | ((with_reducible apply k_not); (focus walk_at "dl"); (focus rfl))
  | ((with_reducible apply k_ifF); (focus walk_at "dl"); (focus walk_at "dl")) | ((with_reducible apply k_ifT); (focus walk_at "dl"); (focus walk_at "dl"))
  | ((with_reducible apply k_sIfF); (focus walk_at "dl"); (focus walk_at "dl")) | ((with_reducible apply k_sIfT); (focus walk_at "dl"); (focus walk_at "dl"))
  | ((with_reducible apply k_seq); (focus walk_at "dl"); (focus walk_at "dl"))
  | ((with_reducible apply k_drop); walk_at "dl")
  | ((with_reducible apply k_ret); walk_at "dl")
  | ((with_reducible apply k_set); (focus walk_at "dl"); (focus walk_at "lt"); (focus walk_at "sr"))
  | ((with_reducible apply k_par); (focus walk_at "dl"); (focus walk_at "dl"); (focus (exact ⟨by walk_at "lt", by walk_at "lt"⟩)); (focus walk_at "sr"); (focus walk_at "sr"))
  | ((with_reducible apply k_rng1); (focus walk_at "dl"); (focus (first | with_reducible assumption | rfl)))
  | ((with_reducible apply k_rng2); (focus walk_at "dl"); (focus (first | with_reducible assumption | rfl)); (focus (first | with_reducible assumption | rfl)))
  | ((with_reducible apply k_listR1); (focus walk_at "dl"); (focus (first | with_reducible assumption | rfl)))
  | ((with_reducible apply k_listR2); (focus walk_at "dl"); (focus walk_at "dl"); (focus (first | with_reducible assumption | rfl)))
  | ((with_reducible apply k_lc); (focus walk_at "dl"); (focus rfl); (focus with_reducible assumption); (focus walk_at "bs"))
  | ((with_reducible apply k_for); (focus walk_at "dl"); (focus with_reducible assumption))
  | ((with_reducible apply k_iter); (focus walk_at "dl"); (focus rfl))
  | ((with_reducible apply k_call); (focus walk_at "dl"); (focus rfl); (focus walk_at "as"); (focus exact ⟨rfl, rfl⟩); (focus with_reducible assumption); (focus walk_at "bk"))
  | ((with_reducible apply k_callK); (focus walk_at "dl"); (focus walk_at "dl"); (focus rfl); (focus rfl); (focus walk_at "ar"); (focus walk_at "as"); (focus exact ⟨rfl, rfl⟩); (focus with_reducible assumption); (focus walk_at "bk")))
theorem in62_i {i : Int} (h1 : 0 ≤ i) (h2 : i < 1000000) : in62 i = true := by
  unfold in62; rw [decide_eq_true (by omega), decide_eq_true (by omega)]; rfl
theorem mulL {d : D} {k : Int} (hk : 0 ≤ k) (h : k ≤ 10000000) : mulD (.lst [d]) (.int k) = some ⟨.lst (List.replicate k.toNat d), true⟩ := by
  show (if [d].length * k.toNat ≤ sizeD ∧ -(2 ^ 63) ≤ k ∧ k < 2 ^ 63 then some (⟨.lst (List.replicate k.toNat [d]).flatten, true⟩ : R) else none) = _
  rw [if_pos ⟨by unfold sizeD; simp; omega, by omega, by omega⟩]
  congr 3
  apply List.ext_getElem <;> simp
theorem mulLs {ds : List D} {k : Int} (hk : 0 ≤ k) (h : ds.length * k.toNat ≤ 10000000) (h2 : k ≤ 10000000) : mulD (.lst ds) (.int k) = some ⟨.lst (List.replicate k.toNat ds).flatten, true⟩ := by
  show (if ds.length * k.toNat ≤ sizeD ∧ -(2 ^ 63) ≤ k ∧ k < 2 ^ 63 then some (⟨.lst (List.replicate k.toNat ds).flatten, true⟩ : R) else none) = _
  rw [if_pos ⟨by unfold sizeD; omega, by omega, by omega⟩]
theorem addL {a b : List D} (h : a.length + b.length ≤ sizeD) : addD (.lst a) (.lst b) = some ⟨.lst (a ++ b), true⟩ := if_pos h
/-- symbols below a size -/
def SymD (sz : Nat) (x : D) : Prop := ∃ z : Int, x = .int z ∧ 0 ≤ z ∧ z < (sz : Int)
theorem syms_of {sz : Nat} : ∀ {ds : List D}, (∀ d ∈ ds, SymD sz d) → ∃ ns : List Int, ds = ns.map D.int ∧ ∀ n ∈ ns, 0 ≤ n ∧ n < (sz : Int)
  | [], _ => ⟨[], rfl, fun _ h => by cases h⟩
  | d :: ds, h => by
    obtain ⟨z, e, h1, h2⟩ := h d (List.mem_cons_self ..)
    obtain ⟨ns, e2, h3⟩ := syms_of (ds := ds) fun x hx => h x (List.mem_cons_of_mem _ hx)
    refine ⟨z :: ns, by rw [e, e2]; rfl, fun n hn => ?_⟩
    rcases List.mem_cons.mp hn with rfl | hn
    · exact ⟨h1, h2⟩
    · exact h3 n hn
theorem long_lc {n : Nat} {s : D} (hs : SD n s) (hn : n < 100000000) {sz : Nat} (h2 : 0 < sz) (h3 : sz ≤ 256) {k : Nat} (hk : k ≤ 1000) {τ : List S} : ∃ (ns : List Int) (s' : D), lcL [3] (tName 3) (M.pure true) (fCall [0] F__law_take 2 (consA (nameO 0) (consA (shareO (takeS 1)) (nilA)))) (rngD 0 k) [] (.own s :: .val (.int (sz : Nat)) :: .un :: .un :: τ) = .ok (ns.map D.int) (.own s' :: .val (.int (sz : Nat)) :: .un :: .un :: τ) ∧ ns.length = k ∧ (∀ n ∈ ns, 0 ≤ n ∧ n < (sz : Int)) ∧ SD (n + k) s' := by
  obtain ⟨out, ρ', e, hl, hp, s', e2, hs'⟩ := lc_inv (vs := [3]) (ft := tName 3) (fc := M.pure true) (fe := fCall [0] F__law_take 2 (consA (nameO 0) (consA (shareO (takeS 1)) (nilA)))) (all := rngD 0 k) (ρ := (.own s :: .val (.int (sz : Nat)) :: .un :: .un :: τ)) (SymD sz) (fun i ρ => ∃ s', ρ = (.own s' :: .val (.int (sz : Nat)) :: .un :: .un :: τ) ∧ SD (n + i) s') (by rw [rngD_length]; unfold sizeD; omega) ⟨s, rfl, hs⟩
    (fun i d ρ hd hj => by
      obtain ⟨s1, rfl, hs1⟩ := hj
      have hi := (List.getElem?_eq_some_iff.mp hd).1
      rw [rngD_length] at hi
      obtain ⟨r0, s2, e0, a0, a1, hs2⟩ := take_own hs1 (by omega) (sz : Int) (by omega) (by omega)
      exact ⟨.own s1 :: .val (.int (sz : Nat)) :: .un :: .val d :: τ, .own s1 :: .val (.int (sz : Nat)) :: .un :: .val d :: τ, .own s2 :: .val (.int (sz : Nat)) :: .un :: .val d :: τ, ⟨.int r0, false⟩, by simp, rfl, by walk_at "dl", ⟨r0, rfl, a0, a1⟩, s2, rfl, hs2⟩)
  rw [rngD_length] at hl hs'
  obtain ⟨ns, rfl, h4⟩ := syms_of hp
  exact ⟨ns, s', by rw [e, e2], by simpa using hl, h4, hs'⟩
theorem list_cyc {ns : List Int} {k m : Nat} {P : Int → Prop} (h : ∀ n ∈ ns, P n) : ∀ n ∈ ((List.replicate k ns).flatten).take m, P n := fun n hn => by
  have h1 := List.mem_of_mem_take hn
  obtain ⟨l, h2, h3⟩ := List.mem_flatten.mp h1
  rw [List.eq_of_mem_replicate h2] at h3
  exact h n h3
theorem okR_i {i : Int} (h1 : 0 ≤ i) (h2 : i < 1000000) : okR 0 i = true := by
  unfold okR; rw [in62_i (by decide) (by decide), in62_i h1 h2]
  simp only [Bool.true_and, decide_eq_true_eq]
  unfold sizeD; omega
theorem map_flat (k : Nat) (ns : List Int) : (List.replicate k (ns.map D.int)).flatten = ((List.replicate k ns).flatten).map D.int := by
  rw [List.map_flatten, List.map_replicate]
theorem long_ok {n : Nat} {s : D} (hs : SD n s) (hn : n < 1000000) {sz : Nat} (h1 : 2 ≤ sz) (h2 : sz ≤ 256) : ∃ s', F__law_long_right [.own s, .val (.int (sz : Nat))] = .ok ⟨.bl true, false⟩ [.own s', .un] ∧ SD (n + 100) s' := by
  obtain ⟨r0, s0, e0, a0, a1, hs0⟩ := take_own hs (by omega) 237 (by decide) (by decide)
  obtain ⟨x, s1, e1, hx, hs1⟩ := any_own hs0 (by omega) [D.int (sz : Int), D.int (20 + r0)] (by simp) (by simp)
  obtain ⟨z, rfl, z1, z2⟩ : ∃ z : Nat, x = .int z ∧ 2 ≤ z ∧ z ≤ 256 := by
    rcases List.mem_cons.mp hx with rfl | hx
    · exact ⟨sz, rfl, h1, h2⟩
    · rw [List.mem_singleton] at hx
      exact ⟨(20 + r0).toNat, by rw [hx]; congr 1; omega, by omega, by omega⟩
  obtain ⟨r1, s2, e2, b0, b1, hs2⟩ := take_own hs1 (by omega) 20 (by decide) (by decide)
  obtain ⟨ns, s3, e3, hl, hm, hs3⟩ := long_lc (τ := [.un, .un, .un, .un]) hs2 (by omega) (sz := z) (by omega) z2 (k := (1 + r1).toNat) (by omega)
  obtain ⟨r2, s4, e4, c0, c1, hs4⟩ := take_own hs3 (by omega) 20 (by decide) (by decide)
  obtain ⟨r3, s5, e5, d0, d1, hs5⟩ := take_own hs4 (by omega) 4 (by decide) (by decide)
  obtain ⟨r4, s6, e6, f0, f1, hs6⟩ := take_own hs5 (by omega) 1700 (by decide) (by decide)
  obtain ⟨w, hw⟩ : ∃ w : Nat, 9 + r3 = (w : Int) := ⟨(9 + r3).toNat, by omega⟩
  obtain ⟨m, hm2⟩ : ∃ m : Nat, 300 + r4 = (m : Int) := ⟨(300 + r4).toNat, by omega⟩
  obtain ⟨y, s7, e7, hy, hs7⟩ := any_own hs6 (by omega) [D.int ((m : Int) / 2), D.int ((m : Int) / 2 + 1), D.int ((m : Int) / 3 + 1), D.int ((m : Int) - 1)] (by simp) (by simp)
  obtain ⟨b, rfl, y1, y2⟩ : ∃ b : Nat, y = .int b ∧ 100 ≤ b ∧ b ≤ m := by
    simp only [List.mem_cons, List.not_mem_nil, or_false] at hy
    rcases hy with rfl | rfl | rfl | rfl
    · exact ⟨((m : Int) / 2).toNat, congrArg D.int (by omega), by omega, by omega⟩
    · exact ⟨((m : Int) / 2 + 1).toNat, congrArg D.int (by omega), by omega, by omega⟩
    · exact ⟨((m : Int) / 3 + 1).toNat, congrArg D.int (by omega), by omega, by omega⟩
    · exact ⟨((m : Int) - 1).toNat, congrArg D.int (by omega), by omega, by omega⟩
  obtain ⟨r5, s8, e8, g0, g1, hs8⟩ := take_own hs7 (by omega) (m : Int) (by omega) (by omega)
  obtain ⟨u, s9, e9, hu, hs9⟩ := any_own hs8 (by omega) [D.non, D.non, D.int 256, D.int r5] (by simp) (by simp)
  obtain ⟨f, rfl, hf⟩ : ∃ f : Option Nat, u = far f ∧ ∀ v, f = some v → v ≤ 10000 := by
    simp only [List.mem_cons, List.not_mem_nil, or_false] at hu
    rcases hu with rfl | rfl | rfl | rfl
    · exact ⟨none, rfl, fun _ h => by cases h⟩
    · exact ⟨none, rfl, fun _ h => by cases h⟩
    · exact ⟨some 256, rfl, fun _ h => by cases h; decide⟩
    · exact ⟨some r5.toNat, by show _ = D.int _; congr 1; omega, fun _ h => by cases h; omega⟩
  have i1 : in62 (1 + r1) = true := in62_i (by omega) (by omega)
  have mm := mulL (d := .int 0) (k := r2) c0 (by omega)
  obtain ⟨ms, hms⟩ : ∃ ms, ms = ns ++ List.replicate r2.toNat (0 : Int) := ⟨_, rfl⟩
  have lm : ms.length = (1 + r1).toNat + r2.toNat := by rw [hms, List.length_append, List.length_replicate, hl]
  have ad : addD (.lst (ns.map D.int)) (.lst (List.replicate r2.toNat (.int 0))) = some ⟨.lst (ms.map D.int), true⟩ := by
    rw [addL (by simp; unfold sizeD; omega), hms, List.map_append, List.map_replicate]
  have memm : ∀ v ∈ ms, 0 ≤ v ∧ v < (z : Int) := fun v hv => by
    rw [hms] at hv
    rcases List.mem_append.mp hv with hv | hv
    · exact hm v hv
    · rw [List.eq_of_mem_replicate hv]; omega
  obtain ⟨L, hL⟩ : ∃ L, L = ms.length := ⟨_, rfl⟩
  have hlen : lenD [.lst (ms.map D.int)] = some ⟨.int (L : Int), false⟩ := by rw [d_lenl, List.length_map, hL]
  have od : okDiv (L : Int) = true := okDiv_of (by omega) (by omega)
  have od2 : okDiv 2 = true := rfl
  have od3 : okDiv 3 = true := rfl
  obtain ⟨q, hq⟩ : ∃ q : Int, q = 1 + 2000 / (L : Int) := ⟨_, rfl⟩
  have q0 : 0 ≤ 2000 / (L : Int) := Int.ediv_nonneg (by omega) (by omega)
  have q1 : 2000 / (L : Int) ≤ 2000 := Int.ediv_le_self _ (by omega)
  have q2 : L * q.toNat ≤ 4000 ∧ 2000 ≤ L * q.toNat := by
    have d0 := Int.mul_ediv_add_emod 2000 (L : Int)
    have d1 := Int.emod_nonneg 2000 (b := (L : Int)) (by omega)
    have d2 := Int.emod_lt_of_pos 2000 (b := (L : Int)) (by omega)
    have e : ((L * q.toNat : Nat) : Int) = (L : Int) * q := by
      rw [Int.natCast_mul, Int.toNat_of_nonneg (by omega)]
    have e2 : (L : Int) * q = L + L * (2000 / (L : Int)) := by rw [hq, Int.mul_add, Int.mul_one]
    omega
  obtain ⟨line, hline⟩ : ∃ line, line = ((List.replicate q.toNat ms).flatten).take m := ⟨_, rfl⟩
  have mu : mulD (.lst (ms.map D.int)) (.int (1 + 2000 / (L : Int))) = some ⟨.lst (((List.replicate q.toNat ms).flatten).map D.int), true⟩ := by
    rw [← hq, mulLs (by omega) (by rw [List.length_map, ← hL]; omega) (by omega), map_flat]
  have cu : cutD none (some (m : Int)) (.lst (((List.replicate q.toNat ms).flatten).map D.int)) = some ⟨.lst (line.map D.int), true⟩ := by
    rw [d_cut, cut_from0 _ _ (by omega), Int.toNat_natCast, hline, List.map_take]
  have ll : line.length = m := by
    rw [hline, List.length_take, List.length_flatten, List.map_replicate, sum_rep, ← hL, Nat.mul_comm]
    exact Nat.min_eq_left (by omega)
  have meml : ∀ v ∈ line, 0 ≤ v ∧ v < (z : Int) := by rw [hline]; exact list_cyc memm
  have pw : (512 : Int) ≤ 2 ^ w ∧ (2 : Int) ^ w ≤ 4096 := by
    have h9 : 9 ≤ w ∧ w ≤ 12 := by omega
    obtain ⟨k, hk⟩ : ∃ k, w = 9 + k := ⟨w - 9, by omega⟩
    refine ⟨?_, pow_le h9.2⟩
    have : (2 : Int) ^ 9 ≤ 2 ^ w := by
      rw [hk, Int.pow_add]
      have := pow_pos' k
      have e : (2 : Int) ^ 9 = 512 := rfl
      rw [e]
      omega
    exact this
  have ask : ∀ (b' : Nat) (f' : Option Nat), 100 ≤ b' → b' ≤ m + 1 → (∀ v, f' = some v → v ≤ 10000) → Ask line z b' w f' := fun b' f' k1 k2 k3 => by
    refine ⟨meml, z1, z2, by omega, by omega, by omega, by omega, by omega, by omega, k3, ?_⟩
    rw [ll]
    have k4 : ((m : Int) + (b' : Int) - 1) / (b' : Int) ≤ 20 := by
      have : ((m : Int) + (b' : Int) - 1) / (b' : Int) < 21 := Int.ediv_lt_of_lt_mul (by omega) (by omega)
      omega
    have k5 : 0 ≤ ((m : Int) + (b' : Int) - 1) / (b' : Int) := Int.ediv_nonneg (by omega) (by omega)
    have := Int.mul_le_mul k4 pw.2 (by omega) (by omega)
    omega
  have rr := right_ok (ask b f (by omega) (by omega) hf) (ask b (some 0) (by omega) (by omega) (fun v h => by cases h; omega)) (ask (line.length + 1) f (by omega) (by omega) hf)
  refine ⟨s9, ?_, hs9.more (by omega)⟩
  apply k_fn (F := F__law_long_right) rfl
  focus walk_at "rp"
  focus walk_at "ap"
  focus (
    apply k_seq
    focus walk_at "dl"
    apply k_seq
    focus walk_at "dl"
    apply k_seq
    focus walk_at "dl"
    rw [hw, hm2]
    walk_at "dl")
  rfl
end K68
set_option Elab.async false
set_option linter.all false
set_option maxRecDepth 100000
set_option maxHeartbeats 400000
namespace K68
open PySem PySem.Spec PyProof.Rows L2 DL
/-! the words of a run -/
local macro_rules | `(tactic| walk_at "lt") => `(tactic| exact Nat.le_of_ble_eq_true rfl)
local macro_rules | `(tactic| walk_at "ls") => `(tactic| first | with_reducible exact st_zero | ((with_reducible apply st_succ); walk_at "ls"))
local macro_rules | `(tactic| walk_at "rp") => `(tactic| first | with_reducible exact rp_zero | (apply rp_succ; walk_at "rp"))
local macro_rules | `(tactic| walk_at "ap") => `(tactic| first | with_reducible exact ap_nil | ((with_reducible apply ap_cons); walk_at "ap"))
local macro_rules | `(tactic| walk_at "sr") => `(tactic| first | ((with_reducible apply sr_v); walk_at "ls") | ((with_reducible apply sr_o); walk_at "ls"))
local macro_rules | `(tactic| walk_at "vl") => `(tactic| first | with_reducible exact v_nil | ((with_reducible apply v_cons); walk_at "vl"))
local macro_rules | `(tactic| walk_at "rs") => `(tactic| first | with_reducible exact rs_nil | ((with_reducible apply rs_v); walk_at "rs") | ((with_reducible apply rs_r); (focus rfl); walk_at "rs"))
local macro_rules | `(tactic| walk_at "as") => `(tactic| first | with_reducible exact as_nil | ((apply as_v); walk_at "as") | ((apply as_o); (focus exact rfl); walk_at "as") | ((apply as_s); (focus exact rfl); walk_at "as"))
local macro_rules | `(tactic| walk_at "bk") => `(tactic| first | with_reducible exact bk_nil | ((apply bk_v); walk_at "bk") | ((apply bk_o); (focus exact rfl); (focus walk_at "bk"); (focus walk_at "ls")) | ((apply bk_s); (focus exact rfl); (focus walk_at "bk"); (focus walk_at "ls")))
local macro_rules | `(tactic| walk_at "bs") => `(tactic| first | with_reducible exact bs_nil | ((with_reducible apply bs_v); (focus walk_at "bs"); (focus exact rfl); (focus walk_at "ls")) | ((with_reducible apply bs_u); (focus walk_at "bs"); (focus exact rfl); (focus walk_at "ls")))
local macro_rules | `(tactic| walk_at "wp") => `(tactic| first | with_reducible exact wp_nil | ((with_reducible apply wp_v); (focus walk_at "wp"); (focus walk_at "ls")))
local macro_rules | `(tactic| walk_at "ar") => `(tactic| first | with_reducible exact ar_nil | ((with_reducible apply ar_0); (focus exact rfl); (focus walk_at "ar")) | ((with_reducible apply ar_1); (focus exact rfl); (focus walk_at "ar")) | ((with_reducible apply ar_2); (focus exact rfl); (focus walk_at "ar")))
local macro_rules | `(tactic| walk_at "dc") => `(tactic| first | rfl | with_reducible assumption | exact decide_eq_true (by omega) | exact decide_eq_false (by omega))
local macro_rules | `(tactic| walk_at "dp") => `(tactic| first
  | with_reducible assumption
  | with_reducible exact d_add _ _ | with_reducible exact d_sub _ _ | with_reducible exact d_lt _ _ | with_reducible exact d_le _ _ | with_reducible exact d_gt _ _ | with_reducible exact d_ge _ _ | with_reducible exact d_eq_int _ _ | with_reducible exact d_isn _ | with_reducible exact d_isnn _ | with_reducible exact d_max _ _
  | with_reducible exact d_mul (by assumption) | with_reducible exact d_fdiv (by assumption) | with_reducible exact d_mod (by assumption) | with_reducible exact d_shl (by assumption) | with_reducible exact d_pow (by assumption)
  | with_reducible exact d_lenl _ | with_reducible exact d_lent _ | with_reducible exact d_cut _ _ _ | with_reducible exact d_cutc _ _ _
  | rfl)
local macro_rules | `(tactic| walk_at "dl") => `(tactic| first
  | with_reducible assumption
  | with_reducible exact k_cst | with_reducible exact k_nil | with_reducible exact k_next | with_reducible exact k_p0
  | ((with_reducible apply k_takeV); (focus exact rfl)) | ((with_reducible apply k_takeO); (focus exact rfl); (focus walk_at "ls")) | ((with_reducible apply k_moveV); (focus exact rfl)) | ((with_reducible apply k_moveO); (focus exact rfl); (focus walk_at "ls"))
  | ((with_reducible apply k_nameV); (focus exact rfl)) | ((with_reducible apply k_nameO); (focus exact rfl))
  | ((with_reducible apply k_shareO); walk_at "dl")
  | ((with_reducible apply k_cons); (focus walk_at "dl"); (focus walk_at "dl"))
  | ((with_reducible apply k_bin); (focus walk_at "dl"); (focus walk_at "dl"); (focus rfl); (focus rfl); (focus walk_at "dp"))
  | ((with_reducible apply k_un); (focus walk_at "dl"); (focus rfl); (focus walk_at "dp"))
  | ((with_reducible apply k_B); (focus walk_at "dl"); (focus walk_at "rs"); (focus walk_at "dp"))
  | ((with_reducible apply k_disp); (focus walk_at "dl"); (focus walk_at "vl"); (focus walk_at "lt"))
  | ((with_reducible apply k_p1); walk_at "dl")
  | ((with_reducible apply k_slice); (focus walk_at "dl"); (focus walk_at "dl"); (focus walk_at "dl"); (focus rfl); (focus walk_at "dp"))
  | ((with_reducible apply k_meth); (focus walk_at "dl"); (focus rfl); (focus rfl); (focus walk_at "dl"); (focus rfl); (focus walk_at "rs"); (focus walk_at "dp"))
  | ((with_reducible apply k_mut); (focus rfl); (focus rfl); (focus walk_at "dl"); (focus rfl); (focus walk_at "vl"); (focus walk_at "dp"); (focus walk_at "ls"))
  | ((with_reducible apply k_bool); (focus walk_at "dl"); (focus walk_at "dc"))
  | ((with_reducible apply k_andF); (focus walk_at "dl")) | ((with_reducible apply k_andT); (focus walk_at "dl"); (focus walk_at "dl"))
  | ((with_reducible apply k_orF); (focus walk_at "dl"); (focus walk_at "dl")) | ((with_reducible apply k_orT); (focus walk_at "dl"))
  | ((with_reducible apply k_not); (focus walk_at "dl"); (focus rfl))
  | ((with_reducible apply k_ifF); (focus walk_at "dl"); (focus walk_at "dl")) | ((with_reducible apply k_ifT); (focus walk_at "dl"); (focus walk_at "dl"))
  | ((with_reducible apply k_sIfF); (focus walk_at "dl"); (focus walk_at "dl")) | ((with_reducible apply k_sIfT); (focus walk_at "dl"); (focus walk_at "dl"))
  | ((with_reducible apply k_seq); (focus walk_at "dl"); (focus walk_at "dl"))
  | ((with_reducible apply k_drop); walk_at "dl")
  | ((with_reducible apply k_ret); walk_at "dl")
  | ((with_reducible apply k_set); (focus walk_at "dl"); (focus walk_at "lt"); (focus walk_at "sr"))
  | ((with_reducible apply k_par); (focus walk_at "dl"); (focus walk_at "dl"); (focus (exact ⟨by walk_at "lt", by walk_at "lt"⟩)); (focus walk_at "sr"); (focus walk_at "sr"))
  | ((with_reducible apply k_rng1); (focus walk_at "dl"); (focus (first | with_reducible assumption | rfl)))
  | ((with_reducible apply k_rng2); (focus walk_at "dl"); (focus (first | with_reducible assumption | rfl)); (focus (first | with_reducible assumption | rfl)))
  | ((with_reducible apply k_listR1); (focus walk_at "dl"); (focus (first | with_reducible assumption | rfl)))
  | ((with_reducible apply k_listR2); (focus walk_at "dl"); (focus walk_at "dl"); (focus (first | with_reducible assumption | rfl)))
  | ((with_reducible apply k_lc); (focus walk_at "dl"); (focus rfl); (focus with_reducible assumption); (focus walk_at "bs"))
  | ((with_reducible apply k_for); (focus walk_at "dl"); (focus with_reducible assumption))
  | ((with_reducible apply k_iter); (focus walk_at "dl"); (focus rfl))
  | ((with_reducible apply k_call); (focus walk_at "dl"); (focus rfl); (focus walk_at "as"); (focus exact ⟨rfl, rfl⟩); (focus with_reducible assumption); (focus walk_at "bk"))
  | ((with_reducible apply k_callK); (focus walk_at "dl"); (focus walk_at "dl"); (focus rfl); (focus rfl); (focus walk_at "ar"); (focus walk_at "as"); (focus exact ⟨rfl, rfl⟩); (focus with_reducible assumption); (focus walk_at "bk")))
theorem line_lc {n : Nat} {s : D} (hs : SD n s) (hn : n < 100000000) {sz : Nat} {ds : List D} (h1 : 0 < ds.length) (h2 : ds.length < 1000) (h3 : ∀ d ∈ ds, SymD sz d) {k : Nat} (hk : k ≤ 1000) {s0 s1 s3 s5 : S} {τ : List S} :
    ∃ (ns : List Int) (s' : D), lcL [6] (tName 6) (M.pure true) (fCall [0] F__law_any 2 (consA (nameO 2) (consA (shareO (takeS 4)) (nilA)))) (rngD 0 k) [] (s0 :: s1 :: .own s :: s3 :: .val (.lst ds) :: s5 :: .un :: τ) = .ok (ns.map D.int) (s0 :: s1 :: .own s' :: s3 :: .val (.lst ds) :: s5 :: .un :: τ) ∧ ns.length = k ∧ (∀ n ∈ ns, 0 ≤ n ∧ n < (sz : Int)) ∧ SD (n + k) s' := by
  obtain ⟨out, ρ', e, hl, hp, s', e2, hs'⟩ := lc_inv (vs := [6]) (ft := tName 6) (fc := M.pure true) (fe := fCall [0] F__law_any 2 (consA (nameO 2) (consA (shareO (takeS 4)) (nilA)))) (all := rngD 0 k) (ρ := (s0 :: s1 :: .own s :: s3 :: .val (.lst ds) :: s5 :: .un :: τ)) (SymD sz) (fun i ρ => ∃ s', ρ = (s0 :: s1 :: .own s' :: s3 :: .val (.lst ds) :: s5 :: .un :: τ) ∧ SD (n + i) s') (by rw [rngD_length]; unfold sizeD; omega) ⟨s, rfl, hs⟩
    (fun i d ρ hd hj => by
      obtain ⟨t1, rfl, hs1⟩ := hj
      have hi := (List.getElem?_eq_some_iff.mp hd).1
      rw [rngD_length] at hi
      obtain ⟨x, t2, e0, a0, hs2⟩ := any_own hs1 (by omega) ds h1 (by omega)
      exact ⟨s0 :: s1 :: .own t1 :: s3 :: .val (.lst ds) :: s5 :: .val d :: τ, s0 :: s1 :: .own t1 :: s3 :: .val (.lst ds) :: s5 :: .val d :: τ, s0 :: s1 :: .own t2 :: s3 :: .val (.lst ds) :: s5 :: .val d :: τ, ⟨x, false⟩, by simp, rfl, by walk_at "dl", h3 x a0, t2, rfl, hs2⟩)
  rw [rngD_length] at hl hs'
  obtain ⟨ns, rfl, h4⟩ := syms_of hp
  exact ⟨ns, s', by rw [e, e2], by simpa using hl, h4, hs'⟩
/-- the loop over the lengths of blocks -/
theorem piece_loop {n : Nat} {s : D} (hs : SD n s) (hn : n < 100000000) {sz w : Nat} {line : List Int} (ask : ∀ (b : Nat) (f : Option Nat), 1 ≤ b → b ≤ 100 → (∀ v, f = some v → v ≤ 10000) → Ask line sz b w f) (hl : line.length ≤ 99) {s0 s1 s4 s6 s8 s9 s10 : S} {ds : List D} (hd : ∀ d ∈ ds, ∃ b : Nat, d = .int b ∧ 1 ≤ b ∧ b ≤ 100) (hz : ds.length ≤ 1000) :
    ∃ (s' : D) (t8 t9 : S), loopL (tName 8) (sSeq (sSet 9 (fCall [0] F__law_any 2 (consA (nameO 2) (consA (shareO (fDisp .lst (consA (shareO (cst .non)) (consA (shareO (cst .non)) (consA (shareO (fCall [0] F__law_take 2 (consA (nameO 2) (consA (shareO (cst (.int 9))) (nilA))))) (consA (shareO (fCall [0] F__law_take 2 (consA (nameO 2) (consA (shareO (cst (.int 60))) (nilA))))) (nilA))))))) (nilA))))) (sIf (fNot (boolR (fCall [] F__law_right 5 (consA (shareO (takeS 5)) (consA (shareO (takeS 3)) (consA (shareO (takeS 8)) (consA (shareO (takeS 7)) (consA (shareO (takeS 9)) (nilA))))))))) (sRet (cst (.bl false))) (sNext))) ds
      [s0, s1, .own s, .val (.int (sz : Nat)), s4, .own (.lst (line.map D.int)), s6, .val (.int (w : Nat)), s8, s9, s10] = .ok .next [s0, s1, .own s', .val (.int (sz : Nat)), s4, (if ds = [] then .own (.lst (line.map D.int)) else .val (.lst (line.map D.int))), s6, .val (.int (w : Nat)), t8, t9, s10] ∧ SD (n + 3 * ds.length) s' := by
  obtain ⟨ρ', k1, s', t8, t9, rfl, hs'⟩ := loop_inv (ds := ds) (ft := tName 8) (fb := (sSeq (sSet 9 (fCall [0] F__law_any 2 (consA (nameO 2) (consA (shareO (fDisp .lst (consA (shareO (cst .non)) (consA (shareO (cst .non)) (consA (shareO (fCall [0] F__law_take 2 (consA (nameO 2) (consA (shareO (cst (.int 9))) (nilA))))) (consA (shareO (fCall [0] F__law_take 2 (consA (nameO 2) (consA (shareO (cst (.int 60))) (nilA))))) (nilA))))))) (nilA))))) (sIf (fNot (boolR (fCall [] F__law_right 5 (consA (shareO (takeS 5)) (consA (shareO (takeS 3)) (consA (shareO (takeS 8)) (consA (shareO (takeS 7)) (consA (shareO (takeS 9)) (nilA))))))))) (sRet (cst (.bl false))) (sNext))))
    (ρ := [s0, s1, .own s, .val (.int (sz : Nat)), s4, .own (.lst (line.map D.int)), s6, .val (.int (w : Nat)), s8, s9, s10])
    (fun i ρ => ∃ (s' : D) (t8 t9 : S), ρ = [s0, s1, .own s', .val (.int (sz : Nat)), s4, (if i = 0 then .own (.lst (line.map D.int)) else .val (.lst (line.map D.int))), s6, .val (.int (w : Nat)), t8, t9, s10] ∧ SD (n + 3 * i) s') (fun i d ρ hi hj => by
      obtain ⟨t1, t8, t9, rfl, hs1⟩ := hj
      obtain ⟨b, rfl, b1, b2⟩ := hd d (List.mem_of_getElem? hi)
      have hlt := (List.getElem?_eq_some_iff.mp hi).1
      obtain ⟨r1, t2, e1, c0, c1, hs2⟩ := take_own hs1 (by omega) 9 (by decide) (by decide)
      obtain ⟨r2, t3, e2, d0, d1, hs3⟩ := take_own hs2 (by omega) 60 (by decide) (by decide)
      obtain ⟨u, t4, e3, hu, hs4⟩ := any_own hs3 (by omega) [D.non, D.non, D.int r1, D.int r2] (by simp) (by simp)
      obtain ⟨f, rfl, hf⟩ : ∃ f : Option Nat, u = far f ∧ ∀ v, f = some v → v ≤ 10000 := by
        simp only [List.mem_cons, List.not_mem_nil, or_false] at hu
        rcases hu with rfl | rfl | rfl | rfl
        · exact ⟨none, rfl, fun _ h => by cases h⟩
        · exact ⟨none, rfl, fun _ h => by cases h⟩
        · exact ⟨some r1.toNat, congrArg D.int (by omega), fun _ h => by cases h; omega⟩
        · exact ⟨some r2.toNat, congrArg D.int (by omega), fun _ h => by cases h; omega⟩
      have rr := right_ok (ask b f b1 b2 hf) (ask b (some 0) b1 b2 (fun v h => by cases h; omega)) (ask (line.length + 1) f (by omega) (by omega) hf)
      obtain ⟨x5, hx5⟩ : ∃ x5 : S, x5 = (if i = 0 then .own (.lst (line.map D.int)) else .val (.lst (line.map D.int))) := ⟨_, rfl⟩
      refine ⟨[s0, s1, .own t1, .val (.int (sz : Nat)), s4, x5, s6, .val (.int (w : Nat)), .val (.int (b : Nat)), t9, s10], [s0, s1, .own t4, .val (.int (sz : Nat)), s4, .val (.lst (line.map D.int)), s6, .val (.int (w : Nat)), .val (.int (b : Nat)), .val (far f), s10], by rw [hx5]; simp, ?_, t4, .val (.int (b : Nat)), .val (far f), by simp, hs4.more (by omega)⟩
      by_cases c : i = 0
      · rw [if_pos c] at hx5
        subst hx5
        walk_at "dl"
      · rw [if_neg c] at hx5
        subst hx5
        walk_at "dl") ⟨s, s8, s9, rfl, hs⟩
  refine ⟨s', t8, t9, ?_, hs'⟩
  rw [k1]
  cases ds <;> simp
theorem sliceF_all (ns : List Int) {a : Nat} (h : a ≤ ns.length) : sliceF ns a (some ns.length) = sliceF ns a none := by
  show List.drop (a - ns.length) (ns.take a) = List.drop 0 (ns.take a)
  rw [show a - ns.length = 0 by omega]
theorem outL_all (ns : List Int) {sz b w : Nat} (hb : 0 < b) : outL ns sz b w (some ns.length) = outL ns sz b w none := by
  unfold outL
  refine List.map_congr_left fun k hk => ?_
  have := nBl_lt hb (List.mem_range.mp hk)
  rw [sliceF_all _ (by omega)]
theorem pw_le {a b : Nat} (h : a ≤ b) : (2 : Int) ^ a ≤ 2 ^ b := by
  obtain ⟨k, rfl⟩ : ∃ k, b = a + k := ⟨b - a, by omega⟩
  rw [Int.pow_add]
  have h1 := pow_pos' k
  have h2 := pow_pos' a
  have := Int.mul_le_mul_of_nonneg_left h1 (show (0 : Int) ≤ 2 ^ a by omega)
  omega
theorem fa_neg {k : Bool} {a : M Bool} {ρ ρ1 : List S} (h : a ρ = .ok k ρ1) : True := trivial
noncomputable abbrev turnB : M Fl := sSeq (sSet 2 (fCall [] F__law_store 1 (consA (shareO (takeS 1)) (nilA)))) (sSeq (sSet 3 (fBin addD (shareO (cst (.int 2))) (shareO (fCall [0] F__law_take 2 (consA (nameO 2) (consA (shareO (cst (.int 8))) (nilA))))))) (sSeq (sSet 4 (fCall [0] F__law_any 2 (consA (nameO 2) (consA (shareO (fDisp .lst (consA (shareO (fListR1 (takeS 3))) (consA (shareO (fBin addD (shareO (fBin mulD (shareO (fDisp .lst (consA (shareO (cst (.int 0))) (nilA)))) (shareO (cst (.int 5))))) (shareO (fListR1 (takeS 3))))) (consA (shareO (fDisp .lst (consA (shareO (fBin subD (nameO 3) (shareO (cst (.int 1))))) (nilA)))) (nilA)))))) (nilA))))) (sSeq (sSet 5 (fLc (fRng1 (consA (shareO (fCall [0] F__law_take 2 (consA (nameO 2) (consA (shareO (fCall [0] F__law_any 2 (consA (nameO 2) (consA (shareO (fDisp .lst (consA (shareO (cst (.int 5))) (consA (shareO (cst (.int 61))) (nilA))))) (nilA))))) (nilA))))) (nilA))) [6] (tName 6) (M.pure true) (fCall [0] F__law_any 2 (consA (nameO 2) (consA (shareO (takeS 4)) (nilA)))))) (sSeq (sSet 7 (fBin addD (shareO (cst (.int 4))) (shareO (fCall [0] F__law_take 2 (consA (nameO 2) (consA (shareO (cst (.int 5))) (nilA))))))) (sSeq (sFor (fIter listD (fBin addD (shareO (fListR2 (cst (.int 1)) (cst (.int 14)))) (shareO (fDisp .lst (consA (shareO (fBin addD (shareO (cst (.int 14))) (shareO (fCall [0] F__law_take 2 (consA (nameO 2) (consA (shareO (cst (.int 60))) (nilA))))))) (nilA)))))) (tName 8) (sSeq (sSet 9 (fCall [0] F__law_any 2 (consA (nameO 2) (consA (shareO (fDisp .lst (consA (shareO (cst .non)) (consA (shareO (cst .non)) (consA (shareO (fCall [0] F__law_take 2 (consA (nameO 2) (consA (shareO (cst (.int 9))) (nilA))))) (consA (shareO (fCall [0] F__law_take 2 (consA (nameO 2) (consA (shareO (cst (.int 60))) (nilA))))) (nilA))))))) (nilA))))) (sIf (fNot (boolR (fCall [] F__law_right 5 (consA (shareO (takeS 5)) (consA (shareO (takeS 3)) (consA (shareO (takeS 8)) (consA (shareO (takeS 7)) (consA (shareO (takeS 9)) (nilA))))))))) (sRet (cst (.bl false))) (sNext)))) (sSeq (sIf (fNot (boolR (fCall [0] F__law_long_right 2 (consA (nameO 2) (consA (shareO (takeS 3)) (nilA)))))) (sRet (cst (.bl false))) (sNext)) (sSeq (sSet 10 (fCallK [] F_adaptive_counts 4 0 [(0, 0), (0, 1), (0, 2), (0, 3), (1, 0)] [.non] (consA (shareO (takeS 5)) (consA (shareO (takeS 3)) (consA (shareO (cst (.int 3))) (consA (shareO (takeS 7)) (nilA))))) (nilA))) (sIf (boolR (fBin neD (shareO (fCallK [] F_adaptive_counts 5 0 [(0, 0), (0, 1), (0, 2), (0, 3), (0, 4)] [.non] (consA (shareO (takeS 5)) (consA (shareO (takeS 3)) (consA (shareO (cst (.int 3))) (consA (shareO (takeS 7)) (consA (shareO (fB lenD (consA (nameO 5) (nilA)))) (nilA)))))) (nilA))) (nameO 10))) (sRet (cst (.bl false))) (sNext)))))))))
theorem turn_ok (c : Int) {s0 s2 s3 s4 s5 s7 s8 s9 s10 : S} : ∃ t2 t3 t4 t5 t7 t8 t9 t10 : S, turnB [s0, .val (.int c), s2, s3, s4, s5, .un, s7, s8, s9, s10] = .ok .next [s0, .val (.int c), t2, t3, t4, t5, .un, t7, t8, t9, t10] := by
  obtain ⟨d0, e0, hd0⟩ := store_own c
  obtain ⟨r0, d1, e1, a0, a1, hd1⟩ := take_own hd0 (by omega) 8 (by decide) (by decide)
  obtain ⟨sz, hsz⟩ : ∃ sz : Nat, 2 + r0 = (sz : Int) := ⟨(2 + r0).toNat, by omega⟩
  have m0 : mulD (.lst [.int 0]) (.int 5) = some ⟨.lst (List.replicate 5 (.int 0)), true⟩ := mulL (by decide) (by decide)
  obtain ⟨n1, hn1⟩ : ∃ n1, n1 = rngD 0 (sz : Int).toNat := ⟨_, rfl⟩
  have sn1 : ∀ d ∈ n1, SymD sz d := fun d hd => by
    rw [hn1] at hd
    unfold rngD at hd
    obtain ⟨k, hk, rfl⟩ := List.mem_map.mp hd
    have := List.mem_range.mp hk
    exact ⟨_, rfl, by omega, by omega⟩
  have ln1 : n1.length = sz := by rw [hn1, rngD_length]; omega
  obtain ⟨n2, hn2⟩ : ∃ n2, n2 = List.replicate 5 (D.int 0) ++ n1 := ⟨_, rfl⟩
  have ad1 : addD (.lst (List.replicate 5 (.int 0))) (.lst (rngD 0 (sz : Int).toNat)) = some ⟨.lst n2, true⟩ := by
    rw [addL (by rw [← hn1, ln1]; simp [sizeD]; omega), hn2, hn1]
  have ln2 : n2.length = 5 + sz := by rw [hn2, List.length_append, List.length_replicate, ln1]
  have sn2 : ∀ d ∈ n2, SymD sz d := fun d hd => by
    rw [hn2] at hd
    rcases List.mem_append.mp hd with hd | hd
    · rw [List.eq_of_mem_replicate hd]; exact ⟨0, rfl, by omega, by omega⟩
    · exact sn1 d hd
  have ok1 : okR 0 (sz : Int) = true := okR_i (by omega) (by omega)
  obtain ⟨nm, d2, e2, hnm, hd2⟩ := any_own hd1 (by omega) [D.lst (rngD 0 (sz : Int).toNat), D.lst n2, D.lst [D.int ((sz : Int) - 1)]] (by simp) (by simp)
  obtain ⟨ds, rfl, l1, l2, l3⟩ : ∃ ds : List D, nm = .lst ds ∧ 0 < ds.length ∧ ds.length < 1000 ∧ ∀ d ∈ ds, SymD sz d := by
    simp only [List.mem_cons, List.not_mem_nil, or_false] at hnm
    rcases hnm with rfl | rfl | rfl
    · rw [← hn1]; exact ⟨n1, rfl, by omega, by omega, sn1⟩
    · exact ⟨n2, rfl, by omega, by omega, sn2⟩
    · refine ⟨_, rfl, by simp, by simp, fun d hd => ?_⟩
      rw [List.mem_singleton.mp hd]
      exact ⟨_, rfl, by omega, by omega⟩
  obtain ⟨x, d3, e3, hx, hd3⟩ := any_own hd2 (by omega) [D.int 5, D.int 61] (by simp) (by simp)
  obtain ⟨k, rfl, k1, k2⟩ : ∃ k : Int, x = .int k ∧ 0 < k ∧ k ≤ 61 := by
    simp only [List.mem_cons, List.not_mem_nil, or_false] at hx
    rcases hx with rfl | rfl
    · exact ⟨5, rfl, by decide, by decide⟩
    · exact ⟨61, rfl, by decide, by decide⟩
  obtain ⟨r1, d4, e4, b0, b1, hd4⟩ := take_own hd3 (by omega) k k1 (by omega)
  have i1 : in62 r1 = true := in62_i (by omega) (by omega)
  obtain ⟨line, d5, e5, ll, lm, hd5⟩ := line_lc (n := 1 + 1 + 1 + 1 + 1) (s0 := s0) (s1 := .val (.int c)) (s3 := .val (.int (sz : Nat))) (s5 := s5) (τ := [s7, s8, s9, s10]) hd4 (by omega) l1 l2 l3 (k := r1.toNat) (by omega)
  obtain ⟨r2, d6, e6, c0, c1, hd6⟩ := take_own hd5 (by omega) 5 (by decide) (by decide)
  obtain ⟨w, hw⟩ : ∃ w : Nat, 4 + r2 = (w : Int) := ⟨(4 + r2).toNat, by omega⟩
  obtain ⟨r3, d7, e7, f0, f1, hd7⟩ := take_own hd6 (by omega) 60 (by decide) (by decide)
  obtain ⟨ps, hps⟩ : ∃ ps, ps = rngD 1 (14 - 1 : Int).toNat ++ [D.int (14 + r3)] := ⟨_, rfl⟩
  have lps : ps.length = 14 := by rw [hps, List.length_append, rngD_length]; rfl
  have ad2 : addD (.lst (rngD 1 (14 - 1 : Int).toNat)) (.lst [.int (14 + r3)]) = some ⟨.lst ps, true⟩ := by
    rw [addL (by rw [rngD_length]; show 13 + 1 ≤ sizeD; unfold sizeD; omega), hps]
  have hp : ∀ d ∈ ps, ∃ b : Nat, d = .int b ∧ 1 ≤ b ∧ b ≤ 100 := fun d hd => by
    rw [hps] at hd
    rcases List.mem_append.mp hd with hd | hd
    · unfold rngD at hd
      obtain ⟨k, hk, rfl⟩ := List.mem_map.mp hd
      have h13 := List.mem_range.mp hk
      have : (14 - 1 : Int).toNat = 13 := rfl
      rw [this] at h13
      exact ⟨1 + k, by rw [Int.natCast_add]; rfl, by omega, by omega⟩
    · rw [List.mem_singleton.mp hd]
      exact ⟨(14 + r3).toNat, congrArg D.int (by omega), by omega, by omega⟩
  have w4 : (16 : Int) ≤ 2 ^ w := pw_le (a := 4) (by omega)
  have w8 : (2 : Int) ^ w ≤ 256 := pw_le (b := 8) (by omega)
  have ask : ∀ (b : Nat) (f : Option Nat), 1 ≤ b → b ≤ 100 → (∀ v, f = some v → v ≤ 10000) → Ask line sz b w f := fun b f h1 h2 h3 => by
    refine ⟨lm, by omega, by omega, by omega, by omega, by omega, by omega, by omega, by omega, h3, ?_⟩
    have k4 : ((line.length : Int) + (b : Int) - 1) / (b : Int) ≤ (line.length : Int) + (b : Int) - 1 := Int.ediv_le_self _ (by omega)
    have k5 : 0 ≤ ((line.length : Int) + (b : Int) - 1) / (b : Int) := Int.ediv_nonneg (by omega) (by omega)
    have := Int.mul_le_mul (show ((line.length : Int) + (b : Int) - 1) / (b : Int) ≤ 200 by omega) w8 (by omega) (by omega)
    omega
  obtain ⟨d8, t8, t9, e8, hd8⟩ := piece_loop hd7 (by omega) (sz := sz) (w := w) ask (by omega) (s0 := s0) (s1 := .val (.int c)) (s4 := .val (.lst ds)) (s6 := .un) (s8 := s8) (s9 := s9) (s10 := s10) hp (by omega)
  rw [if_neg (by intro z; rw [z] at lps; cases lps)] at e8
  obtain ⟨d9, e9, hd9⟩ := long_ok hd8 (by omega) (sz := sz) (by omega) (by omega)
  have q1 : F_adaptive_counts [.val (.lst (line.map D.int)), .val (.int (sz : Int)), .val (.int 3), .val (.int (w : Int)), .val .non] = .ok ⟨.lst (outL line sz 3 w none), true⟩ [.un, .un, .un, .un, .un] := (ask 3 none (by decide) (by decide) (fun v h => by cases h)).run
  have q2 : F_adaptive_counts [.val (.lst (line.map D.int)), .val (.int (sz : Int)), .val (.int 3), .val (.int (w : Int)), .val (.int (line.length : Int))] = .ok ⟨.lst (outL line sz 3 w none), true⟩ [.un, .un, .un, .un, .un] := by
    rw [← outL_all line (by decide)]
    exact (ask 3 (some line.length) (by decide) (by decide) (fun v h => by cases h; omega)).run
  have q3 := ne_L line sz 3 w none
  have lnl : lenD [.lst (line.map D.int)] = some ⟨.int (line.length : Int), false⟩ := by rw [d_lenl, List.length_map]
  refine ⟨.own d9, .val (.int (sz : Nat)), .val (.lst ds), .val (.lst (line.map D.int)), .val (.int (w : Nat)), t8, t9, .own (.lst (outL line sz 3 w none)), ?_⟩
  apply k_seq
  focus walk_at "dl"
  apply k_seq
  focus walk_at "dl"
  rw [hsz]
  apply k_seq
  focus walk_at "dl"
  apply k_seq
  focus walk_at "dl"
  apply k_seq
  focus walk_at "dl"
  rw [hw]
  apply k_seq
  focus walk_at "dl"
  apply k_seq
  focus walk_at "dl"
  apply k_seq
  focus walk_at "dl"
  walk_at "dl"
end K68
set_option Elab.async false
set_option linter.all false
set_option maxRecDepth 100000
set_option maxHeartbeats 1000000
namespace K68
open PySem PySem.Spec PyProof.Rows L2 DL
/-- the counts with their symbols -/
def tells (ps : List (Int × Int)) (gs : List Int) : List (Int × Int) := gs.zipIdx.map fun q : Int × Nat => ((ps.getD q.2 (0, 0)).1, q.1)
def addAt (fs : List Int) (ds : List D) : List Int := ds.foldl (fun fs d => match d with
  | .tup [_, .int j] => fs.set j.toNat (fs.getD j.toNat 0 + 1)
  | _ => fs) fs
def restsL (ps : List (Int × Int)) (size total : Int) : List D := ps.zipIdx.filterMap fun q : (Int × Int) × Nat => if total ≤ q.1.2 * size then some (D.tup [.int (0 - q.1.2 * size % total), .int (q.2 : Int)]) else none
def lack (fs : List Int) (size : Int) : Int := if fs.sum < size then size - fs.sum else 0
/-- the counts when all rests are told -/
def added (ps : List (Int × Int)) (size : Int) : List Int :=
  addAt (ps.map (fnd size (ps.map (·.2)).sum)) ((sortL (restsL ps size (ps.map (·.2)).sum)).take (lack (ps.map (fnd size (ps.map (·.2)).sum)) size).toNat)
theorem addAt_one (fs : List Int) (a : Int) (j : Nat) : addAt fs [.tup [.int a, .int (j : Int)]] = fs.set j (fs.getD j 0 + 1) := rfl
theorem addAt_cons (fs : List Int) (a : Int) (j : Nat) (ds : List D) : addAt fs (.tup [.int a, .int (j : Int)] :: ds) = addAt (fs.set j (fs.getD j 0 + 1)) ds := rfl
theorem addAt_snoc (fs : List Int) (ds : List D) (d : D) : addAt fs (ds ++ [d]) = addAt (addAt fs ds) [d] := by
  unfold addAt; rw [List.foldl_append]
theorem addAt_len : ∀ (ds : List D) (fs : List Int), (addAt fs ds).length = fs.length
  | [], fs => rfl
  | d :: ds, fs => by
    show (addAt _ ds).length = _
    rw [addAt_len ds]
    dsimp only
    split <;> simp
theorem addAt_facts : ∀ (ds : List D) (fs : List Int), (∀ d ∈ ds, ∃ (a : Int) (j : Nat), d = .tup [.int a, .int (j : Int)] ∧ j < fs.length) → (addAt fs ds).sum = fs.sum + ds.length ∧ ((∀ f ∈ fs, 1 ≤ f) → ∀ f ∈ addAt fs ds, 1 ≤ f)
  | [], fs, h => ⟨by simp [addAt], fun h => h⟩
  | d :: ds, fs, h => by
    obtain ⟨a, j, rfl, hj⟩ := h d (List.mem_cons_self ..)
    rw [addAt_cons]
    have e : fs.getD j 0 = fs[j] := by rw [List.getD_eq_getElem?_getD, List.getElem?_eq_getElem hj]; rfl
    obtain ⟨h1, h2⟩ := addAt_facts ds (fs.set j (fs.getD j 0 + 1)) (fun d hd => by
      rw [List.length_set]; exact h d (List.mem_cons_of_mem _ hd))
    refine ⟨?_, fun hp => h2 fun f hf => ?_⟩
    · rw [h1, sum_set hj, e, List.length_cons]; omega
    · rcases List.mem_or_eq_of_mem_set hf with hf | hf
      · exact hp f hf
      · have := hp _ (List.getElem_mem hj)
        omega
/-- the state of shared's body between the steps -/
def MidF (ps : List (Int × Int)) (size total : Int) (fs : List Int) (ρ : List S) : Prop := ∃ (s6 s7 s8 : S), ρ = [.val (.lst (ps.map pD)), .val (.int size), .val (.int total), .own (.lst (fs.map D.int)), .un, .un, s6, s7, s8, .un] ∧ fs.length = ps.length ∧ (s7 = .un ∨ ∃ d, s7 = .val d)
theorem spread_loopF {ps : List (Int × Int)} {size total : Int} {ds : List D} (hd : ∀ d ∈ ds, ∃ (a : Int) (j : Nat), d = .tup [.int a, .int (j : Int)] ∧ j < ps.length) {fs : List Int} {ρ : List S} (h : MidF ps size total fs ρ) :
    ∃ ρ', loopL (tTuple 2 (tsCons (tName 8) (tsCons (tName 7) (tsNil)))) (sPut 3 (takeS 7) (fBin addD (shareO (fBin ixD (nameO 3) (nameO 7))) (shareO (cst (.int 1))))) ds ρ = .ok .next ρ' ∧ MidF ps size total (addAt fs ds) ρ' := by
  have z := loop_inv (ds := ds) (ft := tTuple 2 (tsCons (tName 8) (tsCons (tName 7) (tsNil)))) (fb := sPut 3 (takeS 7) (fBin addD (shareO (fBin ixD (nameO 3) (nameO 7))) (shareO (cst (.int 1))))) (fun i ρ => MidF ps size total (addAt fs (ds.take i)) ρ) (fun i d ρ hi hm => ?_) (ρ := ρ) h
  · rw [List.take_length] at z; exact z
  · obtain ⟨s6, s7, s8, rfl, hl, h7⟩ := hm
    have et : ds.take (i + 1) = ds.take i ++ [d] := by rw [List.take_succ, hi]; rfl
    obtain ⟨gs, hgs⟩ : ∃ gs, gs = addAt fs (ds.take i) := ⟨_, rfl⟩
    rw [et, addAt_snoc, ← hgs]
    rw [← hgs] at hl
    obtain ⟨a, j, rfl, hj⟩ := hd d (List.mem_of_getElem? hi)
    have hjf : j < gs.length := by omega
    rw [addAt_one]
    have e : gs.getD j 0 = gs[j] := by rw [List.getD_eq_getElem?_getD, List.getElem?_eq_getElem hjf]; rfl
    rw [e]
    refine ⟨[.val (.lst (ps.map pD)), .val (.int size), .val (.int total), .own (.lst (gs.map D.int)), .un, .un, s6, .val (.int j), .val (.int a), .un], [.val (.lst (ps.map pD)), .val (.int size), .val (.int total), .own (.lst ((gs.set j (gs[j] + 1)).map D.int)), .un, .un, s6, .val (.int j), .val (.int a), .un], by simp, ?_, s6, _, _, rfl, by rw [List.length_set]; exact hl, .inr ⟨_, rfl⟩⟩
    have e1 := atI_ints gs hjf
    have e2 : ixN (gs.map D.int).length (j : Int) = some j := ixN_nat (by simpa using hjf)
    rw [List.length_map] at e2
    simp [e1, e2, List.map_set]
theorem down_loopF {ps : List (Int × Int)} (hp : ps ≠ []) {size total : Int} {fs : List Int} {ρ : List S} (h : MidF ps size total fs ρ) :
    ∃ ρ' gs, sWhile (boolR (fBin gtD (shareO (fB sumD (consA (nameO 3) (nilA)))) (nameO 1))) (sSeq (sSet 7 (fMeth "list" indexD (nameO 3) (consA (shareO (fB maxD (consA (nameO 3) (nilA)))) (nilA)))) (sPut 3 (takeS 7) (fBin subD (shareO (fBin ixD (nameO 3) (nameO 7))) (shareO (cst (.int 1)))))) ρ = .ok .next ρ' ∧ MidF ps size total gs ρ' ∧ ((ps.length : Int) ≤ size → size ≤ fs.sum → (∀ f ∈ fs, 1 ≤ f) → gs.sum = size ∧ ∀ g ∈ gs, 1 ≤ g) ∧ (fs.sum ≤ size → gs = fs) := by
  have z := while_inv2 (c := (boolR (fBin gtD (shareO (fB sumD (consA (nameO 3) (nilA)))) (nameO 1)))) (b := (sSeq (sSet 7 (fMeth "list" indexD (nameO 3) (consA (shareO (fB maxD (consA (nameO 3) (nilA)))) (nilA)))) (sPut 3 (takeS 7) (fBin subD (shareO (fBin ixD (nameO 3) (nameO 7))) (shareO (cst (.int 1))))))) (fun ρ => ∃ gs, MidF ps size total gs ρ ∧ ((ps.length : Int) ≤ size → size ≤ fs.sum → (∀ f ∈ fs, 1 ≤ f) → size ≤ gs.sum ∧ ∀ g ∈ gs, 1 ≤ g) ∧ (fs.sum ≤ size → gs = fs)) (msr size) (fun ρ hm => ?_) (ρ := ρ) ⟨fs, h, fun _ h1 h2 => ⟨h1, h2⟩, fun _ => rfl⟩
  · obtain ⟨ρ0, ρ', e, ⟨gs, ⟨s6, s7, s8, rfl, hl, h7⟩, hq1, hq2⟩, ec⟩ := z
    have ec' : ¬ size < gs.sum ∧ ρ' = [.val (.lst (ps.map pD)), .val (.int size), .val (.int total), .own (.lst (gs.map D.int)), .un, .un, s6, s7, s8, .un] := by
      simp at ec
      exact ⟨by omega, ec.2.symm⟩
    obtain ⟨c, rfl⟩ := ec'
    refine ⟨_, gs, e, ⟨s6, s7, s8, rfl, hl, h7⟩, fun h1 h2 h3 => ?_, hq2⟩
    obtain ⟨h4, h5⟩ := hq1 h1 h2 h3
    exact ⟨by omega, h5⟩
  · obtain ⟨gs, ⟨s6, s7, s8, rfl, hl, h7⟩, hq1, hq2⟩ := hm
    by_cases c : size < gs.sum
    · right
      have hne : gs ≠ [] := by
        intro z
        rw [z] at hl
        exact hp (List.eq_nil_of_length_eq_zero hl.symm)
      have hpos : 0 < gs.length := List.length_pos_iff.mpr hne
      obtain ⟨hmem, hmax⟩ := maxL_spec hpos
      obtain ⟨j, hj, ei, ej⟩ := d_index2 hmem
      have e1 := atI_ints gs hj
      have e2 : ixN gs.length (j : Int) = some j := ixN_nat hj
      refine ⟨[.val (.lst (ps.map pD)), .val (.int size), .val (.int total), .own (.lst (gs.map D.int)), .un, .un, s6, s7, s8, .un], [.val (.lst (ps.map pD)), .val (.int size), .val (.int total), .own (.lst ((gs.set j (gs[j] - 1)).map D.int)), .un, .un, s6, .val (.int j), s8, .un], ?_, ?_, ⟨gs.set j (gs[j] - 1), ⟨s6, _, s8, rfl, by rw [List.length_set]; exact hl, .inr ⟨_, rfl⟩⟩, fun h1 h2 h3 => ?_, fun h1 => ?_⟩, ?_⟩
      · simp [c]
      · simp [d_maxl hne, ei, e1, e2, List.map_set]
      · obtain ⟨h4, h5⟩ := hq1 h1 h2 h3
        refine ⟨by rw [sum_set hj]; omega, fun g hg => ?_⟩
        rcases List.mem_or_eq_of_mem_set hg with hg | hg
        · exact h5 g hg
        · have big : 2 ≤ gs[j] := by
            rw [ej]
            refine Decidable.byContradiction fun n => ?_
            have := sum_le (ns := gs) (b := 1) (fun g hg => by have := hmax g hg; omega)
            omega
          omega
      · have := hq2 h1
        rw [this] at c
        omega
      · simp only [msr, List.getElem?_cons_succ, List.getElem?_cons_zero, intsD_map, Option.getD_some, sum_set hj]
        omega
    · left
      exact ⟨[.val (.lst (ps.map pD)), .val (.int size), .val (.int total), .own (.lst (gs.map D.int)), .un, .un, s6, s7, s8, .un], by simp [c]⟩
theorem fnd_pos {size total : Int} {p : Int × Int} : 1 ≤ fnd size total p := by
  unfold fnd; split <;> omega
theorem rests_mem {ps : List (Int × Int)} {size total : Int} {d : D} (h : d ∈ restsL ps size total) : ∃ (a : Int) (j : Nat), d = .tup [.int a, .int (j : Int)] ∧ j < ps.length := by
  unfold restsL at h
  obtain ⟨q, hq, e⟩ := List.mem_filterMap.mp h
  obtain ⟨hl, hl2, _⟩ := List.mem_zipIdx hq
  split at e
  · cases e; exact ⟨_, q.2, rfl, by omega⟩
  · cases e
/-- as many rests as states that are lacking -/
theorem rests_many {size total : Int} (ht : 0 < total) (hs : 0 ≤ size) : ∀ (ps : List (Int × Int)) (n : Nat), (∀ p ∈ ps, 1 ≤ p.2) → (ps.map (·.2)).sum * size ≤ total * (ps.map (fnd size total)).sum + total * ((ps.zipIdx n).filterMap fun q : (Int × Int) × Nat => if total ≤ q.1.2 * size then some (D.tup [.int (0 - q.1.2 * size % total), .int (q.2 : Int)]) else none).length
  | [], n, _ => by simp
  | p :: ps, n, h => by
    have ih := rests_many ht hs ps (n + 1) fun q hq => h q (List.mem_cons_of_mem _ hq)
    rw [List.zipIdx_cons, List.filterMap_cons, List.map_cons, List.map_cons, List.sum_cons, List.sum_cons, Int.add_mul, Int.mul_add]
    have e := Int.mul_ediv_add_emod (p.2 * size) total
    have e1 := Int.emod_lt_of_pos (p.2 * size) ht
    have e0 := Int.emod_nonneg (p.2 * size) (b := total) (by omega)
    by_cases c : total ≤ p.2 * size
    · rw [if_pos c]
      simp only [List.length_cons, Int.natCast_add, Int.mul_add]
      have f : p.2 * size / total ≤ fnd size total p := by unfold fnd; split <;> omega
      have := Int.mul_le_mul_of_nonneg_left f (show 0 ≤ total by omega)
      omega
    · rw [if_neg c]
      simp only
      have := Int.mul_le_mul_of_nonneg_left (fnd_pos (size := size) (total := total) (p := p)) (show 0 ≤ total by omega)
      omega
theorem added_ok {ps : List (Int × Int)} {size : Int} : ∀ d ∈ (sortL (restsL ps size (ps.map (·.2)).sum)).take (lack (ps.map (fnd size (ps.map (·.2)).sum)) size).toNat, ∃ (a : Int) (j : Nat), d = .tup [.int a, .int (j : Int)] ∧ j < (ps.map (fnd size (ps.map (·.2)).sum)).length := fun d hd => by
  rw [List.length_map]
  exact rests_mem (List.mem_mergeSort.mp (List.mem_of_mem_take hd))
theorem added_pos {ps : List (Int × Int)} {size : Int} (G : Good ps) : ∀ f ∈ added ps size, 1 ≤ f :=
  (addAt_facts _ _ added_ok).2 fun f hf => by
    obtain ⟨p, _, rfl⟩ := List.mem_map.mp hf
    exact fnd_pos
theorem added_sum {ps : List (Int × Int)} {size : Int} (G : Good ps) (h1 : 1 ≤ size) (h2 : (ps.length : Int) ≤ size) : size ≤ (added ps size).sum := by
  unfold added
  rw [(addAt_facts _ _ added_ok).1]
  obtain ⟨total, ht⟩ : ∃ t, t = (ps.map (·.2)).sum := ⟨_, rfl⟩
  have t1 : (ps.length : Int) ≤ total := by
    have := sum_ge (ns := ps.map (·.2)) (fun n hn => by obtain ⟨p, hp, rfl⟩ := List.mem_map.mp hn; exact G.lo p hp)
    rw [List.length_map] at this
    omega
  have pl : 0 < ps.length := List.length_pos_iff.mpr G.ne
  have rm := rests_many (size := size) (total := total) (by omega) (by omega) ps 0 G.lo
  rw [← ht] at rm ⊢
  have ln : (sortL (restsL ps size total)).length = (restsL ps size total).length := List.length_mergeSort _
  have le : size ≤ (ps.map (fnd size total)).sum + (restsL ps size total).length := by
    refine Int.le_of_mul_le_mul_left (a := total) ?_ (by omega)
    rw [Int.mul_add]
    exact rm
  rw [List.length_take, ln]
  unfold lack
  split <;> omega
theorem shared_val {ps : List (Int × Int)} (G : Good ps) {size : Int} (h1 : 1 ≤ size) (h2 : size ≤ 4096) : ∃ gs : List Int, gs.length = ps.length ∧ F_shared [.val (.lst (ps.map pD)), .val (.int size)] = .ok ⟨.lst ((tells ps gs).map pD), true⟩ [.un, .un] ∧
    ((ps.length : Int) ≤ size → gs.sum = size ∧ ∀ g ∈ gs, 1 ≤ g) ∧ ((added ps size).sum ≤ size → gs = added ps size) := by
  obtain ⟨total, ht⟩ : ∃ t, t = (ps.map (·.2)).sum := ⟨_, rfl⟩
  have t1 : (ps.length : Int) ≤ total := by
    have := sum_ge (ns := ps.map (·.2)) (fun n hn => by obtain ⟨p, hp, rfl⟩ := List.mem_map.mp hn; exact G.lo p hp)
    rw [List.length_map] at this
    omega
  have t2 : total ≤ 256 * 20000 := by
    have := sum_le (ns := ps.map (·.2)) (b := 20000) (fun n hn => by obtain ⟨p, hp, rfl⟩ := List.mem_map.mp hn; exact G.hi p hp)
    rw [List.length_map] at this
    have := G.len
    omega
  have pl : 0 < ps.length := List.length_pos_iff.mpr G.ne
  have t0 : 0 < total := by omega
  have dt : okDiv total = true := okDiv_of t0 (by omega)
  have mt : ∀ p ∈ ps, okMul p.2 size = true := fun p hp => okMul_of (.inr (by omega))
  have sz : ps.length ≤ sizeD := by have := G.len; unfold sizeD; omega
  have hsum := sum_ok (ps := ps) (by have := G.len; omega)
  rw [← ht] at hsum
  -- found
  have hf := lc_mapF (vs := [4, 5]) (ft := tTuple 2 (tsCons (tName 4) (tsCons (tName 5) (tsNil)))) (fc := M.pure true) (fe := fB maxD (consA (shareO (cst (.int 1))) (consA (shareO (fBin fdivD (shareO (fBin mulD (nameO 5) (nameO 1))) (nameO 2))) (nilA))))
    (ρw := [.val (.lst (ps.map pD)), .val (.int size), .val (.int total), .un, .un, .un, .un, .un, .un, .un]) pD (fun p => .int (fnd size total p)) (ps := ps) (ρ := [.val (.lst (ps.map pD)), .val (.int size), .val (.int total), .un, .un, .un, .un, .un, .un, .un]) rfl
    (fun p hp => ⟨[.val (.lst (ps.map pD)), .val (.int size), .val (.int total), .un, .val (.int p.1), .val (.int p.2), .un, .un, .un, .un], [.val (.lst (ps.map pD)), .val (.int size), .val (.int total), .un, .val (.int p.1), .val (.int p.2), .un, .un, .un, .un], [.val (.lst (ps.map pD)), .val (.int size), .val (.int total), .un, .val (.int p.1), .val (.int p.2), .un, .un, .un, .un], false, by simp [pD], rfl, by
      simp [d_mul (mt p hp), d_fdiv dt, fnd], by simp⟩) sz
  have ef : (ps.map fun p => D.int (fnd size total p)) = (ps.map (fnd size total)).map D.int := by rw [List.map_map]; rfl
  rw [ef] at hf
  obtain ⟨fs, hfs⟩ : ∃ fs, fs = ps.map (fnd size total) := ⟨_, rfl⟩
  rw [← hfs] at hf
  have lf : fs.length = ps.length := by rw [hfs, List.length_map]
  -- rests
  have hr := lc_fmF (vs := [7, 4, 5]) (ft := tTuple 2 (tsCons (tName 7) (tsCons (tTuple 2 (tsCons (tName 4) (tsCons (tName 5) (tsNil)))) (tsNil)))) (fc := boolR (fBin geD (shareO (fBin mulD (nameO 5) (nameO 1))) (nameO 2)))
    (fe := fDisp .tup (consA (shareO (fBin subD (shareO (cst (.int 0))) (shareO (fBin modD (shareO (fBin mulD (nameO 5) (nameO 1))) (nameO 2))))) (consA (shareO (takeS 7)) (nilA))))
    (ρw := [.val (.lst (ps.map pD)), .val (.int size), .val (.int total), .own (.lst (fs.map D.int)), .un, .un, .un, .un, .un, .un]) (fun q : (Int × Int) × Nat => D.tup [.int (q.2 : Int), pD q.1])
    (fun q : (Int × Int) × Nat => if total ≤ q.1.2 * size then some (.tup [.int (0 - q.1.2 * size % total), .int (q.2 : Int)]) else none) (ps := ps.zipIdx) (acc := []) (ρ := [.val (.lst (ps.map pD)), .val (.int size), .val (.int total), .own (.lst (fs.map D.int)), .un, .un, .un, .un, .un, .un]) rfl
    (fun q hq => by
      have hp : q.1 ∈ ps := by
        obtain ⟨_, _, e⟩ := List.mem_zipIdx hq
        rw [e]
        exact List.getElem_mem _
      refine ⟨[.val (.lst (ps.map pD)), .val (.int size), .val (.int total), .own (.lst (fs.map D.int)), .val (.int q.1.1), .val (.int q.1.2), .un, .val (.int (q.2 : Int)), .un, .un], [.val (.lst (ps.map pD)), .val (.int size), .val (.int total), .own (.lst (fs.map D.int)), .val (.int q.1.1), .val (.int q.1.2), .un, .val (.int (q.2 : Int)), .un, .un], by simp [pD], ?_⟩
      by_cases c : total ≤ q.1.2 * size
      · refine .inr ⟨[.val (.lst (ps.map pD)), .val (.int size), .val (.int total), .own (.lst (fs.map D.int)), .val (.int q.1.1), .val (.int q.1.2), .un, .val (.int (q.2 : Int)), .un, .un], ⟨.tup [.int (0 - q.1.2 * size % total), .int (q.2 : Int)], true⟩, ?_, ?_, if_pos c, by simp⟩
        · simp [d_mul (mt _ hp), c]
        · simp [d_mul (mt _ hp), d_mod t0, sizeD]
      · refine .inl ⟨if_neg c, ?_, by simp⟩
        simp [d_mul (mt _ hp), c]) (by simpa using sz)
  rw [← enumL_zip, List.nil_append] at hr
  obtain ⟨rs, hrs⟩ : ∃ rs, rs = ps.zipIdx.filterMap (fun q : (Int × Int) × Nat => if total ≤ q.1.2 * size then some (D.tup [.int (0 - q.1.2 * size % total), .int (q.2 : Int)]) else none) := ⟨_, rfl⟩
  rw [← hrs] at hr
  have mr : ∀ d ∈ rs, ∃ (a : Int) (j : Nat), d = .tup [.int a, .int (j : Int)] ∧ j < ps.length := fun d hd => by
    rw [hrs] at hd
    obtain ⟨q, hq, e⟩ := List.mem_filterMap.mp hd
    obtain ⟨hl, hl2, _⟩ := List.mem_zipIdx hq
    split at e
    · cases e
      exact ⟨_, q.2, rfl, by omega⟩
    · cases e
  have so : sortOk rs = true := sort_pairs fun d hd => by obtain ⟨a, j, e, _⟩ := mr d hd; exact ⟨a, j, e⟩
  have es : sortedD [.lst rs] = some ⟨.lst (sortL rs), true⟩ := if_pos so
  obtain ⟨k, hk⟩ : ∃ k, k = (if fs.sum < size then size - fs.sum else 0) := ⟨_, rfl⟩
  have k0 : 0 ≤ k := by rw [hk]; split <;> omega
  have ec : cutL (sortL rs) none (some k) = (sortL rs).take k.toNat := cut_from0 _ _ k0
  have mtk : ∀ d ∈ (sortL rs).take k.toNat, ∃ (a : Int) (j : Nat), d = .tup [.int a, .int (j : Int)] ∧ j < ps.length := fun d hd => mr d (List.mem_mergeSort.mp (List.mem_of_mem_take hd))
  have m0 : MidF ps size total fs [.val (.lst (ps.map pD)), .val (.int size), .val (.int total), .own (.lst (fs.map D.int)), .un, .un, .own (.lst rs), .un, .un, .un] := ⟨_, _, _, rfl, lf, .inl rfl⟩
  obtain ⟨ρ1, l1, m1⟩ := spread_loopF mtk m0
  have eadd : addAt fs ((sortL rs).take k.toNat) = added ps size := by
    unfold added
    rw [← ht, ← hfs]
    unfold lack restsL
    rw [← hk, hrs]
  rw [eadd] at m1
  obtain ⟨ρ2, gs, l2, m2, pg1, pg2⟩ := down_loopF G.ne m1
  obtain ⟨s6, s7, s8, rfl, lg, h7⟩ := m2
  have hlast := lc_mapF (vs := [7, 9]) (ft := tTuple 2 (tsCons (tName 7) (tsCons (tName 9) (tsNil)))) (fc := M.pure true) (fe := fDisp .tup (consA (shareO (fBin ixD (shareO (fBin ixD (nameO 0) (nameO 7))) (shareO (cst (.int 0))))) (consA (shareO (takeS 9)) (nilA))))
    (ρw := [.val (.lst (ps.map pD)), .val (.int size), .val (.int total), .val (.lst (gs.map D.int)), .un, .un, s6, .un, s8, .un]) (fun q : Int × Nat => D.tup [.int (q.2 : Int), .int q.1]) (fun q : Int × Nat => pD ((ps.getD q.2 (0, 0)).1, q.1)) (ps := gs.zipIdx)
    (ρ := [.val (.lst (ps.map pD)), .val (.int size), .val (.int total), .val (.lst (gs.map D.int)), .un, .un, s6, s7, s8, .un]) (by simp)
    (fun q hq => by
      obtain ⟨hl, hl2, _⟩ := List.mem_zipIdx hq
      have hj : q.2 < ps.length := by omega
      refine ⟨[.val (.lst (ps.map pD)), .val (.int size), .val (.int total), .val (.lst (gs.map D.int)), .un, .un, s6, .val (.int (q.2 : Int)), s8, .val (.int q.1)], [.val (.lst (ps.map pD)), .val (.int size), .val (.int total), .val (.lst (gs.map D.int)), .un, .un, s6, .val (.int (q.2 : Int)), s8, .val (.int q.1)], [.val (.lst (ps.map pD)), .val (.int size), .val (.int total), .val (.lst (gs.map D.int)), .un, .un, s6, .val (.int (q.2 : Int)), s8, .val (.int q.1)], true, by simp, rfl, ?_, by simp⟩
      have e1 := getD_map ps hj
      have e2 : ps[q.2]?.getD (0, 0) = ps[q.2] := by rw [List.getElem?_eq_getElem hj]; rfl
      simp [e1, pD, sizeD, List.getD_eq_getElem?_getD, e2]
      rfl) (by simp; omega)
  rw [← enumL_zip] at hlast
  refine ⟨gs, lg, ?_, fun hle => pg1 hle (added_sum G h1 hle) (added_pos G), pg2⟩
  show F_shared _ = .ok ⟨.lst ((gs.zipIdx.map (fun q : Int × Nat => ((ps.getD q.2 (0, 0)).1, q.1))).map pD), true⟩ _
  have el : (gs.zipIdx.map fun q : Int × Nat => pD ((ps.getD q.2 (0, 0)).1, q.1)) = (gs.zipIdx.map (fun q : Int × Nat => ((ps.getD q.2 (0, 0)).1, q.1))).map pD := by rw [List.map_map]; rfl
  rw [el] at hlast
  rcases h7 with rfl | ⟨d7, rfl⟩
  · simp [F_shared, B_shared, hsum, r_fLc, listD, hf, hr, es, ← hk, ec, l1, l2, hlast, outs, List.range, List.range.loop, -List.map_map]
  · simp [F_shared, B_shared, hsum, r_fLc, listD, hf, hr, es, ← hk, ec, l1, l2, hlast, outs, List.range, List.range.loop, -List.map_map]
end K68
set_option Elab.async false
set_option linter.all false
set_option maxRecDepth 100000
set_option maxHeartbeats 400000
namespace K68
open PySem PySem.Spec PyProof.Rows L2 DL
/-! the words of a run -/
local macro_rules | `(tactic| walk_at "lt") => `(tactic| exact Nat.le_of_ble_eq_true rfl)
local macro_rules | `(tactic| walk_at "ls") => `(tactic| first | with_reducible exact st_zero | ((with_reducible apply st_succ); walk_at "ls"))
local macro_rules | `(tactic| walk_at "rp") => `(tactic| first | with_reducible exact rp_zero | (apply rp_succ; walk_at "rp"))
local macro_rules | `(tactic| walk_at "ap") => `(tactic| first | with_reducible exact ap_nil | ((with_reducible apply ap_cons); walk_at "ap"))
local macro_rules | `(tactic| walk_at "sr") => `(tactic| first | ((with_reducible apply sr_v); walk_at "ls") | ((with_reducible apply sr_o); walk_at "ls"))
local macro_rules | `(tactic| walk_at "vl") => `(tactic| first | with_reducible exact v_nil | ((with_reducible apply v_cons); walk_at "vl"))
local macro_rules | `(tactic| walk_at "rs") => `(tactic| first | with_reducible exact rs_nil | ((with_reducible apply rs_v); walk_at "rs") | ((with_reducible apply rs_r); (focus rfl); walk_at "rs"))
local macro_rules | `(tactic| walk_at "as") => `(tactic| first | with_reducible exact as_nil | ((apply as_v); walk_at "as") | ((apply as_o); (focus exact rfl); walk_at "as") | ((apply as_s); (focus exact rfl); walk_at "as"))
local macro_rules | `(tactic| walk_at "bk") => `(tactic| first | with_reducible exact bk_nil | ((apply bk_v); walk_at "bk") | ((apply bk_o); (focus exact rfl); (focus walk_at "bk"); (focus walk_at "ls")) | ((apply bk_s); (focus exact rfl); (focus walk_at "bk"); (focus walk_at "ls")))
local macro_rules | `(tactic| walk_at "bs") => `(tactic| first | with_reducible exact bs_nil | ((with_reducible apply bs_v); (focus walk_at "bs"); (focus exact rfl); (focus walk_at "ls")) | ((with_reducible apply bs_u); (focus walk_at "bs"); (focus exact rfl); (focus walk_at "ls")))
local macro_rules | `(tactic| walk_at "wp") => `(tactic| first | with_reducible exact wp_nil | ((with_reducible apply wp_v); (focus walk_at "wp"); (focus walk_at "ls")))
local macro_rules | `(tactic| walk_at "ar") => `(tactic| first | with_reducible exact ar_nil | ((with_reducible apply ar_0); (focus exact rfl); (focus walk_at "ar")) | ((with_reducible apply ar_1); (focus exact rfl); (focus walk_at "ar")) | ((with_reducible apply ar_2); (focus exact rfl); (focus walk_at "ar")))
local macro_rules | `(tactic| walk_at "dc") => `(tactic| first | rfl | with_reducible assumption | exact decide_eq_true (by omega) | exact decide_eq_false (by omega))
local macro_rules | `(tactic| walk_at "dp") => `(tactic| first
  | with_reducible assumption
  | with_reducible exact d_add _ _ | with_reducible exact d_sub _ _ | with_reducible exact d_lt _ _ | with_reducible exact d_le _ _ | with_reducible exact d_gt _ _ | with_reducible exact d_ge _ _ | with_reducible exact d_eq_int _ _ | with_reducible exact d_isn _ | with_reducible exact d_isnn _ | with_reducible exact d_max _ _
  | with_reducible exact d_mul (by assumption) | with_reducible exact d_fdiv (by assumption) | with_reducible exact d_mod (by assumption) | with_reducible exact d_shl (by assumption) | with_reducible exact d_pow (by assumption)
  | with_reducible exact d_lenl _ | with_reducible exact d_lent _ | with_reducible exact d_cut _ _ _ | with_reducible exact d_cutc _ _ _
  | rfl)
local macro_rules | `(tactic| walk_at "dl") => `(tactic| first
  | with_reducible assumption
  | with_reducible exact k_cst | with_reducible exact k_nil | with_reducible exact k_next | with_reducible exact k_p0
  | ((with_reducible apply k_takeV); (focus exact rfl)) | ((with_reducible apply k_takeO); (focus exact rfl); (focus walk_at "ls")) | ((with_reducible apply k_moveV); (focus exact rfl)) | ((with_reducible apply k_moveO); (focus exact rfl); (focus walk_at "ls"))
  | ((with_reducible apply k_nameV); (focus exact rfl)) | ((with_reducible apply k_nameO); (focus exact rfl))
  | ((with_reducible apply k_shareO); walk_at "dl")
  | ((with_reducible apply k_cons); (focus walk_at "dl"); (focus walk_at "dl"))
  | ((with_reducible apply k_bin); (focus walk_at "dl"); (focus walk_at "dl"); (focus rfl); (focus rfl); (focus walk_at "dp"))
  | ((with_reducible apply k_un); (focus walk_at "dl"); (focus rfl); (focus walk_at "dp"))
  | ((with_reducible apply k_B); (focus walk_at "dl"); (focus walk_at "rs"); (focus walk_at "dp"))
  | ((with_reducible apply k_disp); (focus walk_at "dl"); (focus walk_at "vl"); (focus walk_at "lt"))
  | ((with_reducible apply k_p1); walk_at "dl")
  | ((with_reducible apply k_slice); (focus walk_at "dl"); (focus walk_at "dl"); (focus walk_at "dl"); (focus rfl); (focus walk_at "dp"))
  | ((with_reducible apply k_meth); (focus walk_at "dl"); (focus rfl); (focus rfl); (focus walk_at "dl"); (focus rfl); (focus walk_at "rs"); (focus walk_at "dp"))
  | ((with_reducible apply k_mut); (focus rfl); (focus rfl); (focus walk_at "dl"); (focus rfl); (focus walk_at "vl"); (focus walk_at "dp"); (focus walk_at "ls"))
  | ((with_reducible apply k_bool); (focus walk_at "dl"); (focus walk_at "dc"))
  | ((with_reducible apply k_andF); (focus walk_at "dl")) | ((with_reducible apply k_andT); (focus walk_at "dl"); (focus walk_at "dl"))
  | ((with_reducible apply k_orF); (focus walk_at "dl"); (focus walk_at "dl")) | ((with_reducible apply k_orT); (focus walk_at "dl"))
  | ((with_reducible apply k_not); (focus walk_at "dl"); (focus rfl))
  | ((with_reducible apply k_ifF); (focus walk_at "dl"); (focus walk_at "dl")) | ((with_reducible apply k_ifT); (focus walk_at "dl"); (focus walk_at "dl"))
  | ((with_reducible apply k_sIfF); (focus walk_at "dl"); (focus walk_at "dl")) | ((with_reducible apply k_sIfT); (focus walk_at "dl"); (focus walk_at "dl"))
  | ((with_reducible apply k_seq); (focus walk_at "dl"); (focus walk_at "dl"))
  | ((with_reducible apply k_drop); walk_at "dl")
  | ((with_reducible apply k_ret); walk_at "dl")
  | ((with_reducible apply k_set); (focus walk_at "dl"); (focus walk_at "lt"); (focus walk_at "sr"))
  | ((with_reducible apply k_par); (focus walk_at "dl"); (focus walk_at "dl"); (focus (exact ⟨by walk_at "lt", by walk_at "lt"⟩)); (focus walk_at "sr"); (focus walk_at "sr"))
  | ((with_reducible apply k_rng1); (focus walk_at "dl"); (focus (first | with_reducible assumption | rfl)))
  | ((with_reducible apply k_rng2); (focus walk_at "dl"); (focus (first | with_reducible assumption | rfl)); (focus (first | with_reducible assumption | rfl)))
  | ((with_reducible apply k_listR1); (focus walk_at "dl"); (focus (first | with_reducible assumption | rfl)))
  | ((with_reducible apply k_listR2); (focus walk_at "dl"); (focus walk_at "dl"); (focus (first | with_reducible assumption | rfl)))
  | ((with_reducible apply k_lc); (focus walk_at "dl"); (focus rfl); (focus with_reducible assumption); (focus walk_at "bs"))
  | ((with_reducible apply k_for); (focus walk_at "dl"); (focus with_reducible assumption))
  | ((with_reducible apply k_iter); (focus walk_at "dl"); (focus rfl))
  | ((with_reducible apply k_call); (focus walk_at "dl"); (focus rfl); (focus walk_at "as"); (focus exact ⟨rfl, rfl⟩); (focus with_reducible assumption); (focus walk_at "bk"))
  | ((with_reducible apply k_callK); (focus walk_at "dl"); (focus walk_at "dl"); (focus rfl); (focus rfl); (focus walk_at "ar"); (focus walk_at "as"); (focus exact ⟨rfl, rfl⟩); (focus with_reducible assumption); (focus walk_at "bk")))
theorem pD_inj {a b : List (Int × Int)} (h : a.map pD = b.map pD) : a = b := by
  induction a generalizing b with
  | nil => cases b with
    | nil => rfl
    | cons y ys => cases h
  | cons x xs ih =>
    cases b with
    | nil => cases h
    | cons y ys =>
      rw [List.map_cons, List.map_cons] at h
      obtain ⟨h1, h2⟩ := List.cons.inj h
      have : x = y := by
        obtain ⟨x1, x2⟩ := x
        obtain ⟨y1, y2⟩ := y
        unfold pD at h1
        injection h1 with h1
        injection h1 with h3 h4
        injection h4 with h4
        injection h3 with h3
        injection h4 with h4
        simp only at h3 h4
        rw [h3, h4]
      rw [this, ih h2]
theorem shq_tells {ps : List (Int × Int)} (G : Good ps) {size : Int} (h1 : 1 ≤ size) (h2 : size ≤ 4096) : ∃ gs : List Int, gs.length = ps.length ∧ shq ps size = tells ps gs ∧ ((ps.length : Int) ≤ size → gs.sum = size ∧ ∀ g ∈ gs, 1 ≤ g) ∧ ((added ps size).sum ≤ size → gs = added ps size) := by
  obtain ⟨gs, e1, e2, e3⟩ := shared_val G h1 h2
  refine ⟨gs, e1, ?_, e3⟩
  have e := shared_eq G h1 h2
  rw [e2] at e
  injection e with e
  injection e with e
  injection e with e
  exact (pD_inj e).symm
theorem added_flat {ps : List (Int × Int)} {size : Int} (h : size ≤ (ps.map (fnd size (ps.map (·.2)).sum)).sum) : added ps size = ps.map (fnd size (ps.map (·.2)).sum) := by
  unfold added lack
  rw [if_neg (by omega)]
  rfl
theorem row_eA : row [] 2 = [(0, 1), (1, 1)] := by decide
theorem row_eB : row [0] 2 = [(0, 2), (1, 1)] := by decide
theorem shq_A : shq (row [] 2) 4 = [(0, 2), (1, 2)] := by
  obtain ⟨gs, h1, h2, h3, h4⟩ := shq_tells (row_good (sl := []) (sz := 2) (by decide) (by decide) (by decide)) (size := 4) (by decide) (by decide)
  have e : added (row [] 2) 4 = [2, 2] := by
    rw [added_flat (by rw [row_eA]; decide), row_eA]; decide
  rw [h2, h4 (by rw [e]; decide), e, row_eA]
  rfl
theorem sort_B : sortL (restsL [(0, 2), (1, 1)] 4 3) = [.tup [.int (-2), .int 0], .tup [.int (-1), .int 1]] := by
  have e : restsL [(0, 2), (1, 1)] 4 3 = [.tup [.int (-2), .int 0], .tup [.int (-1), .int 1]] := rfl
  rw [e]
  unfold sortL
  refine List.mergeSort_of_pairwise ?_
  refine List.Pairwise.cons (fun d hd => ?_) (List.Pairwise.cons (fun d hd => by cases hd) List.Pairwise.nil)
  rw [List.mem_singleton.mp hd]
  rfl
theorem shq_B : shq (row [0] 2) 4 = [(0, 3), (1, 1)] := by
  obtain ⟨gs, h1, h2, h3, h4⟩ := shq_tells (row_good (sl := [0]) (sz := 2) (by decide) (by decide) (by decide)) (size := 4) (by decide) (by decide)
  have e : added (row [0] 2) 4 = [3, 1] := by
    rw [row_eB]
    unfold added
    have e1 : (List.map (fun x : Int × Int => x.2) [(0, 2), (1, 1)]).sum = 3 := rfl
    rw [e1, sort_B]
    rfl
  rw [h2, h4 (by rw [e]; decide), e, row_eB]
  rfl
theorem fnd_one {n : Nat} (h : 0 < n) (k : Int) : fnd (n : Int) (n : Int) (k, 1) = 1 := by
  have e : (1 : Int) * (n : Int) / (n : Int) = 1 := by rw [Int.one_mul]; exact Int.ediv_self (by omega)
  show (if (1 : Int) * (n : Int) / (n : Int) > 1 then _ else _) = _
  rw [e]; rfl
theorem row_nil (n : Nat) : row [] n = (List.range n).map fun k : Nat => ((k : Int), (1 : Int)) := rfl
theorem sum_ones : ∀ (n : Nat), (List.replicate n (1 : Int)).sum = n
  | 0 => rfl
  | n + 1 => by rw [List.replicate_succ, List.sum_cons, sum_ones n]; omega
theorem map_one {α : Type} (f : α → Int) (xs : List α) (h : ∀ x ∈ xs, f x = 1) : xs.map f = List.replicate xs.length 1 := by
  rw [List.eq_replicate_iff]
  refine ⟨by simp, fun d hd => ?_⟩
  obtain ⟨x, hx, rfl⟩ := List.mem_map.mp hd
  exact h x hx
theorem shq_ones {n : Nat} (h1 : 1 ≤ n) (h2 : n ≤ 256) : shq (row [] n) (n : Int) = (List.range n).map fun k : Nat => ((k : Int), (1 : Int)) := by
  obtain ⟨gs, l1, l2, l3, l4⟩ := shq_tells (row_good (sl := []) (sz := n) h1 h2 (by decide)) (size := (n : Int)) (by omega) (by omega)
  have t : ((row [] n).map (·.2)).sum = (n : Int) := by
    rw [row_nil, List.map_map, map_one ((fun x : Int × Int => x.2) ∘ fun k : Nat => ((k : Int), (1 : Int))) _ (fun _ _ => rfl), List.length_range, sum_ones]
  have f : (row [] n).map (fnd (n : Int) (n : Int)) = List.replicate n 1 := by
    rw [row_nil, List.map_map, map_one (fnd (n : Int) (n : Int) ∘ fun k : Nat => ((k : Int), (1 : Int))) _ (fun k _ => fnd_one (n := n) (by omega) (k : Int)), List.length_range]
  have e : added (row [] n) n = List.replicate n 1 := by
    rw [added_flat (by rw [t, f, sum_ones]; omega), t, f]
  rw [l2, l4 (by rw [e, sum_ones]; omega), e, row_nil]
  unfold tells
  apply List.ext_getElem
  · simp
  · intro k k1 k2
    have hk : k < n := by simpa using k2
    simp [List.getD_eq_getElem?_getD, hk]
theorem outL_nil (sz b w : Nat) (hb : 0 < b) (f : Option Nat) : outL [] sz b w f = [] := by
  unfold outL
  have : nBl ([] : List Int).length b = 0 := Nat.div_eq_of_lt (by show 0 + b - 1 < b; omega)
  rw [this]; rfl
theorem ask1 : Ask [] 2 1 1 none := ⟨fun _ h => (by cases h), by decide, by decide, by decide, by decide, by decide, by decide, by decide, by decide, fun _ h => (by cases h), by decide⟩
theorem ask2 : Ask [255] 256 9 8 none := ⟨fun _ h => (by rw [List.mem_singleton.mp h]; decide), by decide, by decide, by decide, by decide, by decide, by decide, by decide, by decide, fun _ h => (by cases h), by decide⟩
theorem ask3 : Ask [0, 1] 2 1 2 none := ⟨fun n h => (by
  simp only [List.mem_cons, List.not_mem_nil, or_false] at h
  rcases h with rfl | rfl <;> decide), by decide, by decide, by decide, by decide, by decide, by decide, by decide, by decide, fun _ h => (by cases h), by decide⟩
theorem end1 : F_adaptive_counts [.val (.lst []), .val (.int 2), .val (.int 1), .val (.int 1), .val .non] = .ok ⟨.lst [], true⟩ [.un, .un, .un, .un, .un] := by
  have h := ask1.run
  rw [outL_nil _ _ _ (by decide)] at h
  exact h
theorem end2 : F_adaptive_counts [.val (.lst [.int 255]), .val (.int 256), .val (.int 9), .val (.int 8), .val .non] = .ok ⟨.lst [.lst (((List.range 256).map fun k : Nat => ((k : Int), (1 : Int))).map pD)], true⟩ [.un, .un, .un, .un, .un] := by
  have h := ask2.run
  have e : outL [255] 256 9 8 none = [.lst (((List.range 256).map fun k : Nat => ((k : Int), (1 : Int))).map pD)] := by
    show [outD [] 256 8] = _
    unfold outD
    rw [show (2 : Int) ^ 8 = ((256 : Nat) : Int) from rfl, shq_ones (by decide) (by decide)]
  rw [e] at h
  exact h
theorem end3 : F_adaptive_counts [.val (.lst [.int 0, .int 1]), .val (.int 2), .val (.int 1), .val (.int 2), .val .non] = .ok ⟨.lst [.lst [.tup [.int 0, .int 2], .tup [.int 1, .int 2]], .lst [.tup [.int 0, .int 3], .tup [.int 1, .int 1]]], true⟩ [.un, .un, .un, .un, .un] := by
  have h := ask3.run
  have e : outL [0, 1] 2 1 2 none = [.lst [.tup [.int 0, .int 2], .tup [.int 1, .int 2]], .lst [.tup [.int 0, .int 3], .tup [.int 1, .int 1]]] := by
    show [outD [] 2 2, outD [0] 2 2] = _
    unfold outD
    rw [show (2 : Int) ^ 2 = 4 from rfl, shq_A, shq_B]
    rfl
  rw [e] at h
  exact h
theorem eq_fine {n : Nat} {d : D} (h : fine n d = true) (hn : n ≤ 64) : eqD d d = some ⟨.bl true, false⟩ := d_eq_self h hn
theorem lc_ones {s0 s1 s2 s3 s4 s5 s7 s8 s9 s10 : S} : lcL [6] (tName 6) (M.pure true) (fDisp .tup (consA (shareO (takeS 6)) (consA (shareO (cst (.int 1))) (nilA)))) (rngD 0 (256 : Int).toNat) [] [s0, s1, s2, s3, s4, s5, .un, s7, s8, s9, s10] = .ok (((List.range 256).map fun k : Nat => ((k : Int), (1 : Int))).map pD) [s0, s1, s2, s3, s4, s5, .un, s7, s8, s9, s10] := by
  have h := lc_mapF (vs := [6]) (ft := tName 6) (fc := M.pure true) (fe := fDisp .tup (consA (shareO (takeS 6)) (consA (shareO (cst (.int 1))) (nilA)))) (ρw := [s0, s1, s2, s3, s4, s5, .un, s7, s8, s9, s10]) (fun k : Nat => D.int (0 + (k : Nat))) (fun k : Nat => pD (0 + (k : Nat), (1 : Int))) (ps := List.range 256) (ρ := [s0, s1, s2, s3, s4, s5, .un, s7, s8, s9, s10]) rfl
    (fun k _ => by
      refine ⟨[s0, s1, s2, s3, s4, s5, .val (.int (0 + (k : Nat))), s7, s8, s9, s10], [s0, s1, s2, s3, s4, s5, .val (.int (0 + (k : Nat))), s7, s8, s9, s10], [s0, s1, s2, s3, s4, s5, .val (.int (0 + (k : Nat))), s7, s8, s9, s10], true, rfl, rfl, ?_, rfl⟩
      show _ = Res.ok (⟨.tup [.int (0 + (k : Nat)), .int 1], true⟩ : R) _
      walk_at "dl") (by rw [List.length_range]; unfold sizeD; omega)
  have e : ((List.range 256).map fun k : Nat => pD (0 + (k : Nat), (1 : Int))) = (((List.range 256).map fun k : Nat => ((k : Int), (1 : Int))).map pD) := by
    rw [List.map_map]
    exact List.map_congr_left fun k _ => by rw [Int.zero_add]; rfl
  rw [e] at h
  exact h
theorem cells_loop {s0 : S} {ns : List Int} {s1 s2 s3 s4 s5 s7 s8 s9 s10 : S} : ∃ t1 t2 t3 t4 t5 t7 t8 t9 t10 : S, loopL (tName 1) turnB (ns.map D.int) [s0, s1, s2, s3, s4, s5, .un, s7, s8, s9, s10] = .ok .next [s0, t1, t2, t3, t4, t5, .un, t7, t8, t9, t10] := by
  obtain ⟨ρ', e, t1, t2, t3, t4, t5, t7, t8, t9, t10, rfl⟩ := loop_inv (ft := tName 1) (fb := turnB) (ds := ns.map D.int) (ρ := [s0, s1, s2, s3, s4, s5, .un, s7, s8, s9, s10])
    (fun _ ρ => ∃ t1 t2 t3 t4 t5 t7 t8 t9 t10 : S, ρ = [s0, t1, t2, t3, t4, t5, .un, t7, t8, t9, t10]) (fun i d ρ hd hj => by
      obtain ⟨t1, t2, t3, t4, t5, t7, t8, t9, t10, rfl⟩ := hj
      rw [List.getElem?_map] at hd
      cases q : ns[i]? with
      | none => rw [q] at hd; cases hd
      | some c =>
        rw [q] at hd
        cases hd
        obtain ⟨u2, u3, u4, u5, u7, u8, u9, u10, e⟩ := turn_ok c (s0 := s0) (s2 := t2) (s3 := t3) (s4 := t4) (s5 := t5) (s7 := t7) (s8 := t8) (s9 := t9) (s10 := t10)
        exact ⟨[s0, .val (.int c), t2, t3, t4, t5, .un, t7, t8, t9, t10], _, rfl, e, .val (.int c), u2, u3, u4, u5, u7, u8, u9, u10, rfl⟩) ⟨s1, s2, s3, s4, s5, s7, s8, s9, s10, rfl⟩
  exact ⟨t1, t2, t3, t4, t5, t7, t8, t9, t10, e⟩
theorem law_true (ns : List Int) (hl : ns.length ≤ 63) : F_law [.val (.con ns)] = .ok ⟨.bl true, false⟩ [.un] := by
  obtain ⟨cs, hcs⟩ : ∃ cs, cs = cutL ns none (some 4) ++ [0] := ⟨_, rfl⟩
  have lc : (cutL ns none (some 4)).length ≤ 4 := by rw [cut_from0 _ _ (by omega), List.length_take]; omega
  have cu : cutD none (some 4) (.con ns) = some ⟨.lst ((cutL ns none (some 4)).map D.int), true⟩ := rfl
  have ad : addD (.lst ((cutL ns none (some 4)).map D.int)) (.lst [.int 0]) = some ⟨.lst (cs.map D.int), true⟩ := by
    rw [addL (by simp [sizeD]; omega), hcs, List.map_append]; rfl
  obtain ⟨t1, t2, t3, t4, t5, t7, t8, t9, t10, e⟩ := cells_loop (s0 := .val (.con ns)) (ns := cs) (s1 := .un) (s2 := .un) (s3 := .un) (s4 := .un) (s5 := .un) (s7 := .un) (s8 := .un) (s9 := .un) (s10 := .un)
  have n1 : neD (.lst []) (.lst []) = some ⟨.bl false, false⟩ := d_ne_self (n := 1) (fine_lst fun _ h => by cases h) (by decide)
  have n2 : neD (.lst [.lst (((List.range 256).map fun k : Nat => ((k : Int), (1 : Int))).map pD)]) (.lst [.lst (((List.range 256).map fun k : Nat => ((k : Int), (1 : Int))).map pD)]) = some ⟨.bl false, false⟩ := d_ne_self (n := 3) (fine_lst fun d h => by
    rw [List.mem_singleton.mp h]
    refine fine_lst fun d hd => ?_
    obtain ⟨p, _, rfl⟩ := List.mem_map.mp hd
    exact fine_tup (by simp)) (by decide)
  have n3 : eqD (.lst [.lst [.tup [.int 0, .int 2], .tup [.int 1, .int 2]], .lst [.tup [.int 0, .int 3], .tup [.int 1, .int 1]]]) (.lst [.lst [.tup [.int 0, .int 2], .tup [.int 1, .int 2]], .lst [.tup [.int 0, .int 3], .tup [.int 1, .int 1]]]) = some ⟨.bl true, false⟩ := d_eq_self (n := 3) rfl (by decide)
  have l1 := @lc_ones (.val (.con ns)) t1 t2 t3 t4 t5 t7 t8 t9 t10
  have i2 : in62 256 = true := rfl
  have z1 := end1
  have z2 := end2
  have z3 := end3
  apply k_fn (F := F_law) rfl
  focus walk_at "rp"
  focus walk_at "ap"
  focus (
    apply k_seq
    focus (
      apply k_for
      focus walk_at "dl"
      exact e)
    walk_at "dl")
  rfl
end K68
set_option Elab.async false
set_option linter.all false
set_option maxRecDepth 100000
set_option maxHeartbeats 0
namespace K68
open PySem PySem.Spec PyProof.Rows L2 DL
def dd___law_store : He.DefD := ⟨("_law_store", none), "_law_store", "_law_store", defArgs st__law_store, defBody st__law_store, defScope st__law_store, [], []⟩
def dd___law_take : He.DefD := ⟨("_law_take", none), "_law_take", "_law_take", defArgs st__law_take, defBody st__law_take, defScope st__law_take, [], []⟩
def dd___law_any : He.DefD := ⟨("_law_any", none), "_law_any", "_law_any", defArgs st__law_any, defBody st__law_any, defScope st__law_any, [], []⟩
def dd__is_integer : He.DefD := ⟨("is_integer", none), "is_integer", "is_integer", defArgs st_is_integer, defBody st_is_integer, defScope st_is_integer, [], []⟩
def dd__is_between : He.DefD := ⟨("is_between", none), "is_between", "is_between", defArgs st_is_between, defBody st_is_between, defScope st_is_between, [], []⟩
def dd__is_symbol : He.DefD := ⟨("is_symbol", none), "is_symbol", "is_symbol", defArgs st_is_symbol, defBody st_is_symbol, defScope st_is_symbol, [], []⟩
def dd__check_text : He.DefD := ⟨("check_text", none), "check_text", "check_text", defArgs st_check_text, defBody st_check_text, defScope st_check_text, [], []⟩
def dd__check_between : He.DefD := ⟨("check_between", none), "check_between", "check_between", defArgs st_check_between, defBody st_check_between, defScope st_check_between, [], []⟩
def dd__check_size : He.DefD := ⟨("check_size", none), "check_size", "check_size", defArgs st_check_size, defBody st_check_size, defScope st_check_size, [], []⟩
def dd__check_small : He.DefD := ⟨("check_small", none), "check_small", "check_small", defArgs st_check_small, defBody st_check_small, defScope st_check_small, [], []⟩
def dd__check_blocks : He.DefD := ⟨("check_blocks", none), "check_blocks", "check_blocks", defArgs st_check_blocks, defBody st_check_blocks, defScope st_check_blocks, [], []⟩
def dd__check_limits : He.DefD := ⟨("check_limits", none), "check_limits", "check_limits", defArgs st_check_limits, defBody st_check_limits, defScope st_check_limits, [], []⟩
def dd__sum_of : He.DefD := ⟨("sum_of", none), "sum_of", "sum_of", defArgs st_sum_of, defBody st_sum_of, defScope st_sum_of, [], []⟩
def dd__shared : He.DefD := ⟨("shared", none), "shared", "shared", defArgs st_shared, defBody st_shared, defScope st_shared, [], []⟩
def dd__counts_ahead : He.DefD := ⟨("counts_ahead", none), "counts_ahead", "counts_ahead", defArgs st_counts_ahead, defBody st_counts_ahead, defScope st_counts_ahead, [], []⟩
def dd__begins : He.DefD := ⟨("begins", none), "begins", "begins", defArgs st_begins, defBody st_begins, defScope st_begins, [], []⟩
def dd__counts_of_blocks : He.DefD := ⟨("counts_of_blocks", none), "counts_of_blocks", "counts_of_blocks", defArgs st_counts_of_blocks, defBody st_counts_of_blocks, defScope st_counts_of_blocks, [], []⟩
def dd__adaptive_counts : He.DefD := ⟨("adaptive_counts", none), "adaptive_counts", "adaptive_counts", defArgs st_adaptive_counts, defBody st_adaptive_counts, defScope st_adaptive_counts, [.non], []⟩
def dd__is_pair : He.DefD := ⟨("is_pair", none), "is_pair", "is_pair", defArgs st_is_pair, defBody st_is_pair, defScope st_is_pair, [], []⟩
def dd__is_numbers : He.DefD := ⟨("is_numbers", none), "is_numbers", "is_numbers", defArgs st_is_numbers, defBody st_is_numbers, defScope st_is_numbers, [], []⟩
def dd__check_asked : He.DefD := ⟨("check_asked", none), "check_asked", "check_asked", defArgs st_check_asked, defBody st_check_asked, defScope st_check_asked, [], []⟩
def dd__by_rests : He.DefD := ⟨("by_rests", none), "by_rests", "by_rests", defArgs st_by_rests, defBody st_by_rests, defScope st_by_rests, [], []⟩
def dd___law_counts : He.DefD := ⟨("_law_counts", none), "_law_counts", "_law_counts", defArgs st__law_counts, defBody st__law_counts, defScope st__law_counts, [], []⟩
def dd___law_right : He.DefD := ⟨("_law_right", none), "_law_right", "_law_right", defArgs st__law_right, defBody st__law_right, defScope st__law_right, [], []⟩
def dd___law_long_right : He.DefD := ⟨("_law_long_right", none), "_law_long_right", "_law_long_right", defArgs st__law_long_right, defBody st__law_long_right, defScope st__law_long_right, [], []⟩
def dd__law : He.DefD := ⟨("law", none), "law", "law", defArgs st_law, defBody st_law, defScope st_law, [], []⟩
def fnL : List He.DefD := [dd___law_store, dd___law_take, dd___law_any, dd__is_integer, dd__is_between, dd__is_symbol, dd__check_text, dd__check_between, dd__check_size, dd__check_small, dd__check_blocks, dd__check_limits, dd__sum_of, dd__shared, dd__counts_ahead, dd__begins, dd__counts_of_blocks, dd__adaptive_counts, dd__is_pair, dd__is_numbers, dd__check_asked, dd__by_rests, dd___law_counts, dd___law_right, dd___law_long_right, dd__law]
def fa0 : List He.Fa := [.glo "_law_store", .glo "_law_take", .glo "_law_any", .glo "is_integer", .glo "is_between", .glo "is_symbol", .glo "check_text", .glo "check_between", .glo "check_size", .glo "check_small", .glo "check_blocks", .glo "check_limits", .glo "sum_of", .glo "shared", .glo "counts_ahead", .glo "begins", .glo "counts_of_blocks", .glo "adaptive_counts", .glo "is_pair", .glo "is_numbers", .glo "check_asked", .glo "by_rests", .glo "_law_counts", .glo "_law_right", .glo "_law_long_right", .glo "law", .free "all", .free "bool", .free "enumerate", .free "int"]
def fa1 : List He.Fa := [.free "isinstance", .free "len", .free "list", .free "max", .free "range", .free "sorted", .free "sum", .free "tuple", .int "LEAST_SIZE" 2, .int "MOST_BITS" 12, .int "MOST_NUMBER" 1000000000000000000000000000000, .int "MOST_SIZE" 256, .int "MOST_SYMBOL" 999, .int "MOST_TEXT" 10000, .int "MOST_WORK" 200000]
def faL : List He.Fa := fa0 ++ fa1
def nm0 : List Str := ["__name__", "SpreadError", "InvalidText", "InvalidSymbol", "InvalidBound", "LimitExceeded", "is_integer", "is_between", "check_between", "MOST_SYMBOL", "MOST_TEXT", "MOST_NUMBER", "MOST_BITS", "is_symbol", "check_text", "is_pair", "is_numbers", "sum_of", "check_asked", "shared", "by_rests", "LEAST_SIZE", "MOST_SIZE", "MOST_WORK", "check_size", "check_small", "check_blocks", "check_limits", "counts_ahead", "begins"]
def nm1 : List Str := ["counts_of_blocks", "adaptive_counts", "_law_store", "_law_take", "_law_any", "_law_counts", "_law_right", "_law_long_right"]
def nmL : List Str := nm0 ++ nm1
abbrev Rw : PySem.W.OpenRow := PySem.W.OpenLaw.row PySem.Challenge.rw_spreadstates_k68_counts_of_blocks
abbrev hk : PySem.W.Hook := He.hookD 4 faL fnL
def ob (s : PySem.W.SharedT) : He.AlD := He.obsDG 4 faL fnL (HandSHeadRun.getT s)
theorem ob_eq (s : PySem.W.SharedT) : ob s = hk.obs s.abs := He.obsDG_eq (HandSHeadRun.getT_eq s)
theorem run (w : World) : HandSHeadRun.RunEq Rw (PySem.W.view Rw.prog [42]) hk ob 6000 nmL w := by
  intro os
  kernel_rfl
section
variable {K : PySem.W.Frag} {h : Heap} {mg : Str → Option Value}
theorem txt (X : K.In h) (G : h.Ns mainGlobals mg) (c : He.SaysD faL fnL K) : Txt K mg := ⟨He.free_ok X G (c.fact 26 (f := .free "all") rfl), He.free_ok X G (c.fact 27 (f := .free "bool") rfl), He.free_ok X G (c.fact 28 (f := .free "enumerate") rfl), He.free_ok X G (c.fact 29 (f := .free "int") rfl), He.free_ok X G (c.fact 30 (f := .free "isinstance") rfl), He.free_ok X G (c.fact 31 (f := .free "len") rfl), He.free_ok X G (c.fact 32 (f := .free "list") rfl), He.free_ok X G (c.fact 33 (f := .free "max") rfl), He.free_ok X G (c.fact 34 (f := .free "range") rfl), He.free_ok X G (c.fact 35 (f := .free "sorted") rfl), He.free_ok X G (c.fact 36 (f := .free "sum") rfl), He.free_ok X G (c.fact 37 (f := .free "tuple") rfl), He.int_ok X G (c.fact 38 (f := .int "LEAST_SIZE" 2) rfl), He.int_ok X G (c.fact 39 (f := .int "MOST_BITS" 12) rfl), He.int_ok X G (c.fact 40 (f := .int "MOST_NUMBER" 1000000000000000000000000000000) rfl), He.int_ok X G (c.fact 41 (f := .int "MOST_SIZE" 256) rfl), He.int_ok X G (c.fact 42 (f := .int "MOST_SYMBOL" 999) rfl), He.int_ok X G (c.fact 43 (f := .int "MOST_TEXT" 10000) rfl), He.int_ok X G (c.fact 44 (f := .int "MOST_WORK" 200000) rfl)⟩
theorem facts {P : Program} {w : World} {f : Addr} (X : K.In h) (G : h.Ns mainGlobals mg) (hfa : mg ("law" : Str) = some (.ref f)) (c : He.SaysD faL fnL K) :
    ∃ fd : FuncData, (∀ (s : Shared) (v : Value), BindsTo s fd ⟨[v], []⟩ [("_law_script", v)]) ∧ ∀ base : Heap, K.In base → base.Ns mainGlobals mg → FnOk P w K mg base (L2.CX P w) 11 f fd ["_law_script"] (spD ⟨K, fun _ => 0⟩ 1 [] F_law) := by
  obtain ⟨fd__law_store, D__law_store⟩ := c.def_ 0 (d := dd___law_store) rfl
  obtain ⟨fd__law_take, D__law_take⟩ := c.def_ 1 (d := dd___law_take) rfl
  obtain ⟨fd__law_any, D__law_any⟩ := c.def_ 2 (d := dd___law_any) rfl
  obtain ⟨fd_is_integer, D_is_integer⟩ := c.def_ 3 (d := dd__is_integer) rfl
  obtain ⟨fd_is_between, D_is_between⟩ := c.def_ 4 (d := dd__is_between) rfl
  obtain ⟨fd_is_symbol, D_is_symbol⟩ := c.def_ 5 (d := dd__is_symbol) rfl
  obtain ⟨fd_check_text, D_check_text⟩ := c.def_ 6 (d := dd__check_text) rfl
  obtain ⟨fd_check_between, D_check_between⟩ := c.def_ 7 (d := dd__check_between) rfl
  obtain ⟨fd_check_size, D_check_size⟩ := c.def_ 8 (d := dd__check_size) rfl
  obtain ⟨fd_check_small, D_check_small⟩ := c.def_ 9 (d := dd__check_small) rfl
  obtain ⟨fd_check_blocks, D_check_blocks⟩ := c.def_ 10 (d := dd__check_blocks) rfl
  obtain ⟨fd_check_limits, D_check_limits⟩ := c.def_ 11 (d := dd__check_limits) rfl
  obtain ⟨fd_sum_of, D_sum_of⟩ := c.def_ 12 (d := dd__sum_of) rfl
  obtain ⟨fd_shared, D_shared⟩ := c.def_ 13 (d := dd__shared) rfl
  obtain ⟨fd_counts_ahead, D_counts_ahead⟩ := c.def_ 14 (d := dd__counts_ahead) rfl
  obtain ⟨fd_begins, D_begins⟩ := c.def_ 15 (d := dd__begins) rfl
  obtain ⟨fd_counts_of_blocks, D_counts_of_blocks⟩ := c.def_ 16 (d := dd__counts_of_blocks) rfl
  obtain ⟨fd_adaptive_counts, D_adaptive_counts⟩ := c.def_ 17 (d := dd__adaptive_counts) rfl
  obtain ⟨fd_is_pair, D_is_pair⟩ := c.def_ 18 (d := dd__is_pair) rfl
  obtain ⟨fd_is_numbers, D_is_numbers⟩ := c.def_ 19 (d := dd__is_numbers) rfl
  obtain ⟨fd_check_asked, D_check_asked⟩ := c.def_ 20 (d := dd__check_asked) rfl
  obtain ⟨fd_by_rests, D_by_rests⟩ := c.def_ 21 (d := dd__by_rests) rfl
  obtain ⟨fd__law_counts, D__law_counts⟩ := c.def_ 22 (d := dd___law_counts) rfl
  obtain ⟨fd__law_right, D__law_right⟩ := c.def_ 23 (d := dd___law_right) rfl
  obtain ⟨fd__law_long_right, D__law_long_right⟩ := c.def_ 24 (d := dd___law_long_right) rfl
  obtain ⟨fd_law, D_law⟩ := c.def_ 25 (d := dd__law) rfl
  have e := hfa.symm.trans (He.glo_ok X G (c.fact 25 (f := .glo "law") rfl))
  cases e
  have b := FunD.bindsA (ps := ["_law_script"]) D_law fun _ _ _ _ _ _ us hl => match us, hl with | [_], _ => rfl
  refine ⟨fd_law, fun s v => b s [v] rfl, fun base _ _ => ?_⟩
  have T := txt X G c
  have C__law_store := ok__law_store (P := P) (w := w) (base := base) (cls := fun _ => 0) T  (fun_of D__law_store) (He.glo_ok X G (c.fact 0 (f := .glo "_law_store") rfl))
  have C__law_take := ok__law_take (P := P) (w := w) (base := base) (cls := fun _ => 0) T  (fun_of D__law_take) (He.glo_ok X G (c.fact 1 (f := .glo "_law_take") rfl))
  have C__law_any := ok__law_any (P := P) (w := w) (base := base) (cls := fun _ => 0) T C__law_take (fun_of D__law_any) (He.glo_ok X G (c.fact 2 (f := .glo "_law_any") rfl))
  have C_is_integer := ok_is_integer (P := P) (w := w) (base := base) (cls := fun _ => 0) T  (fun_of D_is_integer) (He.glo_ok X G (c.fact 3 (f := .glo "is_integer") rfl))
  have C_is_between := ok_is_between (P := P) (w := w) (base := base) (cls := fun _ => 0) T C_is_integer (fun_of D_is_between) (He.glo_ok X G (c.fact 4 (f := .glo "is_between") rfl))
  have C_is_symbol := ok_is_symbol (P := P) (w := w) (base := base) (cls := fun _ => 0) T C_is_between (fun_of D_is_symbol) (He.glo_ok X G (c.fact 5 (f := .glo "is_symbol") rfl))
  have C_check_text := ok_check_text (P := P) (w := w) (base := base) (cls := fun _ => 0) T C_is_symbol (fun_of D_check_text) (He.glo_ok X G (c.fact 6 (f := .glo "check_text") rfl))
  have C_check_between := ok_check_between (P := P) (w := w) (base := base) (cls := fun _ => 0) T C_is_between (fun_of D_check_between) (He.glo_ok X G (c.fact 7 (f := .glo "check_between") rfl))
  have C_check_size := ok_check_size (P := P) (w := w) (base := base) (cls := fun _ => 0) T C_check_between (fun_of D_check_size) (He.glo_ok X G (c.fact 8 (f := .glo "check_size") rfl))
  have C_check_small := ok_check_small (P := P) (w := w) (base := base) (cls := fun _ => 0) T C_check_size C_check_text (fun_of D_check_small) (He.glo_ok X G (c.fact 9 (f := .glo "check_small") rfl))
  have C_check_blocks := ok_check_blocks (P := P) (w := w) (base := base) (cls := fun _ => 0) T C_check_between C_is_between (fun_of D_check_blocks) (He.glo_ok X G (c.fact 10 (f := .glo "check_blocks") rfl))
  have C_check_limits := ok_check_limits (P := P) (w := w) (base := base) (cls := fun _ => 0) T  (fun_of D_check_limits) (He.glo_ok X G (c.fact 11 (f := .glo "check_limits") rfl))
  have C_sum_of := ok_sum_of (P := P) (w := w) (base := base) (cls := fun _ => 0) T  (fun_of D_sum_of) (He.glo_ok X G (c.fact 12 (f := .glo "sum_of") rfl))
  have C_shared := ok_shared (P := P) (w := w) (base := base) (cls := fun _ => 0) T C_sum_of (fun_of D_shared) (He.glo_ok X G (c.fact 13 (f := .glo "shared") rfl))
  have C_counts_ahead := ok_counts_ahead (P := P) (w := w) (base := base) (cls := fun _ => 0) T C_shared (fun_of D_counts_ahead) (He.glo_ok X G (c.fact 14 (f := .glo "counts_ahead") rfl))
  have C_begins := ok_begins (P := P) (w := w) (base := base) (cls := fun _ => 0) T  (fun_of D_begins) (He.glo_ok X G (c.fact 15 (f := .glo "begins") rfl))
  have C_counts_of_blocks := ok_counts_of_blocks (P := P) (w := w) (base := base) (cls := fun _ => 0) T C_begins C_counts_ahead (fun_of D_counts_of_blocks) (He.glo_ok X G (c.fact 16 (f := .glo "counts_of_blocks") rfl))
  have C_adaptive_counts := ok_adaptive_counts (P := P) (w := w) (base := base) (cls := fun _ => 0) T C_check_blocks C_check_limits C_check_small C_counts_of_blocks D_adaptive_counts (He.glo_ok X G (c.fact 17 (f := .glo "adaptive_counts") rfl))
  have C_is_pair := ok_is_pair (P := P) (w := w) (base := base) (cls := fun _ => 0) T C_is_between C_is_symbol (fun_of D_is_pair) (He.glo_ok X G (c.fact 18 (f := .glo "is_pair") rfl))
  have C_is_numbers := ok_is_numbers (P := P) (w := w) (base := base) (cls := fun _ => 0) T C_is_pair (fun_of D_is_numbers) (He.glo_ok X G (c.fact 19 (f := .glo "is_numbers") rfl))
  have C_check_asked := ok_check_asked (P := P) (w := w) (base := base) (cls := fun _ => 0) T C_is_between C_is_numbers (fun_of D_check_asked) (He.glo_ok X G (c.fact 20 (f := .glo "check_asked") rfl))
  have C_by_rests := ok_by_rests (P := P) (w := w) (base := base) (cls := fun _ => 0) T C_check_asked C_shared (fun_of D_by_rests) (He.glo_ok X G (c.fact 21 (f := .glo "by_rests") rfl))
  have C__law_counts := ok__law_counts (P := P) (w := w) (base := base) (cls := fun _ => 0) T C_by_rests (fun_of D__law_counts) (He.glo_ok X G (c.fact 22 (f := .glo "_law_counts") rfl))
  have C__law_right := ok__law_right (P := P) (w := w) (base := base) (cls := fun _ => 0) T C__law_counts C_adaptive_counts (fun_of D__law_right) (He.glo_ok X G (c.fact 23 (f := .glo "_law_right") rfl))
  have C__law_long_right := ok__law_long_right (P := P) (w := w) (base := base) (cls := fun _ => 0) T C__law_any C__law_right C__law_take (fun_of D__law_long_right) (He.glo_ok X G (c.fact 24 (f := .glo "_law_long_right") rfl))
  exact fok_law T C__law_any C__law_long_right C__law_right C__law_store C__law_take C_adaptive_counts (fun_of D_law)
end
end K68
open PySem PySem.W PySem.Calls PyProof.Rows
set_option maxRecDepth 100000 in
set_option maxHeartbeats 0 in
theorem PySem.Challenge.cw_spreadstates_k68_counts_of_blocks_holds : PySem.Challenge.rw_spreadstates_k68_counts_of_blocks.Holds := by
  w_on; o_law
  refine HandSHeadRun.head_any (r := K68.Rw) (q := view K68.Rw.prog [42]) (H := K68.hk) (ob := K68.ob) (M := 6000) (loose := K68.nmL) (d := HandSHeadRun.topDef K68.Rw.prog 42) (kwd := []) K68.ob_eq
    (by kernel_rfl) (fun s => by kernel_rfl) K68.run (by kernel_rfl) (by kernel_rfl) (by kernel_rfl) (by rfl) (by first | assumption | decide +kernel) (by decide +kernel) ⟨rfl, rfl, rfl, rfl, rfl, by decide +kernel⟩ ?hw ?hc
  case hw => w_witness2
  case hc =>
    refine DL.walk_law (l := PySem.Challenge.rw_spreadstates_k68_counts_of_blocks) (n := 63) (k := 11) (x := "_law_script") rfl (by decide) (by kernel_rfl) ⟨rfl, by decide, by decide⟩ ?F
    intro w mg fa h Y G hmg0
    obtain ⟨K, KX, c⟩ := Y
    have hmg : mg ("law" : PySem.Str) = some (.ref fa) := by
      have e : (HandSHeadRun.topDef K68.Rw.prog 42).name = ("law" : PySem.Str) := by kernel_rfl
      rw [← e]
      exact hmg0
    obtain ⟨fd, hb, hF⟩ := K68.facts (P := (PySem.Challenge.rw_spreadstates_k68_counts_of_blocks).prog) (w := w) KX G hmg c
    exact ⟨K, fd, DL.spD ⟨K, fun _ => 0⟩ 1 [] K68.F_law, KX, hb, fun H a ns hl hS => DL.sp_true hS (K68.law_true ns hl), hF⟩
