import PyProof.Rows.All
import Wide.All
import OpenK.AllK
import Wide.FinOn
import HandS.ForMost
import HandS.Exc
import HandS.ExcOwn
import HandS.WordsExc
import HandS.HeadHook1
import HandS.Deep
import HandS.IsInst
import HandS.NoneIn
import HandS.FStr
import HandS.Conv
import HandS.Wide
import HandS.Zip
import HandS.Iter
import HandS.Flow
import HandS.TryOnly
import HandS.More
import HandS.Head0
import HandS.Head1
import HandS.Head2
import HandS.HeadEnd
import HandS.HeadHook2
import HandS.HeadHook3
import HandS.HeadHook4
import HandS.Style
import HandS.Defaults
import HandS.Codes
import PyProof.P3Eq
import HandS.Nested
import HandS.ExcInit
import HandS.ExcSuper
import KE.KExcSuper
import HandS.ExcField
import HandS.ExcIs
import KE.KExcIs
import PySem.Challenge.RW_keysstayput_k08_rule_without_conditions
import Lean
set_option Elab.async false
set_option linter.all false
set_option maxRecDepth 100000
set_option maxHeartbeats 4000000
/-! DL: data readings over the hand layer. A body is read as a total function on plain data. -/
namespace DL
open PySem PySem.Spec PyProof.Rows L2

/-! ### data -/
inductive D where
  | non | bl (b : Bool) | int (i : Int) | str (s : Str) | ty (n : String) | obj (a : Addr)
  | lst (xs : List D) | tup (xs : List D) | scr (xs : List D)
  | ins (C : Addr) (ns : List Str) (ds : List D)
inductive Slot where
  | val (d : D) | own (d : D) | par (k : Nat) | xn
structure EV where
  sl : List (Option Slot)
  ps : List D
inductive R where
  | v (d : D) | s (i : Nat) | n (d : D)
structure XD where
  C : Str
  fs : List (Str × D)
inductive XR (α : Type) where
  | ok (a : α) (ρ : EV) | ex (e : XD) (ρ : EV)
abbrev M (α : Type) := EV → Option (XR α)
inductive Flow where
  | nx (ρ : EV) | ret (r : R) (ρ : EV) | ex (e : XD) (ρ : EV) | bk (ρ : EV) | ct (ρ : EV)
abbrev F := EV → Option Flow

def EV.obj (ρ : EV) (i : Nat) : Option D := match ρ.sl[i]? with
  | some (some (.own d)) => some d
  | some (some (.par k)) => ρ.ps[k]?
  | _ => none
def EV.look (ρ : EV) : R → Option D
  | .v d => some d
  | .s i => ρ.obj i
  | .n _ => none
def EV.set (ρ : EV) (i : Nat) (s : Slot) : EV := { ρ with sl := ρ.sl.set i (some s) }
def EV.kill (ρ : EV) (i : Nat) : EV := { ρ with sl := ρ.sl.set i none }
def EV.kills (ρ : EV) : List Nat → EV
  | [] => ρ
  | i :: r => (ρ.kill i).kills r
/-- the object at slot i has new content -/
def EV.put (ρ : EV) (i : Nat) (d : D) : EV := match ρ.sl[i]? with
  | some (some (.own _)) => ρ.set i (.own d)
  | some (some (.par k)) => { ρ with ps := ρ.ps.set k d }
  | _ => ρ

/-! ### what data stands for -/
section
variable (K : PySem.W.Frag) (G : Hp)
mutual
def Rep : D → V → Prop
  | .non, v => v = .non
  | .bl b, v => v = .bl b
  | .int i, v => v = .int i
  | .str s, v => v = .str s
  | .ty n, v => v = .ty n
  | .obj a, v => v = .ref a
  | .lst ds, v => ∃ a xs, v = .ref a ∧ G a = some (.lst xs) ∧ RepL ds xs
  | .scr ds, v => ∃ a xs, v = .ref a ∧ SqL K G a xs ∧ RepL ds xs
  | .tup ds, v => ∃ a xs, v = .ref a ∧ SqT K G a xs ∧ RepL ds xs
  | .ins C ns ds, v => ∃ a dx vs, v = .ref a ∧ G a = some (.ins C dx (ns.zip vs)) ∧ RepL ds vs
def RepL : List D → List V → Prop
  | [], vs => vs = []
  | d :: ds, vs => ∃ v r, vs = v :: r ∧ Rep d v ∧ RepL ds r
end
end
theorem same_l {K : PySem.W.Frag} {H H' : Hp} {a : Addr} {xs : List V} (e : Same H H') (h : SqL K H a xs) : SqL K H' a xs := e.seq h
theorem same_t {K : PySem.W.Frag} {H H' : Hp} {a : Addr} {xs : List V} (e : Same H H') (h : SqT K H a xs) : SqT K H' a xs := by
  rcases h with (h | ⟨o, h⟩) | h
  · exact .inl (.inl (e _ _ h))
  · exact .inl (.inr ⟨o, e _ _ h⟩)
  · exact .inr h
section
variable {K : PySem.W.Frag} {G G' : Hp}
mutual
theorem Rep.mono (e : Same G G') : ∀ {d : D} {v : V}, Rep K G d v → Rep K G' d v
  | .non, _, h => h
  | .bl _, _, h => h
  | .int _, _, h => h
  | .str _, _, h => h
  | .ty _, _, h => h
  | .obj _, _, h => h
  | .lst _, _, ⟨a, xs, h1, h2, h3⟩ => ⟨a, xs, h1, e _ _ h2, RepL.mono e h3⟩
  | .scr _, _, ⟨a, xs, h1, h2, h3⟩ => ⟨a, xs, h1, same_l e h2, RepL.mono e h3⟩
  | .tup _, _, ⟨a, xs, h1, h2, h3⟩ => ⟨a, xs, h1, same_t e h2, RepL.mono e h3⟩
  | .ins _ _ _, _, ⟨a, dx, vs, h1, h2, h3⟩ => ⟨a, dx, vs, h1, e _ _ h2, RepL.mono e h3⟩
theorem RepL.mono (e : Same G G') : ∀ {ds : List D} {vs : List V}, RepL K G ds vs → RepL K G' ds vs
  | [], _, h => h
  | _ :: _, _, ⟨v, r, h1, h2, h3⟩ => ⟨v, r, h1, Rep.mono e h2, RepL.mono e h3⟩
end
theorem RepL.length : ∀ {ds : List D} {vs : List V}, RepL K G ds vs → ds.length = vs.length
  | [], vs, h => by rw [show vs = [] from h]; rfl
  | _ :: _, _, ⟨v, r, h1, _, h3⟩ => by rw [h1, List.length_cons, List.length_cons, RepL.length h3]
theorem RepL.nil : RepL K G [] [] := rfl
theorem RepL.cons {d : D} {v : V} {ds : List D} {vs : List V} (h : Rep K G d v) (t : RepL K G ds vs) : RepL K G (d :: ds) (v :: vs) := ⟨v, vs, rfl, h, t⟩
theorem RepL.append : ∀ {ds es : List D} {vs us : List V}, RepL K G ds vs → RepL K G es us → RepL K G (ds ++ es) (vs ++ us)
  | [], _, _, _, h, t => by rw [show _ = _ from h]; exact t
  | _ :: _, _, _, _, ⟨v, r, h1, h2, h3⟩, t => by rw [h1]; exact ⟨v, _, rfl, h2, RepL.append h3 t⟩
theorem RepL.get : ∀ {ds : List D} {vs : List V} {i : Nat} {d : D}, RepL K G ds vs → ds[i]? = some d → ∃ v, vs[i]? = some v ∧ Rep K G d v
  | [], _, _, _, _, e => by simp at e
  | _ :: _, _, 0, _, ⟨v, r, h1, h2, _⟩, e => by simp at e; subst e; rw [h1]; exact ⟨v, rfl, h2⟩
  | _ :: _, _, i + 1, d, ⟨v, r, h1, _, h3⟩, e => by
    rw [h1]
    obtain ⟨u, q1, q2⟩ := RepL.get (i := i) h3 (by simpa using e)
    exact ⟨u, by simpa using q1, q2⟩
theorem RepL.back : ∀ {ds : List D} {vs : List V} {i : Nat} {v : V}, RepL K G ds vs → vs[i]? = some v → ∃ d, ds[i]? = some d ∧ Rep K G d v := fun {ds vs i v} r e => by
  have l := r.length
  have hi : i < ds.length := by
    have := (List.getElem?_eq_some_iff.mp e).1
    omega
  obtain ⟨u, h1, h2⟩ := RepL.get (i := i) r (List.getElem?_eq_getElem hi)
  rw [e] at h1; cases h1
  exact ⟨_, List.getElem?_eq_getElem hi, h2⟩
theorem RepL.take : ∀ {ds : List D} {vs : List V} (n : Nat), RepL K G ds vs → RepL K G (ds.take n) (vs.take n)
  | _, _, 0, _ => by rw [List.take_zero, List.take_zero]; rfl
  | [], _, n + 1, h => by rw [show _ = _ from h]; rfl
  | _ :: _, _, n + 1, ⟨v, r, h1, h2, h3⟩ => by rw [h1]; exact ⟨v, _, rfl, h2, RepL.take n h3⟩
theorem RepL.drop : ∀ {ds : List D} {vs : List V} (n : Nat), RepL K G ds vs → RepL K G (ds.drop n) (vs.drop n)
  | _, _, 0, h => by rw [List.drop_zero, List.drop_zero]; exact h
  | [], _, n + 1, h => by rw [show _ = _ from h]; rfl
  | _ :: _, _, n + 1, ⟨v, r, h1, _, h3⟩ => by rw [h1]; exact RepL.drop n h3
theorem RepL.set : ∀ {ds : List D} {vs : List V} (i : Nat) {d : D} {v : V}, Rep K G d v → RepL K G ds vs → RepL K G (ds.set i d) (vs.set i v)
  | [], _, _, _, _, _, h => by rw [show _ = _ from h]; rfl
  | _ :: _, _, 0, _, _, q, ⟨v, r, h1, _, h3⟩ => by rw [h1]; exact ⟨_, _, rfl, q, h3⟩
  | _ :: _, _, i + 1, _, _, q, ⟨v, r, h1, h2, h3⟩ => by rw [h1]; exact ⟨_, _, rfl, h2, RepL.set i q h3⟩
theorem RepL.reverse : ∀ {ds : List D} {vs : List V}, RepL K G ds vs → RepL K G ds.reverse vs.reverse
  | [], _, h => by rw [show _ = _ from h]; rfl
  | _ :: _, _, ⟨v, r, h1, h2, h3⟩ => by
    rw [h1, List.reverse_cons, List.reverse_cons]
    exact RepL.append (RepL.reverse h3) (RepL.cons h2 RepL.nil)
end

/-- an object of one's own that is not settled yet, as it stands at a -/
def View (K : PySem.W.Frag) (G H : Hp) : D → Addr → Prop
  | .lst ds, a => ∃ xs, H a = some (.lst xs) ∧ RepL K G ds xs
  | .ins C ns ds, a => ∃ dx vs, H a = some (.ins C dx (ns.zip vs)) ∧ RepL K G ds vs
  | _, _ => False
/-- a value as it stands now: its own object at H, all behind it settled -/
def Vw (K : PySem.W.Frag) (G H : Hp) : D → V → Prop
  | .lst ds, v => ∃ a xs, v = .ref a ∧ H a = some (.lst xs) ∧ RepL K G ds xs
  | .ins C ns ds, v => ∃ a dx vs, v = .ref a ∧ H a = some (.ins C dx (ns.zip vs)) ∧ RepL K G ds vs
  | d, v => Rep K G d v
section
variable {K : PySem.W.Frag} {G G' H H' : Hp} {d : D} {a : Addr} {v : V}
theorem View.mono (e : Same G G') (k : H' a = H a) (h : View K G H d a) : View K G' H' d a := by
  cases d with
  | lst ds => obtain ⟨xs, h1, h2⟩ := h; exact ⟨xs, by rw [k]; exact h1, h2.mono e⟩
  | ins C ns ds => obtain ⟨dx, vs, h1, h2⟩ := h; exact ⟨dx, vs, by rw [k]; exact h1, h2.mono e⟩
  | _ => exact False.elim h
theorem View.there (h : View K G H d a) : ∃ o, H a = some o := by
  cases d with
  | lst ds => obtain ⟨xs, h1, h2⟩ := h; exact ⟨_, h1⟩
  | ins C ns ds => obtain ⟨dx, vs, h1, h2⟩ := h; exact ⟨_, h1⟩
  | _ => exact False.elim h
theorem View.vw (h : View K G H d a) : Vw K G H d (.ref a) := by
  cases d with
  | lst ds => obtain ⟨xs, h1, h2⟩ := h; exact ⟨a, xs, rfl, h1, h2⟩
  | ins C ns ds => obtain ⟨dx, vs, h1, h2⟩ := h; exact ⟨a, dx, vs, rfl, h1, h2⟩
  | _ => exact False.elim h
theorem Rep.vw (e : Same G H) (h : Rep K G d v) : Vw K G H d v := by
  cases d with
  | lst ds => obtain ⟨a, xs, h1, h2, h3⟩ := h; exact ⟨a, xs, h1, e _ _ h2, h3⟩
  | ins C ns ds => obtain ⟨a, dx, vs, h1, h2, h3⟩ := h; exact ⟨a, dx, vs, h1, e _ _ h2, h3⟩
  | _ => exact h
/-- settled: the object at a joins what is settled -/
theorem View.rep (h : View K G H d a) (e : Same G G') (k : ∀ o, H a = some o → G' a = some o) : Rep K G' d (.ref a) := by
  cases d with
  | lst ds => obtain ⟨xs, h1, h2⟩ := h; exact ⟨a, xs, rfl, k _ h1, h2.mono e⟩
  | ins C ns ds => obtain ⟨dx, vs, h1, h2⟩ := h; exact ⟨a, dx, vs, rfl, k _ h1, h2.mono e⟩
  | _ => exact False.elim h
end

/-! ### the state -/
structure Ctl where
  H0 : Hp
  G0 : Hp
  A0 : List Addr
  xa : Addr
def SlotOk (K : PySem.W.Frag) (C : Ctl) (G H : Hp) : Slot → V → Prop
  | .val d, v => Rep K G d v
  | .own d, v => ∃ a, v = .ref a ∧ G a = none ∧ C.H0 a = none ∧ View K G H d a
  | .par k, v => ∃ a, v = .ref a ∧ C.A0[k]? = some a
  | .xn, v => v = .ref C.xa
structure Sta (K : PySem.W.Frag) (C : Ctl) (G H : Hp) (σ : L2.St) (ρ : EV) : Prop where
  sub : Same G H
  old : Same C.G0 G
  new : ∀ a o, G a = some o → C.G0 a = some o ∨ C.H0 a = none
  base : ∀ b o, C.H0 b = some o → b ∉ C.A0 → H b = some o
  len : σ.length = ρ.sl.length
  slot : ∀ (i : Nat) s, ρ.sl[i]? = some (some s) → ∃ v, σ[i]? = some (some v) ∧ SlotOk K C G H s v
  dist : ∀ (i j : Nat) d e v, ρ.sl[i]? = some (some (.own d)) → ρ.sl[j]? = some (some (.own e)) → σ[i]? = some (some v) → σ[j]? = some (some v) → i = j
  plen : ρ.ps.length = C.A0.length
  par : ∀ (k : Nat) a d, C.A0[k]? = some a → ρ.ps[k]? = some d → G a = none ∧ View K G H d a
  pnd : C.A0.Nodup
  pin : ∀ a, a ∈ C.A0 → ∃ o, C.H0 a = some o
def RepR (K : PySem.W.Frag) (C : Ctl) (G H : Hp) (σ : L2.St) (ρ : EV) : R → V → Prop
  | .v d, v => Rep K G d v
  | .s i, v => σ[i]? = some (some v)
  | .n d, v => ∃ a, v = .ref a ∧ G a = none ∧ C.H0 a = none ∧ View K G H d a ∧ ∀ (i : Nat) e, ρ.sl[i]? = some (some (.own e)) → σ[i]? ≠ some (some (.ref a))
section
variable {K : PySem.W.Frag} {C : Ctl} {G G' H H' : Hp} {σ : L2.St} {ρ : EV} {d : D} {v : V} {i : Nat}
theorem Sta.parAt (S : Sta K C G H σ ρ) {a : Addr} (h : a ∈ C.A0) : G a = none ∧ ∃ d, View K G H d a := by
  obtain ⟨k, hk, e⟩ := List.getElem_of_mem h
  have hk2 : k < ρ.ps.length := by rw [S.plen]; exact hk
  obtain ⟨h1, h2⟩ := S.par k a ρ.ps[k] (by rw [List.getElem?_eq_getElem hk, e]) (List.getElem?_eq_getElem hk2)
  exact ⟨h1, _, h2⟩
/-- what is free now was free at the entry -/
theorem Sta.free (S : Sta K C G H σ ρ) {p : Addr} (h : H p = none) : C.H0 p = none ∧ G p = none ∧ p ∉ C.A0 := by
  have hA : p ∉ C.A0 := fun m => by
    obtain ⟨_, d, w⟩ := S.parAt m
    obtain ⟨o, e⟩ := w.there
    rw [h] at e; cases e
  refine ⟨?_, ?_, hA⟩
  · cases e : C.H0 p with
    | none => rfl
    | some o => rw [S.base p o e hA] at h; cases h
  · cases e : G p with
    | none => rfl
    | some o => rw [S.sub p o e] at h; cases h
/-- the heap turns, what is settled and what is held stays -/
theorem Sta.turn (S : Sta K C G H σ ρ) (sub : Same G' H') (old : Same G G') (new : ∀ a o, G' a = some o → G a = some o ∨ C.H0 a = none)
    (base : ∀ b o, H b = some o → (∃ o', C.H0 b = some o') → b ∉ C.A0 → H' b = some o)
    (own : ∀ (i : Nat) (d : D) (a : Addr), ρ.sl[i]? = some (some (.own d)) → σ[i]? = some (some (.ref a)) → G' a = none ∧ H' a = H a)
    (pars : ∀ a, a ∈ C.A0 → G' a = none ∧ H' a = H a) : Sta K C G' H' σ ρ where
  sub := sub
  old := fun b o e => old b o (S.old b o e)
  new := fun a o e => by
    rcases new a o e with h | h
    · exact S.new a o h
    · exact .inr h
  base := fun b o e hA => base b o (S.base b o e hA) ⟨o, e⟩ hA
  len := S.len
  slot := fun i s e => by
    obtain ⟨v, h1, h2⟩ := S.slot i s e
    refine ⟨v, h1, ?_⟩
    cases s with
    | val d => exact Rep.mono old h2
    | own d =>
      obtain ⟨a, rfl, g, h0, w⟩ := h2
      obtain ⟨g', k⟩ := own i d a e h1
      exact ⟨a, rfl, g', h0, w.mono old k⟩
    | par k => exact h2
    | xn => exact h2
  dist := S.dist
  plen := S.plen
  par := fun k a d h1 h2 => by
    obtain ⟨_, w⟩ := S.par k a d h1 h2
    obtain ⟨g', q⟩ := pars a (List.mem_of_getElem? h1)
    exact ⟨g', w.mono old q⟩
  pnd := S.pnd
  pin := S.pin
/-- a new object is laid -/
theorem Sta.lay (S : Sta K C G H σ ρ) {p : Addr} (hp : H p = none) (o : HO) : Sta K C G (upd H p o) σ ρ := by
  refine S.turn (fun b u e => ?_) (Same.refl G) (fun a u e => .inl e) (fun b u e _ _ => ?_) (fun i d a e1 e2 => ?_) (fun a ha => ?_)
  · rw [upd_ne (ne_of_none (S.sub b u e) hp)]; exact S.sub b u e
  · rw [upd_ne (ne_of_none e hp)]; exact e
  · obtain ⟨v, h1, a', rfl, g, _, w⟩ := S.slot i _ e1
    rw [e2] at h1; cases h1
    obtain ⟨u, hu⟩ := w.there
    exact ⟨g, upd_ne (ne_of_none hu hp)⟩
  · obtain ⟨g, d, w⟩ := S.parAt ha
    obtain ⟨u, hu⟩ := w.there
    exact ⟨g, upd_ne (ne_of_none hu hp)⟩
theorem Sta.newList (S : Sta K C G H σ ρ) {p : Addr} (hp : H p = none) {ds : List D} {xs : List V} (r : RepL K G ds xs) : RepR K C G (upd H p (.lst xs)) σ ρ (.n (.lst ds)) (.ref p) := by
  obtain ⟨h0, g0, _⟩ := S.free hp
  refine ⟨p, rfl, g0, h0, ⟨xs, upd_same, r⟩, fun i e h1 h2 => ?_⟩
  obtain ⟨v, q1, a', q2, _, _, w⟩ := S.slot i _ h1
  rw [h2] at q1; cases q1; cases q2
  obtain ⟨u, hu⟩ := w.there
  rw [hp] at hu; cases hu
/-- a new tuple is settled at once -/
theorem Sta.layG (S : Sta K C G H σ ρ) {p : Addr} (hp : H p = none) (o : HO) : Same G (upd G p o) ∧ Sta K C (upd G p o) (upd H p o) σ ρ := by
  obtain ⟨h0, g0, hA⟩ := S.free hp
  have e1 : Same G (upd G p o) := fun b u e => by rw [upd_ne (ne_of_none e g0)]; exact e
  refine ⟨e1, S.turn (fun b u e => ?_) e1 (fun a u e => ?_) (fun b u e _ _ => ?_) (fun i d a q1 q2 => ?_) (fun a ha => ?_)⟩
  · by_cases hb : b = p
    · subst hb; rw [upd_same] at e ⊢; exact e
    · rw [upd_ne hb] at e ⊢; exact S.sub b u e
  · by_cases hb : a = p
    · subst hb; exact .inr h0
    · rw [upd_ne hb] at e; exact .inl e
  · rw [upd_ne (ne_of_none e hp)]; exact e
  · obtain ⟨v, h1, a', rfl, g, _, w⟩ := S.slot i _ q1
    rw [q2] at h1; cases h1
    obtain ⟨u, hu⟩ := w.there
    exact ⟨by rw [upd_ne (ne_of_none hu hp)]; exact g, upd_ne (ne_of_none hu hp)⟩
  · obtain ⟨g, d, w⟩ := S.parAt ha
    obtain ⟨u, hu⟩ := w.there
    exact ⟨by rw [upd_ne (ne_of_none hu hp)]; exact g, upd_ne (ne_of_none hu hp)⟩
theorem Sta.newTup (S : Sta K C G H σ ρ) {p : Addr} (hp : H p = none) {ds : List D} {xs : List V} (r : RepL K G ds xs) :
    Same G (upd G p (.tup xs)) ∧ Sta K C (upd G p (.tup xs)) (upd H p (.tup xs)) σ ρ ∧ Rep K (upd G p (.tup xs)) (.tup ds) (.ref p) := by
  obtain ⟨e1, S1⟩ := S.layG hp (.tup xs)
  exact ⟨e1, S1, p, xs, rfl, SqT.of upd_same, r.mono e1⟩
/-- a fresh object is settled -/
theorem Sta.settle (S : Sta K C G H σ ρ) (h : RepR K C G H σ ρ (.n d) v) : ∃ G', Same G G' ∧ Sta K C G' H σ ρ ∧ Rep K G' d v := by
  obtain ⟨a, rfl, g, h0, w, ns⟩ := h
  obtain ⟨o, ho⟩ := w.there
  have e1 : Same G (upd G a o) := fun b u e => by rw [upd_ne (ne_of_none e g)]; exact e
  refine ⟨upd G a o, e1, S.turn (fun b u e => ?_) e1 (fun b u e => ?_) (fun b u e _ _ => e) (fun i d' a' q1 q2 => ?_) (fun a' ha => ?_), w.rep e1 fun o' e' => ?_⟩
  · by_cases hb : b = a
    · subst hb; rw [upd_same] at e; cases e; exact ho
    · rw [upd_ne hb] at e; exact S.sub b u e
  · by_cases hb : b = a
    · subst hb; exact .inr h0
    · rw [upd_ne hb] at e; exact .inl e
  · have ne : a' ≠ a := fun z => ns i d' q1 (by rw [q2, z])
    obtain ⟨v, h1, a2, rfl, g', _, w'⟩ := S.slot i _ q1
    rw [q2] at h1; cases h1
    exact ⟨by rw [upd_ne ne]; exact g', rfl⟩
  · have ne : a' ≠ a := fun z => by
      obtain ⟨o', e'⟩ := S.pin a' ha
      rw [z, h0] at e'; cases e'
    exact ⟨by rw [upd_ne ne]; exact (S.parAt ha).1, rfl⟩
  · rw [ho] at e'; cases e'; exact upd_same
theorem Sta.setVal (S : Sta K C G H σ ρ) (h : Rep K G d v) (i : Nat) : Sta K C G H (σ.set i (some v)) (ρ.set i (.val d)) where
  sub := S.sub
  old := S.old
  new := S.new
  base := S.base
  len := by simp [EV.set, S.len]
  slot := fun j s e => by
    by_cases hj : i = j
    · subst hj
      have hi : i < ρ.sl.length := by
        have := (List.getElem?_eq_some_iff.mp e).1
        simpa [EV.set] using this
      simp only [EV.set, List.getElem?_set_self hi] at e
      cases e
      exact ⟨v, List.getElem?_set_self (by rw [S.len]; exact hi), h⟩
    · simp only [EV.set, List.getElem?_set_ne hj] at e
      obtain ⟨u, h1, h2⟩ := S.slot j s e
      exact ⟨u, by rw [List.getElem?_set_ne hj]; exact h1, h2⟩
  dist := fun j k a b u h1 h2 h3 h4 => by
    have f : ∀ {j a}, (ρ.set i (.val d)).sl[j]? = some (some (.own a)) → i ≠ j ∧ ρ.sl[j]? = some (some (.own a)) := fun {j a} e => by
      by_cases hj : i = j
      · subst hj
        have hi : i < ρ.sl.length := by
          have := (List.getElem?_eq_some_iff.mp e).1
          simpa [EV.set] using this
        simp only [EV.set, List.getElem?_set_self hi] at e
        cases e
      · simp only [EV.set, List.getElem?_set_ne hj] at e
        exact ⟨hj, e⟩
    obtain ⟨n1, q1⟩ := f h1
    obtain ⟨n2, q2⟩ := f h2
    rw [List.getElem?_set_ne n1] at h3
    rw [List.getElem?_set_ne n2] at h4
    exact S.dist j k a b u q1 q2 h3 h4
  plen := S.plen
  par := S.par
  pnd := S.pnd
  pin := S.pin
theorem Sta.setOwn (S : Sta K C G H σ ρ) (h : RepR K C G H σ ρ (.n d) v) (i : Nat) : Sta K C G H (σ.set i (some v)) (ρ.set i (.own d)) := by
  obtain ⟨a, rfl, g, h0, w, ns⟩ := h
  refine { S with len := by simp [EV.set, S.len], slot := fun j s e => ?_, dist := fun j k x y u h1 h2 h3 h4 => ?_ }
  · by_cases hj : i = j
    · subst hj
      have hi : i < ρ.sl.length := by
        have := (List.getElem?_eq_some_iff.mp e).1
        simpa [EV.set] using this
      simp only [EV.set, List.getElem?_set_self hi] at e
      cases e
      exact ⟨_, List.getElem?_set_self (by rw [S.len]; exact hi), a, rfl, g, h0, w⟩
    · simp only [EV.set, List.getElem?_set_ne hj] at e
      obtain ⟨u, h1, h2⟩ := S.slot j s e
      exact ⟨u, by rw [List.getElem?_set_ne hj]; exact h1, h2⟩
  · have f : ∀ {j x}, (ρ.set i (.own d)).sl[j]? = some (some (.own x)) → i ≠ j → ρ.sl[j]? = some (some (.own x)) := fun {j x} e hj => by
      simp only [EV.set, List.getElem?_set_ne hj] at e
      exact e
    have z : ∀ {j : Nat} {x : D}, (ρ.set i (.own d)).sl[j]? = some (some (.own x)) → i < σ.length ∨ i ≠ j := fun {j x} e => by
      by_cases hj : i = j
      · subst hj
        have := (List.getElem?_eq_some_iff.mp e).1
        left
        rw [S.len]
        simpa [EV.set] using this
      · exact .inr hj
    by_cases hj : i = j
    · by_cases hk : i = k
      · rw [← hj, ← hk]
      · exfalso
        subst hj
        have hi := (z h1).resolve_right (fun q => q rfl)
        rw [List.getElem?_set_self hi] at h3
        rw [List.getElem?_set_ne hk] at h4
        cases h3
        exact ns k y (f h2 hk) h4
    · by_cases hk : i = k
      · exfalso
        subst hk
        have hi := (z h2).resolve_right (fun q => q rfl)
        rw [List.getElem?_set_self hi] at h4
        rw [List.getElem?_set_ne hj] at h3
        cases h4
        exact ns j x (f h1 hj) h3
      · rw [List.getElem?_set_ne hj] at h3
        rw [List.getElem?_set_ne hk] at h4
        exact S.dist j k x y u (f h1 hj) (f h2 hk) h3 h4
theorem Sta.kill (S : Sta K C G H σ ρ) (i : Nat) : Sta K C G H σ (ρ.kill i) := by
  have f : ∀ {j s}, (ρ.kill i).sl[j]? = some (some s) → ρ.sl[j]? = some (some s) := fun {j s} e => by
    by_cases hj : i = j
    · subst hj
      have hi : i < ρ.sl.length := by
        have := (List.getElem?_eq_some_iff.mp e).1
        simpa [EV.kill] using this
      simp only [EV.kill, List.getElem?_set_self hi] at e
      cases e
    · simp only [EV.kill, List.getElem?_set_ne hj] at e
      exact e
  exact { S with len := by simp [EV.kill, S.len], slot := fun j s e => S.slot j s (f e), dist := fun j k x y u h1 h2 h3 h4 => S.dist j k x y u (f h1) (f h2) h3 h4 }
theorem Sta.kills (S : Sta K C G H σ ρ) : ∀ (l : List Nat), Sta K C G H σ (ρ.kills l) := fun l => by
  induction l generalizing ρ with
  | nil => exact S
  | cons i r ih => exact ih (S.kill i)
/-- an own object in a slot is settled -/
theorem Sta.settleSlot (S : Sta K C G H σ ρ) {i : Nat} (hi : ρ.sl[i]? = some (some (.own d))) : ∃ G' v, Same G G' ∧ σ[i]? = some (some v) ∧ Sta K C G' H σ (ρ.set i (.val d)) ∧ Rep K G' d v := by
  obtain ⟨v, hv, a, rfl, g, h0, w⟩ := S.slot i _ hi
  have hl : i < ρ.sl.length := (List.getElem?_eq_some_iff.mp hi).1
  have Sk := S.kill i
  have n : RepR K C G H σ (ρ.kill i) (.n d) (.ref a) := ⟨a, rfl, g, h0, w, fun j e q1 q2 => by
    have hj : i ≠ j := fun z => by
      subst z
      simp only [EV.kill, List.getElem?_set_self hl] at q1
      cases q1
    simp only [EV.kill, List.getElem?_set_ne hj] at q1
    exact hj (S.dist i j d e _ hi q1 hv q2)⟩
  obtain ⟨G', e1, S1, r1⟩ := Sk.settle n
  refine ⟨G', _, e1, hv, ?_, r1⟩
  have S2 := S1.setVal r1 i
  have es : σ.set i (some (.ref a)) = σ := by
    apply List.ext_getElem?
    intro j
    by_cases hj : i = j
    · subst hj
      rw [List.getElem?_set_self (by rw [S.len]; exact hl), hv]
    · rw [List.getElem?_set_ne hj]
  rw [es] at S2
  have er : (ρ.kill i).set i (.val d) = ρ.set i (.val d) := by
    simp [EV.kill, EV.set]
  rw [er] at S2
  exact S2
/-- the content of a slot's object -/
theorem Sta.objAt (S : Sta K C G H σ ρ) {i : Nat} (h : ρ.obj i = some d) (hv : σ[i]? = some (some v)) : ∃ a, v = .ref a ∧ G a = none ∧ View K G H d a := by
  unfold EV.obj at h
  cases e : ρ.sl[i]? with
  | none => rw [e] at h; cases h
  | some o =>
    rw [e] at h
    cases o with
    | none => cases h
    | some s =>
      obtain ⟨u, h1, h2⟩ := S.slot i s e
      rw [hv] at h1; cases h1
      cases s with
      | val d' => cases h
      | own d' =>
        cases h
        obtain ⟨a, rfl, g, _, w⟩ := h2
        exact ⟨a, rfl, g, w⟩
      | par k =>
        obtain ⟨a, rfl, ha⟩ := h2
        obtain ⟨g, w⟩ := S.par k a d ha h
        exact ⟨a, rfl, g, w⟩
      | xn => cases h
theorem Sta.look (S : Sta K C G H σ ρ) {r : R} (h : RepR K C G H σ ρ r v) (e : ρ.look r = some d) : Vw K G H d v := by
  cases r with
  | v d' => cases e; exact Rep.vw S.sub h
  | s i =>
    obtain ⟨a, rfl, _, w⟩ := S.objAt e h
    exact w.vw
  | n d' => cases e
end
end DL
set_option Elab.async false
set_option linter.all false
set_option maxRecDepth 100000
set_option maxHeartbeats 4000000
namespace DL
open PySem PySem.Spec PyProof.Rows L2

/-! ### combinators -/
def M.bind {α β : Type} (f : M α) (g : α → M β) : M β := fun ρ => match f ρ with
  | some (.ok a ρ') => g a ρ'
  | some (.ex e ρ') => some (.ex e ρ')
  | none => none
def M.ret {α : Type} (a : α) : M α := fun ρ => some (.ok a ρ)
def fVar (i : Nat) : M R := fun ρ => match ρ.sl[i]? with
  | some (some (.val d)) => some (.ok (.v d) ρ)
  | some (some _) => some (.ok (.s i) ρ)
  | _ => none
def fC (d : D) : M R := fun ρ => some (.ok (.v d) ρ)
/-- a fresh object is settled; so is an own object of a slot -/
def fFrz (f : M R) : M R := f.bind fun r => fun ρ => match r with
  | .v d => some (.ok (.v d) ρ)
  | .n d => some (.ok (.v d) ρ)
  | .s i => (match ρ.sl[i]? with
    | some (some (.own d)) => some (.ok (.v d) (ρ.set i (.val d)))
    | _ => none)
/-- a fresh object alone is settled -/
def fFrN (f : M R) : M R := f.bind fun r => fun ρ => match r with
  | .n d => some (.ok (.v d) ρ)
  | r => some (.ok r ρ)
def op1 (f : D → Option R) (r : R) : M R := fun ρ => match ρ.look r with
  | some d => (match f d with
    | some q => some (.ok q ρ)
    | none => none)
  | none => none
def op2 (f : D → D → Option R) (r1 r2 : R) : M R := fun ρ => match ρ.look r1 with
  | some d1 => (match ρ.look r2 with
    | some d2 => (match f d1 d2 with
      | some q => some (.ok q ρ)
      | none => none)
    | none => none)
  | none => none
def fUn (g : D → Option R) (f : M R) : M R := f.bind (op1 g)
def fBin (g : D → D → Option R) (f h : M R) : M R := f.bind fun r1 => h.bind fun r2 => op2 g r1 r2
def evs : List (M R) → M (List R)
  | [] => M.ret []
  | f :: fs => f.bind fun r => (evs fs).bind fun rs => M.ret (r :: rs)
def EV.looks (ρ : EV) : List R → Option (List D)
  | [] => some []
  | r :: rs => match ρ.look r with
    | some d => (match ρ.looks rs with
      | some ds => some (d :: ds)
      | none => none)
    | none => none
def settled : List R → Option (List D)
  | [] => some []
  | .v d :: rs => (match settled rs with
    | some ds => some (d :: ds)
    | none => none)
  | _ => none

/-! ### judgements -/
def ExR (G : Hp) (K : PySem.W.Frag) (e : XD) (c : Value) (d : Option Addr) : Prop :=
  c = .ref (He.ga K e.C) ∧ (e.fs = [] ∨ ∃ dd fv, d = some dd ∧ G dd = some (.xd fv) ∧ ∀ f x, e.fs.lookup f = some x → ∃ v, fv.lookup f = some v ∧ Rep K G x v)
def XPost (K : PySem.W.Frag) (C : Ctl) (W : WX) (G : Hp) (σ : L2.St) (x : XR R) (Q : VK) : Prop := match x with
  | .ok r ρ' => ∀ v G' H', Same G G' → Sta K C G' H' σ ρ' → RepR K C G' H' σ ρ' r v → Q v H'
  | .ex e ρ' => ∀ c d G' H', Same G G' → Sta K C G' H' σ ρ' → ExR G' K e c d → W c d σ H'
def tD (K : PySem.W.Frag) (C : Ctl) (W : WX) (f : M R) : TE := fun σ H Q => ∃ G ρ x, Sta K C G H σ ρ ∧ f ρ = some x ∧ XPost K C W G σ x Q
abbrev PD (X : Cx) (C : Ctl) (W : WX) (e : Expr) (f : M R) : Prop := PE X e (tD X.K C W f)
def BPost (K : PySem.W.Frag) (C : Ctl) (W : WX) (G : Hp) (σ : L2.St) (x : XR Bool) (Q : Bool → Hp → Prop) : Prop := match x with
  | .ok b ρ' => ∀ G' H', Same G G' → Sta K C G' H' σ ρ' → Q b H'
  | .ex e ρ' => ∀ c d G' H', Same G G' → Sta K C G' H' σ ρ' → ExR G' K e c d → W c d σ H'
def tDT (K : PySem.W.Frag) (C : Ctl) (W : WX) (f : M Bool) : TT := fun σ H Q => ∃ G ρ x, Sta K C G H σ ρ ∧ f ρ = some x ∧ BPost K C W G σ x Q
abbrev PB (X : Cx) (C : Ctl) (W : WX) (e : Expr) (f : M Bool) : Prop := PT X e (tDT X.K C W f)
inductive RepRs (K : PySem.W.Frag) (C : Ctl) (G H : Hp) (σ : L2.St) (ρ : EV) : List R → List V → Prop where
  | nil : RepRs K C G H σ ρ [] []
  | cons {r : R} {v : V} {rs : List R} {vs : List V} : (∀ d, r ≠ .n d) → RepR K C G H σ ρ r v → RepRs K C G H σ ρ rs vs → RepRs K C G H σ ρ (r :: rs) (v :: vs)
def APost (K : PySem.W.Frag) (C : Ctl) (W : WX) (G : Hp) (σ : L2.St) (x : XR (List R)) (Q : List V → Hp → Prop) : Prop := match x with
  | .ok rs ρ' => ∀ vs G' H', Same G G' → Sta K C G' H' σ ρ' → RepRs K C G' H' σ ρ' rs vs → Q vs H'
  | .ex e ρ' => ∀ c d G' H', Same G G' → Sta K C G' H' σ ρ' → ExR G' K e c d → W c d σ H'
def tDA (K : PySem.W.Frag) (C : Ctl) (W : WX) (f : M (List R)) : TA := fun σ H Q => ∃ G ρ x, Sta K C G H σ ρ ∧ f ρ = some x ∧ APost K C W G σ x Q
abbrev PAs (X : Cx) (C : Ctl) (W : WX) (es : List Expr) (f : M (List R)) : Prop := PA X es (tDA X.K C W f)
def SPost (K : PySem.W.Frag) (C : Ctl) (W : WX) (G : Hp) (x : Flow) (E : Ends) : Prop := match x with
  | .nx ρ' => ∀ σ G' H', Same G G' → Sta K C G' H' σ ρ' → E.nx σ H'
  | .ret r ρ' => ∀ v σ G' H', Same G G' → Sta K C G' H' σ ρ' → RepR K C G' H' σ ρ' r v → E.rt v H'
  | .ex e ρ' => ∀ c d σ G' H', Same G G' → Sta K C G' H' σ ρ' → ExR G' K e c d → W c d σ H'
  | .bk ρ' => ∀ σ G' H', Same G G' → Sta K C G' H' σ ρ' → E.bk σ H'
  | .ct ρ' => ∀ σ G' H', Same G G' → Sta K C G' H' σ ρ' → E.ct σ H'
def tS (K : PySem.W.Frag) (C : Ctl) (W : WX) (f : F) : TS := fun E σ H => ∃ G ρ x, Sta K C G H σ ρ ∧ f ρ = some x ∧ SPost K C W G x E
abbrev PQ (X : Cx) (C : Ctl) (W : WX) (st : Stmt) (f : F) : Prop := PS X st (tS X.K C W f)
abbrev PQs (X : Cx) (C : Ctl) (W : WX) (st : List Stmt) (f : F) : Prop := PSs X st (tS X.K C W f)

section
variable {X : Cx} {C : Ctl} {W : WX} {e a b : Expr} {pos : Pos} {f g h : M R}
theorem PE.of {t t' : TE} (h : PE X e t) (k : ∀ σ H Q, t' σ H Q → t σ H Q) : PE X e t' := ⟨fun pins s σ H Q I q => h.run pins s σ H Q I (k σ H Q q)⟩
theorem PE.by {t' : TE} (k : ∀ σ H Q, t' σ H Q → ∃ t, PE X e t ∧ t σ H Q) : PE X e t' := ⟨fun pins s σ H Q I q => by
  obtain ⟨t, h, q'⟩ := k σ H Q q
  exact h.run pins s σ H Q I q'⟩
theorem PT.by {t' : TT} (k : ∀ σ H Q, t' σ H Q → ∃ t, PT X e t ∧ t σ H Q) : PT X e t' := ⟨fun pins s σ H Q I q => by
  obtain ⟨t, h, q'⟩ := k σ H Q q
  exact h.run pins s σ H Q I q'⟩
theorem PS.by {st : Stmt} {t' : TS} (k : ∀ D σ H, t' D σ H → ∃ t, PS X st t ∧ t D σ H) : PS X st t' := ⟨fun pins s σ H D I q => by
  obtain ⟨t, h, q'⟩ := k D σ H q
  exact h.run pins s σ H D I q'⟩
theorem pd_var (i : Nat) {x : Str} (hN : X.N[i]? = some x := by rfl) (hv : Vis X.env.scope x := by first | exact Or.inl rfl | exact Or.inr (Or.inl rfl) | exact Or.inr (Or.inr rfl)) (hd : (x == ("__debug__" : Str)) = false := by decide)
    (hcd : (x == ("__classdict__" : Str)) = false := by decide) : PD X C W (.Name x pos) (fVar i) := by
  refine PE.of (pe_var hN hv hd hcd) fun σ H Q ⟨G, ρ, x, S, hf, P⟩ => ?_
  unfold fVar at hf
  cases e : ρ.sl[i]? with
  | none => rw [e] at hf; cases hf
  | some o =>
    rw [e] at hf
    cases o with
    | none => cases hf
    | some s =>
      obtain ⟨v, h1, h2⟩ := S.slot i s e
      refine ⟨v, h1, ?_⟩
      cases s with
      | val d => cases hf; exact P v G H (Same.refl G) S h2
      | own d => cases hf; exact P v G H (Same.refl G) S h1
      | par k => cases hf; exact P v G H (Same.refl G) S h1
      | xn => cases hf; exact P v G H (Same.refl G) S h1
/-- a constant -/
theorem pd_c {v : V} {d : D} (h : PE X e (tC v)) (r : ∀ G, Rep X.K G d v) : PD X C W e (fC d) := PE.of h fun σ H Q ⟨G, ρ, x, S, hf, P⟩ => by
  cases hf
  exact P v G H (Same.refl G) S (r G)
theorem pd_int {i j} : PD X C W (.Constant (.int i) j pos) (fC (.int i)) := pd_c pe_int fun _ => rfl
theorem pd_bl {b j} : PD X C W (.Constant (.bool b) j pos) (fC (.bl b)) := pd_c pe_bl fun _ => rfl
theorem pd_non {j} : PD X C W (.Constant .none j pos) (fC .non) := pd_c pe_non fun _ => rfl
theorem pd_str {x j} : PD X C W (.Constant (.str x) j pos) (fC (.str x)) := pd_c pe_str fun _ => rfl
/-- what stands later -/
theorem RepR.later {G G' H H' : Hp} {σ : L2.St} {ρ ρ' : EV} {r : R} {v : V} {K : PySem.W.Frag} (h : RepR K C G H σ ρ r v) (n : ∀ d, r ≠ .n d) (e : Same G G') : RepR K C G' H' σ ρ' r v := by
  cases r with
  | v d => exact Rep.mono e h
  | s i => exact h
  | n d => exact absurd rfl (n d)
theorem look_nn {ρ : EV} {r : R} {d : D} (h : ρ.look r = some d) : ∀ d, r ≠ .n d := fun d' e => by subst e; cases h
theorem bind_ok {α β : Type} {f : M α} {g : α → M β} {ρ : EV} {x : XR β} (h : f.bind g ρ = some x) : (∃ a ρ', f ρ = some (.ok a ρ') ∧ g a ρ' = some x) ∨ (∃ e ρ', f ρ = some (.ex e ρ') ∧ x = .ex e ρ') := by
  unfold M.bind at h
  cases e : f ρ with
  | none => rw [e] at h; cases h
  | some y =>
    rw [e] at h
    cases y with
    | ok a ρ' => exact .inl ⟨a, ρ', rfl, h⟩
    | ex q ρ' => exact .inr ⟨q, ρ', rfl, (Option.some.inj h).symm⟩
/-- one expression, then something by its result -/
theorem tD.seq {K : PySem.W.Frag} {G H : Hp} {σ : L2.St} {ρ : EV} {x : XR R} {g : R → M R} {Q Q' : VK} (S : Sta K C G H σ ρ) (hf : f.bind g ρ = some x) (P : XPost K C W G σ x Q)
    (hq : ∀ r ρ1 v G1 H1, Same G G1 → Sta K C G1 H1 σ ρ1 → RepR K C G1 H1 σ ρ1 r v → g r ρ1 = some x → XPost K C W G1 σ x Q → Q' v H1) : tD K C W f σ H Q' := by
  have mono : ∀ G1, Same G G1 → XPost K C W G1 σ x Q := fun G1 e1 => by
    cases x with
    | ok r ρ' => exact fun v G' H' e S' R' => P v G' H' (e1.trans e) S' R'
    | ex e ρ' => exact fun c d G' H' e S' R' => P c d G' H' (e1.trans e) S' R'
  rcases bind_ok hf with ⟨r, ρ1, h1, h2⟩ | ⟨q, ρ1, h1, rfl⟩
  · exact ⟨G, ρ, _, S, h1, fun v G1 H1 e1 S1 R1 => hq r ρ1 v G1 H1 e1 S1 R1 h2 (mono G1 e1)⟩
  · exact ⟨G, ρ, _, S, h1, P⟩
theorem pd_frz (h : PD X C W e f) : PD X C W e (fFrz f) := PE.of h fun σ H Q ⟨G, ρ, x, S, hf, P⟩ => by
  refine tD.seq S hf P fun r ρ1 v G1 H1 e1 S1 R1 h2 P1 => ?_
  cases r with
  | v d => cases h2; exact P1 v G1 H1 (Same.refl _) S1 R1
  | n d =>
    cases h2
    obtain ⟨G2, e2, S2, R2⟩ := S1.settle R1
    exact P1 v G2 H1 e2 S2 R2
  | s i =>
    have h3 : (match ρ1.sl[i]? with
      | some (some (.own d)) => some (XR.ok (R.v d) (ρ1.set i (.val d)))
      | _ => none) = some x := h2
    cases e : ρ1.sl[i]? with
    | none => rw [e] at h3; cases h3
    | some o =>
      rw [e] at h3
      cases o with
      | none => cases h3
      | some s =>
        cases s with
        | own d =>
          cases h3
          obtain ⟨G2, u, e2, hu, S2, R2⟩ := S1.settleSlot e
          have R1' : σ[i]? = some (some v) := R1
          rw [R1'] at hu; cases hu
          exact P1 v G2 H1 e2 S2 R2
        | val d => cases h3
        | par k => cases h3
        | xn => cases h3
theorem pd_frN (h : PD X C W e f) : PD X C W e (fFrN f) := PE.of h fun σ H Q ⟨G, ρ, x, S, hf, P⟩ => by
  refine tD.seq S hf P fun r ρ1 v G1 H1 e1 S1 R1 h2 P1 => ?_
  cases r with
  | v d => cases h2; exact P1 v G1 H1 (Same.refl _) S1 R1
  | n d =>
    cases h2
    obtain ⟨G2, e2, S2, R2⟩ := S1.settle R1
    exact P1 v G2 H1 e2 S2 R2
  | s i => cases h2; exact P1 v G1 H1 (Same.refl _) S1 R1
theorem op2_ok {g : D → D → Option R} {r1 r2 : R} {ρ : EV} {x : XR R} (h : op2 g r1 r2 ρ = some x) : ∃ d1 d2 r, ρ.look r1 = some d1 ∧ ρ.look r2 = some d2 ∧ g d1 d2 = some r ∧ x = .ok r ρ := by
  unfold op2 at h
  cases e1 : ρ.look r1 with
  | none => rw [e1] at h; cases h
  | some d1 =>
    rw [e1] at h
    cases e2 : ρ.look r2 with
    | none => rw [e2] at h; cases h
    | some d2 =>
      rw [e2] at h
      cases e3 : g d1 d2 with
      | none => simp only [e3] at h; cases h
      | some r => simp only [e3] at h; exact ⟨d1, d2, r, rfl, rfl, e3, (Option.some.inj h).symm⟩
theorem op1_ok {g : D → Option R} {r1 : R} {ρ : EV} {x : XR R} (h : op1 g r1 ρ = some x) : ∃ d1 r, ρ.look r1 = some d1 ∧ g d1 = some r ∧ x = .ok r ρ := by
  unfold op1 at h
  cases e1 : ρ.look r1 with
  | none => rw [e1] at h; cases h
  | some d1 =>
    rw [e1] at h
    cases e3 : g d1 with
    | none => simp only [e3] at h; cases h
    | some r => simp only [e3] at h; exact ⟨d1, r, rfl, e3, (Option.some.inj h).symm⟩
/-- an operation on data is what the machine's operation does -/
def Ans (K : PySem.W.Frag) (C : Ctl) (G H : Hp) (σ : L2.St) (ρ : EV) (r : R) (Q : VK) : Prop := ∀ v G' H', Same G G' → Sta K C G' H' σ ρ → RepR K C G' H' σ ρ r v → Q v H'
def Op2 (X : Cx) (fo : Value → Value → Sem Value) (g : D → D → Option R) : Prop := ∀ d1 d2 r, g d1 d2 = some r → ∃ rd : L2.R2, OpR X fo rd ∧
  ∀ C G H σ ρ v1 v2 Q, Sta X.K C G H σ ρ → Vw X.K G H d1 v1 → Vw X.K G H d2 v2 → Ans X.K C G H σ ρ r Q → rd v1 v2 H Q
theorem opr_false {fo : Value → Value → Sem Value} : OpR X fo (fun _ _ _ _ => False) := fun _ _ _ _ _ _ _ _ _ _ _ _ h => h.elim
theorem bin_go {fo : Value → Value → Sem Value} {k : D → D → Option R} (ho : Op2 X fo k) {σ : L2.St} {H : Hp} {Q : VK} (q : tD X.K C W (fBin k f g) σ H Q) : ∃ rd : L2.R2, OpR X fo rd ∧ tOp rd (tD X.K C W f) (tD X.K C W g) σ H Q := by
  obtain ⟨G, ρ, x, S, hf, P⟩ := q
  have hf0 := hf
  rcases bind_ok hf with ⟨r1, ρ1, h1, h2⟩ | ⟨q, ρ1, h1, rfl⟩
  · rcases bind_ok h2 with ⟨r2, ρ2, h3, h4⟩ | ⟨q, ρ2, h3, rfl⟩
    · obtain ⟨d1, d2, r, l1, l2, hk, rfl⟩ := op2_ok h4
      obtain ⟨rd, hr, hd⟩ := ho d1 d2 r hk
      refine ⟨rd, hr, ⟨G, ρ, _, S, h1, fun v1 G1 H1 e1 S1 R1 => ⟨G1, ρ1, _, S1, h3, fun v2 G2 H2 e2 S2 R2 => ?_⟩⟩⟩
      have R1' := R1.later (H' := H2) (ρ' := ρ2) (look_nn l1) e2
      exact hd C G2 H2 σ ρ2 v1 v2 Q S2 (S2.look R1' l1) (S2.look R2 l2) fun v G' H' e' S' R' => P v G' H' ((e1.trans e2).trans e') S' R'
    · exact ⟨_, opr_false, ⟨G, ρ, _, S, h1, fun v1 G1 H1 e1 S1 R1 => ⟨G1, ρ1, _, S1, h3, fun c d G2 H2 e2 S2 R2 => P c d G2 H2 (e1.trans e2) S2 R2⟩⟩⟩
  · exact ⟨_, opr_false, ⟨G, ρ, _, S, h1, P⟩⟩
theorem pd_bin {op : Operator} {k : D → D → Option R} (ho : Op2 X (binaryOp op) k) (ha : PD X C W a f) (hb : PD X C W b g) : PD X C W (.BinOp a op b pos) (fBin k f g) := PE.by fun σ H Q q => by
  obtain ⟨rd, hr, q'⟩ := bin_go ho q
  exact ⟨_, pe_op hr ha hb, q'⟩
theorem pd_cmp {op : CmpOp} {k : D → D → Option R} (ho : Op2 X (compareOp op) k) (ha : PD X C W a f) (hb : PD X C W b g) (hm : behindInMarks op b = false) : PD X C W (.Compare a [op] [b] pos) (fBin k f g) := PE.by fun σ H Q q => by
  obtain ⟨rd, hr, q'⟩ := bin_go ho q
  exact ⟨_, pe_cmpR hr ha hb hm, q'⟩
/-- a bool as a test -/
def fBool (f : M R) : M Bool := f.bind fun r => fun ρ => match r with
  | .v (.bl b) => some (.ok b ρ)
  | _ => none
theorem test_go {k : M R} {σ : L2.St} {H : Hp} {Q : Bool → Hp → Prop} (q : tDT X.K C W (fBool k) σ H Q) : tD X.K C W k σ H fun x H' => ∃ c, x = .bl c ∧ Q c H' := by
  obtain ⟨G, ρ, x, S, hf, P⟩ := q
  rcases bind_ok hf with ⟨r, ρ1, h1, h2⟩ | ⟨q, ρ1, h1, rfl⟩
  · refine ⟨G, ρ, _, S, h1, fun v G1 H1 e1 S1 R1 => ?_⟩
    cases r with
    | v d =>
      cases d with
      | bl b =>
        cases h2
        exact ⟨b, R1, P G1 H1 e1 S1⟩
      | _ => cases h2
    | _ => cases h2
  · exact ⟨G, ρ, _, S, h1, P⟩
theorem pb_cmp {op : CmpOp} {k : D → D → Option R} (ho : Op2 X (compareOp op) k) (ha : PD X C W a f) (hb : PD X C W b g) (hm : behindInMarks op b = false) : PB X C W (.Compare a [op] [b] pos) (fBool (fBin k f g)) := PT.by fun σ H Q q => by
  obtain ⟨G, ρ, x, S, hf, P⟩ := test_go q
  obtain ⟨rd, hr, q'⟩ := bin_go (Q := fun x H' => ∃ c, x = .bl c ∧ Q c H') ho ⟨G, ρ, x, S, hf, P⟩
  exact ⟨_, pt_cmpR hr ha hb hm, q'⟩
/-- a bool's name, call .. as a test -/
theorem pb_val (h : PD X C W e f) (he : ∀ whole, isTrue e X.env whole = (do let v ← whole; standAt e.pos; holding [v] (truthy v)) := by intro _; rfl) : PB X C W e (fBool f) := PT.by fun σ H Q q => ⟨_, pt_val h he, test_go q⟩
def fNotB (t : M Bool) : M Bool := t.bind fun b => M.ret (!b)
def fAndB (t u : M Bool) : M Bool := t.bind fun b => if b = true then u else M.ret false
def fOrB (t u : M Bool) : M Bool := t.bind fun b => if b = true then M.ret true else u
variable {t u : M Bool}
theorem tDT.seq {K : PySem.W.Frag} {G H : Hp} {σ : L2.St} {ρ : EV} {x : XR Bool} {g : Bool → M Bool} {Q Q' : Bool → Hp → Prop} (S : Sta K C G H σ ρ) (hf : t.bind g ρ = some x) (P : BPost K C W G σ x Q)
    (hq : ∀ b ρ1 G1 H1, Sta K C G1 H1 σ ρ1 → g b ρ1 = some x → BPost K C W G1 σ x Q → Q' b H1) : tDT K C W t σ H Q' := by
  have mono : ∀ G1, Same G G1 → BPost K C W G1 σ x Q := fun G1 e1 => by
    cases x with
    | ok r ρ' => exact fun G' H' e S' => P G' H' (e1.trans e) S'
    | ex e ρ' => exact fun c d G' H' e S' R' => P c d G' H' (e1.trans e) S' R'
  rcases bind_ok hf with ⟨r, ρ1, h1, h2⟩ | ⟨q, ρ1, h1, rfl⟩
  · exact ⟨G, ρ, _, S, h1, fun G1 H1 e1 S1 => hq r ρ1 G1 H1 S1 h2 (mono G1 e1)⟩
  · exact ⟨G, ρ, _, S, h1, P⟩
theorem pb_not (ha : PB X C W a t) : PB X C W (.UnaryOp .Not a pos) (fNotB t) := PT.by fun σ H Q ⟨G, ρ, x, S, hf, P⟩ => ⟨_, pt_not ha, tDT.seq S hf P fun b ρ1 G1 H1 S1 h2 P1 => by
  cases h2
  exact P1 G1 H1 (Same.refl _) S1⟩
abbrev PBW (X : Cx) (C : Ctl) (W : WX) (e : Expr) (f : M Bool) : Prop := PW X e (tDT X.K C W f)
theorem pbw_and1 (ha : PB X C W a t) : PBW X C W (.BoolOp .And [a] pos) t := pw_and1 ha
theorem pbw_or1 (ha : PB X C W a t) : PBW X C W (.BoolOp .Or [a] pos) t := pw_or1 ha
theorem PW.by {t' : TT} (k : ∀ σ H Q, t' σ H Q → ∃ t, PW X e t ∧ t σ H Q) : PW X e t' := ⟨fun wh pins s σ H Q I q => by
  obtain ⟨t, h, q'⟩ := k σ H Q q
  exact h.run wh pins s σ H Q I q'⟩
theorem pbw_and {rest : List Expr} (ha : PB X C W a t) (hb : PBW X C W (.BoolOp .And (b :: rest) pos) u) : PBW X C W (.BoolOp .And (a :: b :: rest) pos) (fAndB t u) := PW.by fun σ H Q ⟨G, ρ, x, S, hf, P⟩ => ⟨_, pw_and ha hb, tDT.seq S hf P fun c ρ1 G1 H1 S1 h2 P1 => by
  cases c with
  | true => exact ⟨G1, ρ1, x, S1, h2, P1⟩
  | false => cases h2; exact P1 G1 H1 (Same.refl _) S1⟩
theorem pbw_or {rest : List Expr} (ha : PB X C W a t) (hb : PBW X C W (.BoolOp .Or (b :: rest) pos) u) : PBW X C W (.BoolOp .Or (a :: b :: rest) pos) (fOrB t u) := PW.by fun σ H Q ⟨G, ρ, x, S, hf, P⟩ => ⟨_, pw_or ha hb, tDT.seq S hf P fun c ρ1 G1 H1 S1 h2 P1 => by
  cases c with
  | false => exact ⟨G1, ρ1, x, S1, h2, P1⟩
  | true => cases h2; exact P1 G1 H1 (Same.refl _) S1⟩
theorem pb_w (h : PBW X C W e t) : PB X C W e t := h.pt
end
end DL
set_option Elab.async false
set_option linter.all false
set_option maxRecDepth 100000
set_option maxHeartbeats 4000000
namespace DL
open PySem PySem.Spec PyProof.Rows L2

/-! ### an object of a slot is written -/
section
variable {K : PySem.W.Frag} {C : Ctl} {G G' H H' : Hp} {σ : L2.St} {ρ : EV} {d d' : D} {v : V} {i : Nat}
theorem Sta.write (S : Sta K C G H σ ρ) {a : Addr} (h : ρ.obj i = some d) (hv : σ[i]? = some (some (.ref a))) {o' : HO} (w' : View K G (upd H a o') d' a) : Sta K C G (upd H a o') σ (ρ.put i d') := by
  obtain ⟨a', e0, ga, wa⟩ := S.objAt h hv
  cases e0
  have sub : Same G (upd H a o') := fun b u e => by
    rw [upd_ne (ne_of_none e ga)]
    exact S.sub b u e
  cases e : ρ.sl[i]? with
  | none => unfold EV.obj at h; rw [e] at h; cases h
  | some so =>
    cases so with
    | none => unfold EV.obj at h; rw [e] at h; cases h
    | some s =>
      obtain ⟨u, h1, h2⟩ := S.slot i s e
      rw [hv] at h1; cases h1
      cases s with
      | val x => unfold EV.obj at h; rw [e] at h; cases h
      | xn => unfold EV.obj at h; rw [e] at h; cases h
      | own x =>
        obtain ⟨a2, e2, g2, h0, w2⟩ := h2
        cases e2
        have hil : i < ρ.sl.length := (List.getElem?_eq_some_iff.mp e).1
        have ep : ρ.put i d' = ρ.set i (.own d') := by unfold EV.put; rw [e]
        rw [ep]
        have f : ∀ {j : Nat} {x : D}, (ρ.set i (.own d')).sl[j]? = some (some (.own x)) → ∃ y, ρ.sl[j]? = some (some (.own y)) := fun {j x} q => by
          by_cases hj : i = j
          · subst hj; exact ⟨_, e⟩
          · simp only [EV.set, List.getElem?_set_ne hj] at q
            exact ⟨x, q⟩
        refine { S with sub := sub, base := fun b u q hA => ?_, len := by simp [EV.set, S.len], slot := fun j s q => ?_, dist := fun j k x y u q1 q2 q3 q4 => ?_, par := fun k b x q1 q2 => ?_ }
        · have nb : b ≠ a := fun z => by rw [z, h0] at q; cases q
          rw [upd_ne nb]; exact S.base b u q hA
        · by_cases hj : i = j
          · subst hj
            simp only [EV.set, List.getElem?_set_self hil] at q
            cases q
            exact ⟨_, hv, a, rfl, ga, h0, w'⟩
          · simp only [EV.set, List.getElem?_set_ne hj] at q
            obtain ⟨u, h3, h4⟩ := S.slot j s q
            refine ⟨u, h3, ?_⟩
            cases s with
            | val x => exact h4
            | own y =>
              obtain ⟨b, rfl, g3, h5, w3⟩ := h4
              have nb : b ≠ a := fun z => by
                subst z
                exact hj (S.dist i j _ _ _ e q hv h3)
              exact ⟨b, rfl, g3, h5, w3.mono (Same.refl _) (upd_ne nb)⟩
            | par k => exact h4
            | xn => exact h4
        · obtain ⟨x', q1'⟩ := f q1
          obtain ⟨y', q2'⟩ := f q2
          exact S.dist j k x' y' u q1' q2' q3 q4
        · obtain ⟨g3, w3⟩ := S.par k b x q1 q2
          have nb : b ≠ a := fun z => by
            obtain ⟨o2, e2⟩ := S.pin b (List.mem_of_getElem? q1)
            rw [z, h0] at e2; cases e2
          exact ⟨g3, w3.mono (Same.refl _) (upd_ne nb)⟩
      | par k =>
        obtain ⟨a2, e2, hk⟩ := h2
        cases e2
        have ep : ρ.put i d' = { ρ with ps := ρ.ps.set k d' } := by unfold EV.put; rw [e]
        rw [ep]
        refine { S with sub := sub, base := fun b u q hA => ?_, slot := fun j s q => ?_, plen := by simp [S.plen], par := fun k2 b x q1 q2 => ?_ }
        · have nb : b ≠ a := fun z => hA (by rw [z]; exact List.mem_of_getElem? hk)
          rw [upd_ne nb]; exact S.base b u q hA
        · obtain ⟨u, h3, h4⟩ := S.slot j s q
          refine ⟨u, h3, ?_⟩
          cases s with
          | val x => exact h4
          | own y =>
            obtain ⟨b, rfl, g3, h5, w3⟩ := h4
            have nb : b ≠ a := fun z => by
              obtain ⟨o2, e2⟩ := S.pin a (List.mem_of_getElem? hk)
              rw [← z, h5] at e2; cases e2
            exact ⟨b, rfl, g3, h5, w3.mono (Same.refl _) (upd_ne nb)⟩
          | par k => exact h4
          | xn => exact h4
        · by_cases hkk : k = k2
          · subst hkk
            rw [hk] at q1
            cases q1
            have hl : k < ρ.ps.length := by
              have := (List.getElem?_eq_some_iff.mp q2).1
              simpa using this
            have q2' : (ρ.ps.set k d')[k]? = some x := q2
            rw [List.getElem?_set_self hl] at q2'
            cases q2'
            exact ⟨ga, w'⟩
          · have q2' : (ρ.ps.set k d')[k2]? = some x := q2
            rw [List.getElem?_set_ne hkk] at q2'
            obtain ⟨g3, w3⟩ := S.par k2 b x q1 q2'
            have nb : b ≠ a := fun z => by
              subst z
              obtain ⟨l1, m1⟩ := List.getElem?_eq_some_iff.mp hk
              obtain ⟨l2, m2⟩ := List.getElem?_eq_some_iff.mp q1
              exact hkk ((List.getElem_inj S.pnd).mp (m1.trans m2.symm))
            exact ⟨g3, w3.mono (Same.refl _) (upd_ne nb)⟩
theorem RepRs.looks (S : Sta K C G H σ ρ) : ∀ {rs : List R} {vs : List V} {ds : List D}, RepRs K C G H σ ρ rs vs → ρ.looks rs = some ds → ∃ f : Unit, vs.length = ds.length ∧ ∀ (i : Nat) d, ds[i]? = some d → ∃ v, vs[i]? = some v ∧ Vw K G H d v := by
  intro rs
  induction rs with
  | nil => intro vs ds h e; cases h; cases e; exact ⟨(), rfl, fun i d q => by simp at q⟩
  | cons r rs ih =>
    intro vs ds h e
    cases h with
    | cons n h1 h2 =>
      rename_i v vs'
      unfold EV.looks at e
      cases e1 : ρ.look r with
      | none => rw [e1] at e; cases e
      | some d1 =>
        rw [e1] at e
        cases e2 : ρ.looks rs with
        | none => simp only [e2] at e; cases e
        | some ds1 =>
          simp only [e2] at e
          cases e
          obtain ⟨_, l, q⟩ := ih h2 e2
          refine ⟨(), by simp [l], fun i d hd => ?_⟩
          cases i with
          | zero => simp at hd; subst hd; exact ⟨v, rfl, S.look h1 e1⟩
          | succ i => exact q i d (by simpa using hd)
theorem RepRs.settled : ∀ {rs : List R} {vs : List V} {ds : List D}, RepRs K C G H σ ρ rs vs → settled rs = some ds → RepL K G ds vs := by
  intro rs
  induction rs with
  | nil => intro vs ds h e; cases h; cases e; rfl
  | cons r rs ih =>
    intro vs ds h e
    cases h with
    | cons n h1 h2 =>
      cases r with
      | v d =>
        unfold DL.settled at e
        cases e2 : DL.settled rs with
        | none => rw [e2] at e; cases e
        | some ds1 =>
          rw [e2] at e
          cases e
          exact RepL.cons h1 (ih h2 e2)
      | s i => cases e
      | n d => cases e
theorem RepRs.later : ∀ {rs : List R} {vs : List V} {ρ' : EV}, RepRs K C G H σ ρ rs vs → Same G G' → RepRs K C G' H' σ ρ' rs vs := by
  intro rs vs ρ' h e
  induction h with
  | nil => exact .nil
  | cons n h1 _ ih => exact .cons n (h1.later n e) ih
end

section
variable {X : Cx} {C : Ctl} {W : WX} {e a b : Expr} {es : List Expr} {pos : Pos} {f g h : M R} {fs : List (M R)}
/-! ### arguments -/
theorem pa_dnil : PAs X C W [] (evs []) := ⟨fun pos pins s σ H Q I ⟨G, ρ, x, S, hf, P⟩ => by
  cases hf
  exact pa_nil.run pos pins s σ H Q I (P [] G H (Same.refl _) S .nil)⟩
theorem PA.by {t' : TA} (k : ∀ σ H Q, t' σ H Q → ∃ t, PA X es t ∧ t σ H Q) : PA X es t' := ⟨fun pos pins s σ H Q I q => by
  obtain ⟨t, h, q'⟩ := k σ H Q q
  exact h.run pos pins s σ H Q I q'⟩
/-- an argument is no fresh object (fFrN, fFrz) -/
def fNN (f : M R) : M R := f.bind fun r => match r with
  | .n _ => fun _ => none
  | r => M.ret r
theorem pa_dcons (ha : PD X C W e f) (hr : PAs X C W es (evs fs)) (hs : starEach (e :: es) X.env = (false, eval e X.env) :: starEach es X.env := by rfl) : PAs X C W (e :: es) (evs (fNN f :: fs)) := PA.by fun σ H Q ⟨G, ρ, x, S, hf, P⟩ => by
  refine ⟨_, pa_cons ha hr hs, ?_⟩
  rcases bind_ok hf with ⟨r, ρ1, h1, h2⟩ | ⟨q, ρ1, h1, rfl⟩
  · rcases bind_ok h1 with ⟨r0, ρ0, h3, h4⟩ | ⟨q, ρ0, h3, h4⟩
    · refine ⟨G, ρ, _, S, h3, fun v G1 H1 e1 S1 R1 => ?_⟩
      have nn : (∀ d, r0 ≠ .n d) ∧ r0 = r ∧ ρ0 = ρ1 := by
        cases r0 with
        | n d => cases h4
        | v d => cases h4; exact ⟨(fun _ z => nomatch z), rfl, rfl⟩
        | s i => cases h4; exact ⟨(fun _ z => nomatch z), rfl, rfl⟩
      obtain ⟨nn, rfl, rfl⟩ := nn
      rcases bind_ok h2 with ⟨rs, ρ2, h5, h6⟩ | ⟨q, ρ2, h5, rfl⟩
      · cases h6
        exact ⟨G1, ρ0, _, S1, h5, fun vs G2 H2 e2 S2 R2 => P (v :: vs) G2 H2 (e1.trans e2) S2 (.cons nn (R1.later nn e2) R2)⟩
      · exact ⟨G1, ρ0, _, S1, h5, fun c d G2 H2 e2 S2 R2 => P c d G2 H2 (e1.trans e2) S2 R2⟩
    · cases h4
  · rcases bind_ok h1 with ⟨r0, ρ0, h3, h4⟩ | ⟨q, ρ0, h3, h4⟩
    · cases r0 with
      | n d => cases h4
      | v d => cases h4
      | s i => cases h4
    · cases h4
      exact ⟨G, ρ, _, S, h3, P⟩
/-! ### displays -/
def szOk (n : Nat) : Prop := n ≤ 16777216
instance {n : Nat} : Decidable (szOk n) := by unfold szOk; exact inferInstance
theorem szOk.line {n : Nat} (h : szOk n) : n ≤ sizeLine := by rw [sizeLine_eq]; exact h
def mkTup (rs : List R) : M R := fun ρ => match settled rs with
  | some ds => if szOk ds.length then some (.ok (.v (.tup ds)) ρ) else none
  | none => none
def mkLst (rs : List R) : M R := fun ρ => match settled rs with
  | some ds => if szOk ds.length then some (.ok (.n (.lst ds)) ρ) else none
  | none => none
def fTup (fs : List (M R)) : M R := (evs fs).bind mkTup
def fLst (fs : List (M R)) : M R := (evs fs).bind mkLst
theorem tDA.seq {K : PySem.W.Frag} {α : Type} {G H : Hp} {σ : L2.St} {ρ : EV} {x : XR α} {fa : M (List R)} {g : List R → M α} {Q' : List V → Hp → Prop} (S : Sta K C G H σ ρ) (hf : fa.bind g ρ = some x)
    (he : ∀ e ρ', x = .ex e ρ' → ∀ c d G' H', Same G G' → Sta K C G' H' σ ρ' → ExR G' K e c d → W c d σ H')
    (hq : ∀ rs ρ1 vs G1 H1, Same G G1 → Sta K C G1 H1 σ ρ1 → RepRs K C G1 H1 σ ρ1 rs vs → g rs ρ1 = some x → Q' vs H1) : tDA K C W fa σ H Q' := by
  rcases bind_ok hf with ⟨rs, ρ1, h1, h2⟩ | ⟨q, ρ1, h1, rfl⟩
  · exact ⟨G, ρ, _, S, h1, fun vs G1 H1 e1 S1 R1 => hq rs ρ1 vs G1 H1 e1 S1 R1 h2⟩
  · exact ⟨G, ρ, _, S, h1, fun c d G' H' e' S' R' => he q ρ1 rfl c d G' H' e' S' R'⟩
theorem pd_tup {x1} (h : PAs X C W es (evs fs)) : PD X C W (.Tuple es x1 pos) (fTup fs) := PE.of (pe_tup h) fun σ H Q ⟨G, ρ, x, S, hf, P⟩ => by
  refine tDA.seq S hf (fun e ρ' ex => by subst ex; exact P) fun rs ρ1 vs G1 H1 e1 S1 R1 h2 => ?_
  unfold mkTup at h2
  cases e2 : settled rs with
  | none => rw [e2] at h2; cases h2
  | some ds =>
    rw [e2] at h2
    have r := R1.settled e2
    by_cases hz : szOk ds.length
    · simp only [if_pos hz] at h2
      cases h2
      refine ⟨by rw [← r.length]; exact hz.line, fun p hp => ?_⟩
      obtain ⟨e3, S3, R3⟩ := S1.newTup hp r
      exact P (.ref p) _ _ (e1.trans e3) S3 R3
    · simp only [if_neg hz] at h2; cases h2
theorem pd_lst (h : PAs X C W es (evs fs)) : PD X C W (.List es pos) (fLst fs) := PE.of (pe_lst h) fun σ H Q ⟨G, ρ, x, S, hf, P⟩ => by
  refine tDA.seq S hf (fun e ρ' ex => by subst ex; exact P) fun rs ρ1 vs G1 H1 e1 S1 R1 h2 => ?_
  unfold mkLst at h2
  cases e2 : settled rs with
  | none => rw [e2] at h2; cases h2
  | some ds =>
    rw [e2] at h2
    have r := R1.settled e2
    by_cases hz : szOk ds.length
    · simp only [if_pos hz] at h2
      cases h2
      refine ⟨by rw [← r.length]; exact hz.line, fun p hp => ?_⟩
      exact P (.ref p) _ _ e1 (S1.lay hp _) (S1.newList hp r)
    · simp only [if_neg hz] at h2; cases h2
/-! ### calls of built-ins, by values -/
def opN (g : List D → Option R) (rs : List R) : M R := fun ρ => match ρ.looks rs with
  | some ds => (match g ds with
    | some q => some (.ok q ρ)
    | none => none)
  | none => none
def fN (g : List D → Option R) (fs : List (M R)) : M R := (evs fs).bind (opN g)
theorem opN_ok {g : List D → Option R} {rs : List R} {ρ : EV} {x : XR R} (h : opN g rs ρ = some x) : ∃ ds r, ρ.looks rs = some ds ∧ g ds = some r ∧ x = .ok r ρ := by
  unfold opN at h
  cases e1 : ρ.looks rs with
  | none => rw [e1] at h; cases h
  | some ds =>
    rw [e1] at h
    cases e3 : g ds with
    | none => simp only [e3] at h; cases h
    | some r => simp only [e3] at h; exact ⟨ds, r, rfl, e3, (Option.some.inj h).symm⟩
inductive Vws (K : PySem.W.Frag) (G H : Hp) : List D → List V → Prop where
  | nil : Vws K G H [] []
  | cons {d : D} {v : V} {ds : List D} {vs : List V} : Vw K G H d v → Vws K G H ds vs → Vws K G H (d :: ds) (v :: vs)
theorem RepRs.vws {K : PySem.W.Frag} {G H : Hp} {σ : L2.St} {ρ : EV} (S : Sta K C G H σ ρ) : ∀ {rs : List R} {vs : List V} {ds : List D}, RepRs K C G H σ ρ rs vs → ρ.looks rs = some ds → Vws K G H ds vs := by
  intro rs
  induction rs with
  | nil => intro vs ds h e; cases h; cases e; exact .nil
  | cons r rs ih =>
    intro vs ds h e
    cases h with
    | cons n h1 h2 =>
      unfold EV.looks at e
      cases e1 : ρ.look r with
      | none => rw [e1] at e; cases e
      | some d1 =>
        rw [e1] at e
        cases e2 : ρ.looks rs with
        | none => simp only [e2] at e; cases e
        | some ds1 =>
          simp only [e2] at e
          cases e
          exact .cons (S.look h1 e1) (ih h2 e2)
def OpN (X : Cx) (fv : Value) (g : List D → Option R) : Prop := ∀ ds r, g ds = some r → ∃ rd : List V → Hp → VK → Prop, CallR X fv rd ∧
  ∀ C G H σ ρ vs Q, Sta X.K C G H σ ρ → Vws X.K G H ds vs → Ans X.K C G H σ ρ r Q → rd vs H Q
theorem callR_false {fv : Value} : CallR X fv (fun _ _ _ => False) := fun _ _ _ _ _ _ _ _ _ h => h.elim
theorem n_go {fv : Value} {k : List D → Option R} (ho : OpN X fv k) {σ : L2.St} {H : Hp} {Q : VK} (q : tD X.K C W (fN k fs) σ H Q) : ∃ rd : List V → Hp → VK → Prop, CallR X fv rd ∧ tCB rd (tDA X.K C W (evs fs)) σ H Q := by
  obtain ⟨G, ρ, x, S, hf, P⟩ := q
  rcases bind_ok hf with ⟨rs, ρ1, h1, h2⟩ | ⟨q, ρ1, h1, rfl⟩
  · obtain ⟨ds, r, l1, hk, rfl⟩ := opN_ok h2
    obtain ⟨rd, hr, hd⟩ := ho ds r hk
    exact ⟨rd, hr, ⟨G, ρ, _, S, h1, fun vs G1 H1 e1 S1 R1 => hd C G1 H1 σ ρ1 vs Q S1 (R1.vws S1 l1) fun v G' H' e' S' R' => P v G' H' (e1.trans e') S' R'⟩⟩
  · exact ⟨_, callR_false, ⟨G, ρ, _, S, h1, P⟩⟩
theorem pd_callB {id : String} {x : Str} {p : Pos} {k : List D → Option R} (ho : OpN X (.builtin id) k) (hg : Gl X x) (hm : X.mg x = none) (hv : bootBuiltins x = some (.builtin id)) (ha : PAs X C W (e :: es) (evs fs)) (hn : x ≠ "__name__" := by decide) (hdb : (x == ("__debug__" : Str)) = false := by decide)
    (he : starEach (e :: es) X.env = (false, eval e X.env) :: starEach es X.env := by rfl) (hpl : (backTo pos (starEach es X.env)).any (·.1) = false := by rfl) : PD X C W (.Call (.Name x p) (e :: es) [] pos) (fN k fs) := PE.by fun σ H Q q => by
  obtain ⟨rd, hr, q'⟩ := n_go ho q
  exact ⟨_, pe_callB hr hg hm hv ha hn hdb he hpl, q'⟩
theorem pd_callTy {T : String} {x : Str} {p : Pos} {k : List D → Option R} (ho : OpN X (.type T) k) (hg : Gl X x) (hm : X.mg x = none) (hv : bootBuiltins x = some (.type T)) (ha : PAs X C W (e :: es) (evs fs)) (hn : x ≠ "__name__" := by decide) (hdb : (x == ("__debug__" : Str)) = false := by decide)
    (he : starEach (e :: es) X.env = (false, eval e X.env) :: starEach es X.env := by rfl) (hpl : (backTo pos (starEach es X.env)).any (·.1) = false := by rfl) : PD X C W (.Call (.Name x p) (e :: es) [] pos) (fN k fs) := PE.by fun σ H Q q => by
  obtain ⟨rd, hr, q'⟩ := n_go ho q
  exact ⟨_, pe_callTy hr hg hm hv ha hn hdb he hpl, q'⟩
end
end DL
set_option Elab.async false
set_option linter.all false
set_option maxRecDepth 100000
set_option maxHeartbeats 4000000
namespace DL
open PySem PySem.Spec PyProof.Rows L2

/-! ### operations on data -/
def cMul (i j : Int) : Prop := (-(2 ^ 64) < i ∧ i < 2 ^ 64) ∨ (-(2 ^ 64) < j ∧ j < 2 ^ 64)
instance {i j : Int} : Decidable (cMul i j) := by unfold cMul; exact inferInstance
def cDiv (j : Int) : Prop := 0 < j ∧ j < 1073741824
instance {j : Int} : Decidable (cDiv j) := by unfold cDiv; exact inferInstance
def cPow (i j : Int) : Prop := 0 ≤ j ∧ j ≤ 1000000 ∧ i.natAbs < 2 ^ 64
instance {i j : Int} : Decidable (cPow i j) := by unfold cPow; exact inferInstance
instance {a : List D} : Decidable (a ≠ []) := by
  cases a with
  | nil => exact .isFalse fun h => h rfl
  | cons x r => exact .isTrue fun h => nomatch h
def addD : D → D → Option R
  | .int i, .int j => some (.v (.int (i + j)))
  | .str a, .str b => if szOk (a.length + b.length) then some (.v (.str (a ++ b))) else none
  | .lst a, .lst b => if szOk (a.length + b.length) then some (.n (.lst (a ++ b))) else none
  | .tup a, .tup b => if a ≠ [] ∧ szOk (a.length + b.length) then some (.v (.tup (a ++ b))) else none
  | _, _ => none
def subD : D → D → Option R
  | .int i, .int j => some (.v (.int (i - j)))
  | _, _ => none
def cRep (n : Nat) (k : Int) : Prop := -(2 ^ 63) ≤ k ∧ k < 2 ^ 63 ∧ szOk (n * k.toNat)
instance {n : Nat} {k : Int} : Decidable (cRep n k) := by unfold cRep; exact inferInstance
def mulD : D → D → Option R
  | .int i, .int j => if cMul i j then some (.v (.int (i * j))) else none
  | .lst a, .int k => if cRep a.length k then some (.n (.lst (List.replicate k.toNat a).flatten)) else none
  | _, _ => none
def modD : D → D → Option R
  | .int i, .int j => if 0 < j then some (.v (.int (i % j))) else none
  | _, _ => none
def fdivD : D → D → Option R
  | .int i, .int j => if cDiv j then some (.v (.int (i / j))) else none
  | _, _ => none
def powD : D → D → Option R
  | .int i, .int j => if cPow i j then some (.v (.int (i ^ j.toNat))) else none
  | _, _ => none
def negD : D → Option R
  | .int i => some (.v (.int (-i)))
  | _ => none
def cmpD (p : Int → Int → Bool) : D → D → Option R
  | .int i, .int j => some (.v (.bl (p i j)))
  | _, _ => none
abbrev ltD := cmpD fun i j => decide (i < j)
abbrev leD := cmpD fun i j => decide (i ≤ j)
abbrev gtD := cmpD fun i j => decide (j < i)
abbrev geD := cmpD fun i j => decide (j ≤ i)
mutual
def py : D → PyData
  | .non => .none
  | .bl b => .bool b
  | .int i => .int i
  | .str s => .str s
  | .lst ds => .list (pys ds)
  | .tup ds => .tuple (pys ds)
  | _ => .dict []
def pys : List D → List PyData
  | [] => []
  | d :: ds => py d :: pys ds
end
def okD (d : D) : Bool := SeqAt.shaped (py d)
def eqB (a b : D) : Bool := PyData.eqv (py a) (py b)
def eqD : D → D → Option R
  | .str a, .str b => some (.v (.bl (decide (a = b))))
  | .int a, .int b => some (.v (.bl (decide (a = b))))
  | .bl a, .bl b => some (.v (.bl (decide (a = b))))
  | a, b => if (okD a && okD b) = true then some (.v (.bl (eqB a b))) else none
def neD : D → D → Option R
  | .str a, .str b => some (.v (.bl (!decide (a = b))))
  | .int a, .int b => some (.v (.bl (!decide (a = b))))
  | .bl a, .bl b => some (.v (.bl (!decide (a = b))))
  | a, b => if (okD a && okD b) = true then some (.v (.bl (!eqB a b))) else none
def isNone : D → Bool
  | .non => true
  | _ => false
def isND : D → D → Option R
  | a, .non => some (.v (.bl (isNone a)))
  | _, _ => none
def notND : D → D → Option R
  | a, .non => some (.v (.bl (!isNone a)))
  | _, _ => none
/-- flat data as a value -/
def toV : D → Option V
  | .non => some .non
  | .bl b => some (.bl b)
  | .int i => some (.int i)
  | .str s => some (.str s)
  | _ => none
def toVs : List D → Option (List V)
  | [] => some []
  | d :: ds => match toV d with
    | some v => (match toVs ds with
      | some vs => some (v :: vs)
      | none => none)
    | none => none
def inFlat (d : D) (ds : List D) : Option Bool := match toV d with
  | some v => (match toVs ds with
    | some vs => some (inV v vs)
    | none => none)
  | none => none
def inB : D → D → Option Bool
  | .str a, .str b => some (!(Builtin.Str.occurrences b a 0 b.length 1).isEmpty)
  | a, .lst ds => (match inFlat a ds with
    | some b => some b
    | none => if (okD a && okD (.lst ds)) = true then some (ds.any fun z => eqB z a) else none)
  | a, .tup ds => inFlat a ds
  | _, _ => none
def inD (a b : D) : Option R := match inB a b with
  | some c => some (.v (.bl c))
  | none => none
def notInD (a b : D) : Option R := match inB a b with
  | some c => some (.v (.bl (!c)))
  | none => none

section
variable {X : Cx}
theorem ans_v {K : PySem.W.Frag} {C : Ctl} {G H : Hp} {σ : L2.St} {ρ : EV} {d : D} {v : V} {Q : VK} (q : Ans K C G H σ ρ (.v d) Q) (S : Sta K C G H σ ρ) (r : Rep K G d v) : Q v H := q v G H (Same.refl _) S r
theorem ans_n {K : PySem.W.Frag} {C : Ctl} {G H : Hp} {σ : L2.St} {ρ : EV} {ds : List D} {xs : List V} {Q : VK} (q : Ans K C G H σ ρ (.n (.lst ds)) Q) (S : Sta K C G H σ ρ) (r : RepL K G ds xs) (p : Addr) (hp : H p = none) : Q (.ref p) (upd H p (.lst xs)) :=
  q (.ref p) G _ (Same.refl _) (S.lay hp _) (S.newList hp r)
theorem ans_t {K : PySem.W.Frag} {C : Ctl} {G H : Hp} {σ : L2.St} {ρ : EV} {ds : List D} {xs : List V} {Q : VK} (q : Ans K C G H σ ρ (.v (.tup ds)) Q) (S : Sta K C G H σ ρ) (r : RepL K G ds xs) (p : Addr) (hp : H p = none) : Q (.ref p) (upd H p (.tup xs)) := by
  obtain ⟨e3, S3, R3⟩ := S.newTup hp r
  exact q (.ref p) _ _ e3 S3 R3
theorem add_ok : Op2 X (binaryOp .Add) addD := by
  intro d1 d2 r h
  unfold addD at h
  split at h
  · cases h
    exact ⟨_, op_add, fun C G H σ ρ v1 v2 Q S w1 w2 q => ⟨_, _, w1, w2, ans_v q S rfl⟩⟩
  · split at h
    · rename_i hz
      cases h
      exact ⟨_, op_add_str, fun C G H σ ρ v1 v2 Q S w1 w2 q => ⟨_, _, w1, w2, hz.line, ans_v q S rfl⟩⟩
    · cases h
  · split at h
    · rename_i hz
      cases h
      refine ⟨_, op_cat, fun C G H σ ρ v1 v2 Q S w1 w2 q => ?_⟩
      obtain ⟨a, xs, e1, h1, r1⟩ := w1
      obtain ⟨b, ys, e2, h2, r2⟩ := w2
      refine ⟨a, b, xs, ys, e1, e2, h1, h2, ?_, fun p hp => ans_n q S (r1.append r2) p hp⟩
      rw [← r1.length, ← r2.length]; exact hz.line
    · cases h
  · split at h
    · rename_i hz
      cases h
      refine ⟨_, op_catT, fun C G H σ ρ v1 v2 Q S w1 w2 q => ?_⟩
      obtain ⟨a, xs, e1, h1, r1⟩ := id w1
      obtain ⟨b, ys, e2, h2, r2⟩ := w2
      refine ⟨a, b, xs, ys, e1, e2, same_t S.sub h1, same_t S.sub h2, ?_, ?_, fun hy => ?_, fun hy p hp => ans_t q S (r1.append r2) p hp⟩
      · intro z
        have l := r1.length
        rw [z] at l
        exact hz.1 (List.eq_nil_of_length_eq_zero l)
      · rw [← r1.length, ← r2.length]; exact hz.2.line
      · subst hy
        have l := r2.length
        have z := List.eq_nil_of_length_eq_zero l
        subst z
        rw [List.append_nil] at q
        subst e1
        exact ans_v q S w1
    · cases h
  · cases h
theorem sub_ok : Op2 X (binaryOp .Sub) subD := by
  intro d1 d2 r h
  unfold subD at h
  split at h
  · cases h
    exact ⟨_, op_sub, fun C G H σ ρ v1 v2 Q S w1 w2 q => ⟨_, _, w1, w2, ans_v q S rfl⟩⟩
  · cases h
theorem mul_ok : Op2 X (binaryOp .Mult) mulD := by
  intro d1 d2 r h
  unfold mulD at h
  split at h
  · split at h
    · rename_i hz
      cases h
      exact ⟨_, op_mul, fun C G H σ ρ v1 v2 Q S w1 w2 q => ⟨_, _, w1, w2, hz, ans_v q S rfl⟩⟩
    · cases h
  · split at h
    · rename_i hz
      cases h
      refine ⟨_, op_rep, fun C G H σ ρ v1 v2 Q S w1 w2 q => ?_⟩
      obtain ⟨a, xs, e1, h1, r1⟩ := w1
      have rr : ∀ n : Nat, RepL X.K G (List.replicate n _).flatten (List.replicate n xs).flatten := fun n => by
        induction n with
        | zero => exact RepL.nil
        | succ n ih => rw [List.replicate_succ, List.replicate_succ, List.flatten_cons, List.flatten_cons]; exact r1.append ih
      exact ⟨a, _, xs, e1, w2, h1, hz.1, hz.2.1, by rw [← r1.length]; exact hz.2.2.line, fun p hp => ans_n q S (rr _) p hp⟩
    · cases h
  · cases h
theorem mod_ok : Op2 X (binaryOp .Mod) modD := by
  intro d1 d2 r h
  unfold modD at h
  split at h
  · split at h
    · rename_i hz
      cases h
      exact ⟨_, op_mod, fun C G H σ ρ v1 v2 Q S w1 w2 q => ⟨_, _, w1, w2, hz, ans_v q S rfl⟩⟩
    · cases h
  · cases h
theorem fdiv_ok : Op2 X (binaryOp .FloorDiv) fdivD := by
  intro d1 d2 r h
  unfold fdivD at h
  split at h
  · split at h
    · rename_i hz
      cases h
      exact ⟨_, op_fdiv, fun C G H σ ρ v1 v2 Q S w1 w2 q => ⟨_, _, w1, w2, hz, ans_v q S rfl⟩⟩
    · cases h
  · cases h
theorem pow_ok : Op2 X (binaryOp .Pow) powD := by
  intro d1 d2 r h
  unfold powD at h
  split at h
  · split at h
    · rename_i hz
      cases h
      exact ⟨_, op_pow, fun C G H σ ρ v1 v2 Q S w1 w2 q => ⟨_, _, w1, w2, hz, ans_v q S rfl⟩⟩
    · cases h
  · cases h
theorem cmp_ok {op : CmpOp} {p : Int → Int → Bool} (ho : OpR X (compareOp op) (rI0 fun i j => .bl (p i j))) : Op2 X (compareOp op) (cmpD p) := by
  intro d1 d2 r h
  unfold cmpD at h
  split at h
  · cases h
    exact ⟨_, ho, fun C G H σ ρ v1 v2 Q S w1 w2 q => ⟨_, _, w1, w2, ans_v q S rfl⟩⟩
  · cases h
theorem lt_ok : Op2 X (compareOp .Lt) ltD := cmp_ok op_lt
theorem le_ok : Op2 X (compareOp .LtE) leD := cmp_ok op_le
theorem gt_ok : Op2 X (compareOp .Gt) gtD := cmp_ok op_gt
theorem ge_ok : Op2 X (compareOp .GtE) geD := cmp_ok op_ge
section
variable {K : PySem.W.Frag} {G H : Hp}
mutual
theorem dp_rep (e : Same G H) : ∀ {d : D} {v : V}, (py d).canLay0 = true → Rep K G d v → Dp K H v (py d)
  | .non, v, _, h => by rw [show v = _ from h]; exact Dp.non
  | .bl b, v, _, h => by rw [show v = _ from h]; exact Dp.bl b
  | .int i, v, _, h => by rw [show v = _ from h]; exact Dp.int i
  | .str x, v, _, h => by rw [show v = _ from h]; exact Dp.str x
  | .ty _, _, c, _ => by simp [py, PyData.canLay0] at c
  | .obj _, _, c, _ => by simp [py, PyData.canLay0] at c
  | .scr _, _, c, _ => by simp [py, PyData.canLay0] at c
  | .ins _ _ _, _, c, _ => by simp [py, PyData.canLay0] at c
  | .lst ds, v, c, ⟨a, xs, h1, h2, h3⟩ => by
    rw [h1]
    exact Dp.lst (SqL.of (e _ _ h2)) (dp_repL e (by simpa [py, PyData.canLay0] using c) h3)
  | .tup ds, v, c, ⟨a, xs, h1, h2, h3⟩ => by
    rw [h1]
    exact Dp.tup (same_t e h2) (dp_repL e (by simpa [py, PyData.canLay0] using c) h3)
theorem dp_repL (e : Same G H) : ∀ {ds : List D} {vs : List V}, PyData.canLayAll0 (pys ds) = true → RepL K G ds vs → DpAll K H vs (pys ds)
  | [], vs, _, h => by rw [show vs = [] from h]; exact DpAll.nil
  | d :: ds, _, c, ⟨v, r, h1, h2, h3⟩ => by
    rw [h1]
    have c2 : (py d).canLay0 = true ∧ PyData.canLayAll0 (pys ds) = true := by simpa [pys, PyData.canLayAll0] using c
    exact DpAll.cons (dp_rep e c2.1 h2) (dp_repL e c2.2 h3)
end
theorem dp_vw (e : Same G H) {d : D} {v : V} (c : (py d).canLay0 = true) (h : Vw K G H d v) : Dp K H v (py d) := by
  cases d with
  | lst ds =>
    obtain ⟨a, xs, h1, h2, h3⟩ := h
    rw [h1]
    exact Dp.lst (SqL.of h2) (dp_repL e (by simpa [py, PyData.canLay0] using c) h3)
  | ins C ns ds => simp [py, PyData.canLay0] at c
  | _ => exact dp_rep e c h
end
theorem lay_ok {d : D} (h : okD d = true) : (py d).canLay0 = true := SeqAt.canLay_of_shaped h
theorem eq_deep (hu : X.A.units + 64 < cLine) {a b : D} {r : R} (h : (if (okD a && okD b) = true then some (R.v (.bl (eqB a b))) else none) = some r) : ∃ rd : L2.R2, OpR X (compareOp .Eq) rd ∧
  ∀ C G H σ ρ v1 v2 Q, Sta X.K C G H σ ρ → Vw X.K G H a v1 → Vw X.K G H b v2 → Ans X.K C G H σ ρ r Q → rd v1 v2 H Q := by
  split at h
  · rename_i hz
    cases h
    obtain ⟨z1, z2⟩ := Bool.and_eq_true_iff.mp hz
    exact ⟨_, op_eqD hu, fun C G H σ ρ v1 v2 Q S w1 w2 q => ⟨_, _, dp_vw S.sub (lay_ok z1) w1, dp_vw S.sub (lay_ok z2) w2, z1, z2, ans_v q S rfl⟩⟩
  · cases h
theorem ne_deep (hu : X.A.units + 64 < cLine) {a b : D} {r : R} (h : (if (okD a && okD b) = true then some (R.v (.bl (!eqB a b))) else none) = some r) : ∃ rd : L2.R2, OpR X (compareOp .NotEq) rd ∧
  ∀ C G H σ ρ v1 v2 Q, Sta X.K C G H σ ρ → Vw X.K G H a v1 → Vw X.K G H b v2 → Ans X.K C G H σ ρ r Q → rd v1 v2 H Q := by
  split at h
  · rename_i hz
    cases h
    obtain ⟨z1, z2⟩ := Bool.and_eq_true_iff.mp hz
    exact ⟨_, op_neD hu, fun C G H σ ρ v1 v2 Q S w1 w2 q => ⟨_, _, dp_vw S.sub (lay_ok z1) w1, dp_vw S.sub (lay_ok z2) w2, z1, z2, ans_v q S rfl⟩⟩
  · cases h
theorem dec_v {α : Type} [DecidableEq α] {f : α → V} (hf : ∀ a b, f a = f b → a = b) {a b : α} : decide (f a = f b) = decide (a = b) := by
  by_cases h : a = b
  · subst h; simp
  · rw [decide_eq_false h, decide_eq_false fun z => h (hf _ _ z)]
theorem eq_scal {v1 v2 : V} {b : Bool} (hs : scal v1 v2 = true) (hb : decide (v1 = v2) = b) {d1 d2 : D} (h1 : ∀ K G H v, Vw K G H d1 v → v = v1) (h2 : ∀ K G H v, Vw K G H d2 v → v = v2) : ∃ rd : L2.R2, OpR X (compareOp .Eq) rd ∧
  ∀ C G H σ ρ u1 u2 Q, Sta X.K C G H σ ρ → Vw X.K G H d1 u1 → Vw X.K G H d2 u2 → Ans X.K C G H σ ρ (.v (.bl b)) Q → rd u1 u2 H Q :=
  ⟨_, op_eq, fun C G H σ ρ u1 u2 Q S w1 w2 q => by
    rw [h1 _ _ _ _ w1, h2 _ _ _ _ w2]
    exact ⟨hs, by rw [hb]; exact ans_v q S rfl⟩⟩
theorem ne_scal {v1 v2 : V} {b : Bool} (hs : scal v1 v2 = true) (hb : decide (v1 = v2) = b) {d1 d2 : D} (h1 : ∀ K G H v, Vw K G H d1 v → v = v1) (h2 : ∀ K G H v, Vw K G H d2 v → v = v2) : ∃ rd : L2.R2, OpR X (compareOp .NotEq) rd ∧
  ∀ C G H σ ρ u1 u2 Q, Sta X.K C G H σ ρ → Vw X.K G H d1 u1 → Vw X.K G H d2 u2 → Ans X.K C G H σ ρ (.v (.bl (!b))) Q → rd u1 u2 H Q :=
  ⟨_, op_ne, fun C G H σ ρ u1 u2 Q S w1 w2 q => by
    rw [h1 _ _ _ _ w1, h2 _ _ _ _ w2]
    exact ⟨hs, by rw [hb]; exact ans_v q S rfl⟩⟩
theorem eq_ok (hu : X.A.units + 64 < cLine) : Op2 X (compareOp .Eq) eqD := by
  intro d1 d2 r h
  unfold eqD at h
  split at h
  · cases h; exact eq_scal rfl (dec_v fun a b z => V.str.inj z) (fun _ _ _ _ w => w) fun _ _ _ _ w => w
  · cases h; exact eq_scal rfl (dec_v fun a b z => V.int.inj z) (fun _ _ _ _ w => w) fun _ _ _ _ w => w
  · cases h; exact eq_scal rfl (dec_v fun a b z => V.bl.inj z) (fun _ _ _ _ w => w) fun _ _ _ _ w => w
  · exact eq_deep hu h
theorem ne_ok (hu : X.A.units + 64 < cLine) : Op2 X (compareOp .NotEq) neD := by
  intro d1 d2 r h
  unfold neD at h
  split at h
  · cases h; exact ne_scal rfl (dec_v fun a b z => V.str.inj z) (fun _ _ _ _ w => w) fun _ _ _ _ w => w
  · cases h; exact ne_scal rfl (dec_v fun a b z => V.int.inj z) (fun _ _ _ _ w => w) fun _ _ _ _ w => w
  · cases h; exact ne_scal rfl (dec_v fun a b z => V.bl.inj z) (fun _ _ _ _ w => w) fun _ _ _ _ w => w
  · exact ne_deep hu h
theorem isNone_ok {K : PySem.W.Frag} {G H : Hp} {d : D} {v : V} (w : Vw K G H d v) : decide (v = .non) = isNone d := by
  cases d with
  | non => rw [show v = _ from w]; rfl
  | bl _ => rw [show v = _ from w]; rfl
  | int _ => rw [show v = _ from w]; rfl
  | str _ => rw [show v = _ from w]; rfl
  | ty _ => rw [show v = _ from w]; rfl
  | obj _ => rw [show v = _ from w]; rfl
  | lst _ => obtain ⟨_, _, e, _⟩ := w; rw [e]; rfl
  | tup _ => obtain ⟨_, _, e, _⟩ := w; rw [e]; rfl
  | scr _ => obtain ⟨_, _, e, _⟩ := w; rw [e]; rfl
  | ins _ _ _ => obtain ⟨_, _, _, e, _⟩ := w; rw [e]; rfl
theorem isN_ok : Op2 X (compareOp .Is) isND := by
  intro d1 d2 r h
  unfold isND at h
  split at h
  · cases h
    exact ⟨_, op_isN, fun C G H σ ρ v1 v2 Q S w1 w2 q => ⟨w2, by rw [isNone_ok w1]; exact ans_v q S rfl⟩⟩
  · cases h
theorem notN_ok : Op2 X (compareOp .IsNot) notND := by
  intro d1 d2 r h
  unfold notND at h
  split at h
  · cases h
    exact ⟨_, op_notN, fun C G H σ ρ v1 v2 Q S w1 w2 q => ⟨w2, by rw [isNone_ok w1]; exact ans_v q S rfl⟩⟩
  · cases h
theorem toV_vw {K : PySem.W.Frag} {G H : Hp} {d : D} {v u : V} (e : toV d = some u) (w : Vw K G H d v) : v = u ∧ flatV u = true := by
  cases d with
  | non => cases e; exact ⟨w, rfl⟩
  | bl _ => cases e; exact ⟨w, rfl⟩
  | int _ => cases e; exact ⟨w, rfl⟩
  | str _ => cases e; exact ⟨w, rfl⟩
  | _ => cases e
theorem toVs_rep {K : PySem.W.Frag} {G : Hp} : ∀ {ds : List D} {vs us : List V}, toVs ds = some us → RepL K G ds vs → vs = us ∧ us.all flatV = true
  | [], vs, us, e, h => by cases e; exact ⟨h, rfl⟩
  | d :: ds, _, us, e, ⟨v, r, h1, h2, h3⟩ => by
    unfold toVs at e
    cases e1 : toV d with
    | none => rw [e1] at e; cases e
    | some u =>
      rw [e1] at e
      cases e2 : toVs ds with
      | none => simp only [e2] at e; cases e
      | some us1 =>
        simp only [e2] at e
        cases e
        have w : Vw K G G d v := Rep.vw (Same.refl _) h2
        obtain ⟨z1, z2⟩ := toV_vw e1 w
        obtain ⟨z3, z4⟩ := toVs_rep e2 h3
        subst z1 z3
        exact ⟨h1, by rw [List.all_cons, z2, z4]; rfl⟩
theorem inFlat_ok {K : PySem.W.Frag} {G H : Hp} {d : D} {ds : List D} {v : V} {xs : List V} {b : Bool} (e : inFlat d ds = some b) (w : Vw K G H d v) (r : RepL K G ds xs) : flatV v = true ∧ xs.all flatV = true ∧ inV v xs = b := by
  unfold inFlat at e
  cases e1 : toV d with
  | none => rw [e1] at e; cases e
  | some u =>
    rw [e1] at e
    cases e2 : toVs ds with
    | none => simp only [e2] at e; cases e
    | some us =>
      simp only [e2] at e
      cases e
      obtain ⟨z1, z2⟩ := toV_vw e1 w
      obtain ⟨z3, z4⟩ := toVs_rep e2 r
      subst z1 z3
      exact ⟨z2, z4, rfl⟩
theorem pys_any (f : PyData → Bool) : ∀ ds : List D, ((pys ds).any f) = ds.any fun z => f (py z)
  | [] => rfl
  | d :: ds => by rw [pys, List.any_cons, List.any_cons, pys_any f ds]
theorem in_gen (hu : X.A.units + 65 < cLine) {a b : D} {c : Bool} (h : inB a b = some c) : (∃ rd : L2.R2, OpR X (compareOp .In) rd ∧
    ∀ C G H σ ρ v1 v2 Q, Sta X.K C G H σ ρ → Vw X.K G H a v1 → Vw X.K G H b v2 → Ans X.K C G H σ ρ (.v (.bl c)) Q → rd v1 v2 H Q) ∧ ∃ rd : L2.R2, OpR X (compareOp .NotIn) rd ∧
    ∀ C G H σ ρ v1 v2 Q, Sta X.K C G H σ ρ → Vw X.K G H a v1 → Vw X.K G H b v2 → Ans X.K C G H σ ρ (.v (.bl (!c))) Q → rd v1 v2 H Q := by
  unfold inB at h
  split at h
  · cases h
    exact ⟨⟨_, op_in_str, fun C G H σ ρ v1 v2 Q S w1 w2 q => ⟨_, _, w1, w2, ans_v q S rfl⟩⟩, ⟨_, op_notin_str, fun C G H σ ρ v1 v2 Q S w1 w2 q => ⟨_, _, w1, w2, ans_v q S rfl⟩⟩⟩
  · rename_i ds
    cases e : inFlat a ds with
    | some b =>
      simp only [e] at h
      cases h
      refine ⟨⟨_, op_in_seq, fun C G H σ ρ v1 v2 Q S w1 w2 q => ?_⟩, ⟨_, op_notIn_seq, fun C G H σ ρ v1 v2 Q S w1 w2 q => ?_⟩⟩
      · obtain ⟨p, xs, e2, h2, r2⟩ := w2
        obtain ⟨z1, z2, z3⟩ := inFlat_ok e w1 r2
        exact ⟨p, xs, e2, .inl (SqL.of h2), z1, z2, by rw [z3]; exact ans_v q S rfl⟩
      · obtain ⟨p, xs, e2, h2, r2⟩ := w2
        obtain ⟨z1, z2, z3⟩ := inFlat_ok e w1 r2
        exact ⟨p, xs, e2, .inl (SqL.of h2), z1, z2, by rw [z3]; exact ans_v q S rfl⟩
    | none =>
      simp only [e] at h
      split at h
      · rename_i hz
        cases h
        obtain ⟨z1, z2⟩ := Bool.and_eq_true_iff.mp hz
        have ea : (ds.any fun z => eqB z a) = (pys ds).any fun z => PyData.eqv z (py a) := (pys_any (fun z => PyData.eqv z (py a)) ds).symm
        refine ⟨⟨_, op_inD hu, fun C G H σ ρ v1 v2 Q S w1 w2 q => ?_⟩, ⟨_, op_notInD hu, fun C G H σ ρ v1 v2 Q S w1 w2 q => ?_⟩⟩
        · have z3 := dp_vw S.sub (lay_ok z2) w2
          simp only [py] at z3
          refine ⟨_, _, dp_vw S.sub (lay_ok z1) w1, z3, z1, ?_, ?_⟩
          · have z4 := z2; unfold okD at z4; simp only [py] at z4; exact z4
          · rw [← ea]; exact ans_v q S rfl
        · have z3 := dp_vw S.sub (lay_ok z2) w2
          simp only [py] at z3
          refine ⟨_, _, dp_vw S.sub (lay_ok z1) w1, z3, z1, ?_, ?_⟩
          · have z4 := z2; unfold okD at z4; simp only [py] at z4; exact z4
          · rw [← ea]; exact ans_v q S rfl
      · cases h
  · refine ⟨⟨_, op_in_seq, fun C G H σ ρ v1 v2 Q S w1 w2 q => ?_⟩, ⟨_, op_notIn_seq, fun C G H σ ρ v1 v2 Q S w1 w2 q => ?_⟩⟩
    · obtain ⟨p, xs, e2, h2, r2⟩ := w2
      obtain ⟨z1, z2, z3⟩ := inFlat_ok h w1 r2
      exact ⟨p, xs, e2, .inr (same_t S.sub h2), z1, z2, by rw [z3]; exact ans_v q S rfl⟩
    · obtain ⟨p, xs, e2, h2, r2⟩ := w2
      obtain ⟨z1, z2, z3⟩ := inFlat_ok h w1 r2
      exact ⟨p, xs, e2, .inr (same_t S.sub h2), z1, z2, by rw [z3]; exact ans_v q S rfl⟩
  · cases h
theorem in_ok (hu : X.A.units + 65 < cLine) : Op2 X (compareOp .In) inD := by
  intro d1 d2 r h
  unfold inD at h
  cases e : inB d1 d2 with
  | none => rw [e] at h; cases h
  | some c => rw [e] at h; cases h; exact (in_gen hu e).1
theorem notIn_ok (hu : X.A.units + 65 < cLine) : Op2 X (compareOp .NotIn) notInD := by
  intro d1 d2 r h
  unfold notInD at h
  cases e : inB d1 d2 with
  | none => rw [e] at h; cases h
  | some c => rw [e] at h; cases h; exact (in_gen hu e).2
/-! ### one-place -/
theorem pd_neg {C : Ctl} {W : WX} {a : Expr} {pos : Pos} {f : M R} (ha : PD X C W a f) : PD X C W (.UnaryOp .USub a pos) (fUn negD f) := PE.of (pe_un un_neg ha) fun σ H Q ⟨G, ρ, x, S, hf, P⟩ => by
  refine tD.seq S hf P fun r ρ1 v G1 H1 e1 S1 R1 h2 P1 => ?_
  obtain ⟨d, q, l, hk, rfl⟩ := op1_ok h2
  unfold negD at hk
  split at hk
  · cases hk
    exact ⟨_, S1.look R1 l, P1 _ G1 H1 (Same.refl _) S1 rfl⟩
  · cases hk
/-- not e, a bool's value -/
def notD : D → Option R
  | .bl b => some (.v (.bl (!b)))
  | _ => none
theorem pd_not {C : Ctl} {W : WX} {a : Expr} {pos : Pos} {f : M R} (ha : PD X C W a f) : PD X C W (.UnaryOp .Not a pos) (fUn notD f) := PE.of (pe_not ha) fun σ H Q ⟨G, ρ, x, S, hf, P⟩ => by
  refine tD.seq S hf P fun r ρ1 v G1 H1 e1 S1 R1 h2 P1 => ?_
  obtain ⟨d, q, l, hk, rfl⟩ := op1_ok h2
  unfold notD at hk
  split at hk
  · cases hk
    exact ⟨_, S1.look R1 l, P1 _ G1 H1 (Same.refl _) S1 rfl⟩
  · cases hk
end
end DL
set_option Elab.async false
set_option linter.all false
set_option maxRecDepth 100000
set_option maxHeartbeats 4000000
namespace DL
open PySem PySem.Spec PyProof.Rows L2

/-! ### and, or, if as values; chains -/
def fAnd (f g : M R) : M R := f.bind fun r => match r with
  | .v (.bl true) => g
  | .v (.bl false) => M.ret (.v (.bl false))
  | _ => fun _ => none
def fOr (f g : M R) : M R := f.bind fun r => match r with
  | .v (.bl true) => M.ret (.v (.bl true))
  | .v (.bl false) => g
  | _ => fun _ => none
def fIf (t : M Bool) (f g : M R) : M R := t.bind fun b => if b = true then f else g
def fChain (k k' : D → D → Option R) (f g h : M R) : M R := f.bind fun r1 => g.bind fun r2 => (op2 k r1 r2).bind fun r => match r with
  | .v (.bl true) => h.bind fun r3 => op2 k' r2 r3
  | .v (.bl false) => M.ret (.v (.bl false))
  | _ => fun _ => none
section
variable {X : Cx} {C : Ctl} {W : WX} {e a b c : Expr} {es rest : List Expr} {pos : Pos} {f g h : M R} {fs : List (M R)} {t : M Bool}
theorem pd_one {op} (h : PD X C W a f) : PD X C W (.BoolOp op [a] pos) f := pe_one h
theorem pd_and (ha : PD X C W a f) (hb : PD X C W (.BoolOp .And (b :: rest) pos) g) : PD X C W (.BoolOp .And (a :: b :: rest) pos) (fAnd f g) := PE.of (pe_and ha hb) fun σ H Q ⟨G, ρ, x, S, hf, P⟩ => by
  refine tD.seq S hf P fun r ρ1 v G1 H1 e1 S1 R1 h2 P1 => ?_
  cases r with
  | v d =>
    cases d with
    | bl k =>
      cases k with
      | true => exact ⟨true, R1, G1, ρ1, x, S1, h2, P1⟩
      | false => cases h2; exact ⟨false, R1, P1 _ G1 H1 (Same.refl _) S1 rfl⟩
    | _ => cases h2
  | _ => cases h2
theorem pd_or (ha : PD X C W a f) (hb : PD X C W (.BoolOp .Or (b :: rest) pos) g) : PD X C W (.BoolOp .Or (a :: b :: rest) pos) (fOr f g) := PE.of (pe_or ha hb) fun σ H Q ⟨G, ρ, x, S, hf, P⟩ => by
  refine tD.seq S hf P fun r ρ1 v G1 H1 e1 S1 R1 h2 P1 => ?_
  cases r with
  | v d =>
    cases d with
    | bl k =>
      cases k with
      | false => exact ⟨false, R1, G1, ρ1, x, S1, h2, P1⟩
      | true => cases h2; exact ⟨true, R1, P1 _ G1 H1 (Same.refl _) S1 rfl⟩
    | _ => cases h2
  | _ => cases h2
theorem tDT.seqR {K : PySem.W.Frag} {G H : Hp} {σ : L2.St} {ρ : EV} {x : XR R} {k : Bool → M R} {Q : VK} {Q' : Bool → Hp → Prop} (S : Sta K C G H σ ρ) (hf : t.bind k ρ = some x) (P : XPost K C W G σ x Q)
    (hq : ∀ b ρ1 G1 H1, Sta K C G1 H1 σ ρ1 → k b ρ1 = some x → XPost K C W G1 σ x Q → Q' b H1) : tDT K C W t σ H Q' := by
  have mono : ∀ G1, Same G G1 → XPost K C W G1 σ x Q := fun G1 e1 => by
    cases x with
    | ok r ρ' => exact fun v G' H' e S' R' => P v G' H' (e1.trans e) S' R'
    | ex e ρ' => exact fun c d G' H' e S' R' => P c d G' H' (e1.trans e) S' R'
  rcases bind_ok hf with ⟨r, ρ1, h1, h2⟩ | ⟨q, ρ1, h1, rfl⟩
  · exact ⟨G, ρ, _, S, h1, fun G1 H1 e1 S1 => hq r ρ1 G1 H1 S1 h2 (mono G1 e1)⟩
  · exact ⟨G, ρ, _, S, h1, P⟩
theorem pd_if (hc : PB X C W c t) (ha : PD X C W a f) (hb : PD X C W b g) : PD X C W (.IfExp c a b pos) (fIf t f g) := PE.of (pe_ifExp hc ha hb) fun σ H Q ⟨G, ρ, x, S, hf, P⟩ => by
  refine tDT.seqR S hf P fun b ρ1 G1 H1 S1 h2 P1 => ?_
  cases b with
  | true => exact ⟨G1, ρ1, x, S1, h2, P1⟩
  | false => exact ⟨G1, ρ1, x, S1, h2, P1⟩
theorem chain_go {fo fo' : Value → Value → Sem Value} {k k' : D → D → Option R} (ho : Op2 X fo k) (ho' : Op2 X fo' k') {σ : L2.St} {H : Hp} {Q : VK} (q : tD X.K C W (fChain k k' f g h) σ H Q) :
    ∃ rd rd' : L2.R2, OpR X fo rd ∧ OpR X fo' rd' ∧ tChain rd rd' (tD X.K C W f) (tD X.K C W g) (tD X.K C W h) σ H Q := by
  obtain ⟨G, ρ, x, S, hf, P⟩ := q
  rcases bind_ok hf with ⟨r1, ρ1, h1, h2⟩ | ⟨q, ρ1, h1, rfl⟩
  · rcases bind_ok h2 with ⟨r2, ρ2, h3, h4⟩ | ⟨q, ρ2, h3, rfl⟩
    · rcases bind_ok h4 with ⟨r, ρ3, h5, h6⟩ | ⟨q, ρ3, h5, rfl⟩
      · obtain ⟨d1, d2, r', l1, l2, hk, er⟩ := op2_ok h5
        cases er
        obtain ⟨rd, hr, hd⟩ := ho d1 d2 r hk
        cases r with
        | v dd =>
          cases dd with
          | bl kb =>
            cases kb with
            | false =>
              cases h6
              refine ⟨rd, _, hr, opr_false, ⟨G, ρ, _, S, h1, fun v1 G1 H1 e1 S1 R1 => ⟨G1, ρ1, _, S1, h3, fun v2 G2 H2 e2 S2 R2 => ?_⟩⟩⟩
              exact hd C G2 H2 σ ρ2 v1 v2 _ S2 (S2.look (R1.later (look_nn l1) e2) l1) (S2.look R2 l2) fun v G' H' e' S' R' => ⟨false, R', P _ G' H' ((e1.trans e2).trans e') S' rfl⟩
            | true =>
              rcases bind_ok h6 with ⟨r3, ρ4, h7, h8⟩ | ⟨q, ρ4, h7, rfl⟩
              · obtain ⟨d3, d4, r'', l3, l4, hk', er⟩ := op2_ok h8
                subst er
                obtain ⟨rd', hr', hd'⟩ := ho' d3 d4 r'' hk'
                refine ⟨rd, rd', hr, hr', ⟨G, ρ, _, S, h1, fun v1 G1 H1 e1 S1 R1 => ⟨G1, ρ1, _, S1, h3, fun v2 G2 H2 e2 S2 R2 => ?_⟩⟩⟩
                exact hd C G2 H2 σ ρ2 v1 v2 _ S2 (S2.look (R1.later (look_nn l1) e2) l1) (S2.look R2 l2) fun v G' H' e' S' R' => ⟨true, R', G', ρ2, _, S', h7, fun v3 G4 H4 e4 S4 R4 =>
                  hd' C G4 H4 σ ρ4 v2 v3 Q S4 (S4.look (R2.later (look_nn l3) (e'.trans e4)) l3) (S4.look R4 l4) fun v G5 H5 e5 S5 R5 => P v G5 H5 ((((e1.trans e2).trans e').trans e4).trans e5) S5 R5⟩
              · refine ⟨rd, _, hr, opr_false, ⟨G, ρ, _, S, h1, fun v1 G1 H1 e1 S1 R1 => ⟨G1, ρ1, _, S1, h3, fun v2 G2 H2 e2 S2 R2 => ?_⟩⟩⟩
                exact hd C G2 H2 σ ρ2 v1 v2 _ S2 (S2.look (R1.later (look_nn l1) e2) l1) (S2.look R2 l2) fun v G' H' e' S' R' => ⟨true, R', G', ρ2, _, S', h7, fun c d G4 H4 e4 S4 R4 => P c d G4 H4 (((e1.trans e2).trans e').trans e4) S4 R4⟩
          | _ => cases h6
        | _ => cases h6
      · obtain ⟨d1, d2, r', l1, l2, hk, er⟩ := op2_ok h5
        cases er
    · exact ⟨_, _, opr_false, opr_false, ⟨G, ρ, _, S, h1, fun v1 G1 H1 e1 S1 R1 => ⟨G1, ρ1, _, S1, h3, fun c d G2 H2 e2 S2 R2 => P c d G2 H2 (e1.trans e2) S2 R2⟩⟩⟩
  · exact ⟨_, _, opr_false, opr_false, ⟨G, ρ, _, S, h1, P⟩⟩
theorem pd_chain {op op' : CmpOp} {k k' : D → D → Option R} (ho : Op2 X (compareOp op) k) (ho' : Op2 X (compareOp op') k') (ha : PD X C W a f) (hb : PD X C W b g) (hc : PD X C W c h)
    (hm : lastMarks [op, op'] [b, c] = false := by with_unfolding_all rfl) : PD X C W (.Compare a [op, op'] [b, c] pos) (fChain k k' f g h) := PE.by fun σ H Q q => by
  obtain ⟨rd, rd', hr, hr', q'⟩ := chain_go ho ho' q
  exact ⟨_, pe_chain hr hr' ha hb hc hm, q'⟩
theorem pb_chain {op op' : CmpOp} {k k' : D → D → Option R} (ho : Op2 X (compareOp op) k) (ho' : Op2 X (compareOp op') k') (ha : PD X C W a f) (hb : PD X C W b g) (hc : PD X C W c h)
    (hm : lastMarks [op, op'] [b, c] = false := by with_unfolding_all rfl) : PB X C W (.Compare a [op, op'] [b, c] pos) (fBool (fChain k k' f g h)) := PT.by fun σ H Q q => by
  obtain ⟨G, ρ, x, S, hf, P⟩ := test_go q
  obtain ⟨rd, rd', hr, hr', q'⟩ := chain_go (Q := fun x H' => ∃ c, x = .bl c ∧ Q c H') ho ho' ⟨G, ρ, x, S, hf, P⟩
  exact ⟨_, pt_chain hr hr' ha hb hc hm, q'⟩
end
end DL
set_option Elab.async false
set_option linter.all false
set_option maxRecDepth 100000
set_option maxHeartbeats 4000000
namespace DL
open PySem PySem.Spec PyProof.Rows L2

/-! ### subscripts -/
def ixD : D → D → Option R
  | .lst ds, .int i => (match atI ds i with
    | some d => some (.v d)
    | none => none)
  | .scr ds, .int i => (match atI ds i with
    | some d => some (.v d)
    | none => none)
  | .tup ds, .int i => (match atI ds i with
    | some d => some (.v d)
    | none => none)
  | .str z, .int i => if szOk z.length then (match atI z.cps.toList i with
    | some c => some (.v (.str ⟨#[c]⟩))
    | none => none) else none
  | _, _ => none
theorem RepL.atI {K : PySem.W.Frag} {G : Hp} {ds : List D} {vs : List V} {i : Int} {d : D} (r : RepL K G ds vs) (h : L2.atI ds i = some d) : ∃ v, L2.atI vs i = some v ∧ Rep K G d v := by
  unfold L2.atI at h ⊢
  rw [← r.length]
  cases e : ixN ds.length i with
  | none => rw [e] at h; cases h
  | some j =>
    rw [e] at h
    exact r.get h
section
variable {X : Cx} {C : Ctl} {W : WX} {e a b c : Expr} {es rest : List Expr} {pos : Pos} {f g h : M R} {fs : List (M R)} {t : M Bool}
theorem ixr_false : IxR X (fun _ _ _ _ => False) := by intro _ _ _ _ _ _ _ _ _ _ _ _ _ _ h; exact h.elim
theorem pd_ix (ha : PD X C W a f) (hb : PD X C W b g) (hs : PlainIx b := by exact fun _ _ => rfl) : PD X C W (.Subscript a b pos) (fBin ixD f g) := PE.by fun σ H Q ⟨G, ρ, x, S, hf, P⟩ => by
  rcases bind_ok hf with ⟨r1, ρ1, h1, h2⟩ | ⟨q, ρ1, h1, rfl⟩
  · rcases bind_ok h2 with ⟨r2, ρ2, h3, h4⟩ | ⟨q, ρ2, h3, rfl⟩
    · obtain ⟨d1, d2, r, l1, l2, hk, rfl⟩ := op2_ok h4
      have go : ∀ (rd : L2.R2), IxR X rd → (∀ G H v1 v2 Q, Sta X.K C G H σ ρ2 → Vw X.K G H d1 v1 → Vw X.K G H d2 v2 → Ans X.K C G H σ ρ2 r Q → rd v1 v2 H Q) → ∃ t, PE X (.Subscript a b pos) t ∧ t σ H Q := fun rd hr hd =>
        ⟨_, pe_ix hr ha hb hs, ⟨G, ρ, _, S, h1, fun v1 G1 H1 e1 S1 R1 => ⟨G1, ρ1, _, S1, h3, fun v2 G2 H2 e2 S2 R2 =>
          hd G2 H2 v1 v2 Q S2 (S2.look (R1.later (look_nn l1) e2) l1) (S2.look R2 l2) fun v G' H' e' S' R' => P v G' H' ((e1.trans e2).trans e') S' R'⟩⟩⟩
      unfold ixD at hk
      split at hk
      · split at hk
        · rename_i ds i d hd
          cases hk
          refine go _ ix_list fun G H v1 v2 Q S w1 w2 q => ?_
          obtain ⟨p, xs, e1, hp, r1⟩ := w1
          obtain ⟨v, hv, rv⟩ := r1.atI hd
          exact ⟨p, xs, _, v, e1, w2, SqL.of hp, hv, ans_v q S rv⟩
        · cases hk
      · split at hk
        · rename_i ds i d hd
          cases hk
          refine go _ ix_list fun G H v1 v2 Q S w1 w2 q => ?_
          obtain ⟨p, xs, e1, hp, r1⟩ := w1
          obtain ⟨v, hv, rv⟩ := r1.atI hd
          exact ⟨p, xs, _, v, e1, w2, same_l S.sub hp, hv, ans_v q S rv⟩
        · cases hk
      · split at hk
        · rename_i ds i d hd
          cases hk
          refine go _ ix_tup fun G H v1 v2 Q S w1 w2 q => ?_
          obtain ⟨p, xs, e1, hp, r1⟩ := w1
          obtain ⟨v, hv, rv⟩ := r1.atI hd
          exact ⟨p, xs, _, v, e1, w2, same_t S.sub hp, hv, ans_v q S rv⟩
        · cases hk
      · split at hk
        · rename_i hz
          split at hk
          · rename_i c hc
            cases hk
            refine go _ ix_str fun G H v1 v2 Q S w1 w2 q => ?_
            exact ⟨_, _, c, w1, w2, hz.line, hc, ans_v q S rfl⟩
          · cases hk
        · cases hk
      · cases hk
    · exact ⟨_, pe_ix ixr_false ha hb hs, ⟨G, ρ, _, S, h1, fun v1 G1 H1 e1 S1 R1 => ⟨G1, ρ1, _, S1, h3, fun c d G2 H2 e2 S2 R2 => P c d G2 H2 (e1.trans e2) S2 R2⟩⟩⟩
  · exact ⟨_, pe_ix ixr_false ha hb hs, ⟨G, ρ, _, S, h1, P⟩⟩
/-! ### slices -/
def cutD {α : Type} (xs : List α) (lo hi : Option Int) : List α := (xs.drop (HT.sIx xs.length 0 lo)).take (HT.sIx xs.length xs.length hi - HT.sIx xs.length 0 lo)
theorem RepL.cut {K : PySem.W.Frag} {G : Hp} {ds : List D} {vs : List V} (r : RepL K G ds vs) (lo hi : Option Int) : RepL K G (cutD ds lo hi) (cutV vs lo hi) := by
  unfold cutD cutV
  rw [r.length]
  exact RepL.take _ (RepL.drop _ r)
def slD (lo hi : Option Int) : D → Option R
  | .lst ds => some (.n (.lst (cutD ds lo hi)))
  | .str z => if szOk z.length then some (.v (.str (cutS z lo hi))) else none
  | .tup ds => if (cutD ds lo hi).length < ds.length then some (.v (.tup (cutD ds lo hi))) else none
  | _ => none
def asInt (f : M R) : M (Option Int) := f.bind fun r => fun ρ => match r with
  | .v (.int i) => some (.ok (some i) ρ)
  | _ => none
def fSl (f : M R) (lo hi : M (Option Int)) : M R := f.bind fun r => lo.bind fun l => hi.bind fun u => op1 (slD l u) r
def noInt : M (Option Int) := M.ret none
def OPost (K : PySem.W.Frag) (C : Ctl) (W : WX) (G : Hp) (σ : L2.St) (x : XR (Option Int)) (Q : Option Int → Hp → Prop) : Prop := match x with
  | .ok b ρ' => ∀ G' H', Same G G' → Sta K C G' H' σ ρ' → Q b H'
  | .ex e ρ' => ∀ c d G' H', Same G G' → Sta K C G' H' σ ρ' → ExR G' K e c d → W c d σ H'
def tDO (K : PySem.W.Frag) (C : Ctl) (W : WX) (f : M (Option Int)) : TO := fun σ H Q => ∃ G ρ x, Sta K C G H σ ρ ∧ f ρ = some x ∧ OPost K C W G σ x Q
abbrev POd (X : Cx) (C : Ctl) (W : WX) (e : Option Expr) (f : M (Option Int)) : Prop := PO X e (tDO X.K C W f)
theorem po_dnone : POd X C W none noInt := ⟨fun pins s σ H Q I ⟨G, ρ, x, S, hf, P⟩ => by
  cases hf
  exact po_none.run pins s σ H Q I (P G H (Same.refl _) S)⟩
theorem po_dsome (h : PD X C W e f) : POd X C W (some e) (asInt f) := ⟨fun pins s σ H Q I ⟨G, ρ, x, S, hf, P⟩ => by
  refine (po_some h).run pins s σ H Q I ?_
  rcases bind_ok hf with ⟨r, ρ1, h1, h2⟩ | ⟨q, ρ1, h1, rfl⟩
  · refine ⟨G, ρ, _, S, h1, fun v G1 H1 e1 S1 R1 => ?_⟩
    cases r with
    | v d =>
      cases d with
      | int i => cases h2; exact ⟨i, R1, P G1 H1 e1 S1⟩
      | _ => cases h2
    | _ => cases h2
  · exact ⟨G, ρ, _, S, h1, P⟩⟩
theorem slr_false : SlR X (fun _ _ _ _ _ => False) := by intro _ _ _ _ _ _ _ _ _ _ _ _ _ _ _ _ _ h; exact h.elim
theorem pd_sl {lo hi : Option Expr} {p2 : Pos} {fl fh : M (Option Int)} (ha : PD X C W a f) (hl : POd X C W lo fl) (hh : POd X C W hi fh) : PD X C W (.Subscript a (.Slice lo hi none p2) pos) (fSl f fl fh) := PE.by fun σ H Q ⟨G, ρ, x, S, hf, P⟩ => by
  rcases bind_ok hf with ⟨r1, ρ1, h1, h2⟩ | ⟨q, ρ1, h1, rfl⟩
  · rcases bind_ok h2 with ⟨l, ρ2, h3, h4⟩ | ⟨q, ρ2, h3, rfl⟩
    · rcases bind_ok h4 with ⟨u, ρ3, h5, h6⟩ | ⟨q, ρ3, h5, rfl⟩
      · obtain ⟨d, r, l1, hk, rfl⟩ := op1_ok h6
        have go : ∀ (rd : V → Option Int → Option Int → Hp → VK → Prop), SlR X rd → (∀ G H v1 Q, Sta X.K C G H σ ρ3 → Vw X.K G H d v1 → Ans X.K C G H σ ρ3 r Q → rd v1 l u H Q) → ∃ t, PE X (.Subscript a (.Slice lo hi none p2) pos) t ∧ t σ H Q := fun rd hr hd =>
          ⟨_, pe_slice hr ha hl hh, ⟨G, ρ, _, S, h1, fun v1 G1 H1 e1 S1 R1 => ⟨G1, ρ1, _, S1, h3, fun G2 H2 e2 S2 => ⟨G2, ρ2, _, S2, h5, fun G3 H3 e3 S3 =>
            hd G3 H3 v1 Q S3 (S3.look (R1.later (look_nn l1) (e2.trans e3)) l1) fun v G' H' e' S' R' => P v G' H' (((e1.trans e2).trans e3).trans e') S' R'⟩⟩⟩⟩
        unfold slD at hk
        split at hk
        · cases hk
          refine go _ sl_list fun G H v1 Q S w1 q => ?_
          obtain ⟨p, xs, e1, hp, r1⟩ := w1
          exact ⟨p, xs, e1, SqL.of hp, fun p hp => ans_n q S (r1.cut l u) p hp⟩
        · split at hk
          · rename_i hz
            cases hk
            exact go _ sl_str fun G H v1 Q S w1 q => ⟨_, w1, hz.line, ans_v q S rfl⟩
          · cases hk
        · split at hk
          · rename_i hz
            cases hk
            refine go _ sl_tup fun G H v1 Q S w1 q => ?_
            obtain ⟨p, xs, e1, hp, r1⟩ := w1
            have rc := r1.cut l u
            refine ⟨p, xs, e1, same_t S.sub hp, ?_, fun p hp => ans_t q S rc p hp⟩
            intro z
            have l1 := r1.length
            have l2 := rc.length
            have l3 : (cutV xs l u).length = xs.length := by
              unfold cutV
              rw [z.1, z.2]
              simp
            omega
          · cases hk
        · cases hk
      · exact ⟨_, pe_slice slr_false ha hl hh, ⟨G, ρ, _, S, h1, fun v1 G1 H1 e1 S1 R1 => ⟨G1, ρ1, _, S1, h3, fun G2 H2 e2 S2 => ⟨G2, ρ2, _, S2, h5, fun c d G3 H3 e3 S3 R3 => P c d G3 H3 ((e1.trans e2).trans e3) S3 R3⟩⟩⟩⟩
    · exact ⟨_, pe_slice slr_false ha hl hh, ⟨G, ρ, _, S, h1, fun v1 G1 H1 e1 S1 R1 => ⟨G1, ρ1, _, S1, h3, fun c d G2 H2 e2 S2 R2 => P c d G2 H2 (e1.trans e2) S2 R2⟩⟩⟩
  · exact ⟨_, pe_slice slr_false ha hl hh, ⟨G, ρ, _, S, h1, P⟩⟩
/-! ### built-ins -/
def lenD : List D → Option R
  | [.str z] => if szOk z.length then some (.v (.int z.length)) else none
  | [.lst ds] => some (.v (.int ds.length))
  | [.scr ds] => some (.v (.int ds.length))
  | [.tup ds] => some (.v (.int ds.length))
  | _ => none
theorem vws1 {K : PySem.W.Frag} {G H : Hp} {d : D} {vs : List V} (w : Vws K G H [d] vs) : ∃ v, vs = [v] ∧ Vw K G H d v := by
  cases w with
  | cons h t => cases t; exact ⟨_, rfl, h⟩
theorem vws2 {K : PySem.W.Frag} {G H : Hp} {d d' : D} {vs : List V} (w : Vws K G H [d, d'] vs) : ∃ v v', vs = [v, v'] ∧ Vw K G H d v ∧ Vw K G H d' v' := by
  cases w with
  | cons h t => cases t with
    | cons h' t' => cases t'; exact ⟨_, _, rfl, h, h'⟩
theorem len_ok : OpN X (.builtin "len") lenD := by
  intro ds r h
  unfold lenD at h
  split at h
  · split at h
    · rename_i hz
      cases h
      refine ⟨_, call_len, fun C G H σ ρ vs Q S w q => ?_⟩
      obtain ⟨v, rfl, w1⟩ := vws1 w
      rw [show v = _ from w1]
      exact ⟨_, _, rfl, ⟨hz.line, rfl⟩, ans_v q S rfl⟩
    · cases h
  · cases h
    refine ⟨_, call_len, fun C G H σ ρ vs Q S w q => ?_⟩
    obtain ⟨v, rfl, p, xs, e1, hp, r1⟩ := vws1 w
    subst e1
    exact ⟨_, xs.length, rfl, .inl ⟨xs, SqL.of hp, rfl⟩, ans_v q S (by rw [r1.length]; rfl)⟩
  · cases h
    refine ⟨_, call_len, fun C G H σ ρ vs Q S w q => ?_⟩
    obtain ⟨v, rfl, p, xs, e1, hp, r1⟩ := vws1 w
    subst e1
    exact ⟨_, xs.length, rfl, .inl ⟨xs, same_l S.sub hp, rfl⟩, ans_v q S (by rw [r1.length]; rfl)⟩
  · cases h
    refine ⟨_, call_len, fun C G H σ ρ vs Q S w q => ?_⟩
    obtain ⟨v, rfl, p, xs, e1, hp, r1⟩ := vws1 w
    subst e1
    exact ⟨_, xs.length, rfl, .inr ⟨xs, same_t S.sub hp, rfl⟩, ans_v q S (by rw [r1.length]; rfl)⟩
  · cases h
def intD : List D → Option R
  | [.int i] => some (.v (.int i))
  | [.bl b] => some (.v (.int (if b then 1 else 0)))
  | [.str a] => if a.length ≤ 640 then (match PySem.intText? a with
    | some n => some (.v (.int n))
    | none => none) else none
  | _ => none
theorem int_ok : OpN X (.type "int") intD := by
  intro ds r h
  unfold intD at h
  split at h
  · cases h
    refine ⟨_, call_int1, fun C G H σ ρ vs Q S w q => ?_⟩
    obtain ⟨v, rfl, w1⟩ := vws1 w
    rw [show v = _ from w1]
    exact .inl ⟨_, rfl, ans_v q S rfl⟩
  · cases h
    refine ⟨_, call_int1, fun C G H σ ρ vs Q S w q => ?_⟩
    obtain ⟨v, rfl, w1⟩ := vws1 w
    rw [show v = _ from w1]
    exact .inr ⟨_, rfl, ans_v q S rfl⟩
  · split at h
    · rename_i hz
      split at h
      · rename_i n hn
        cases h
        refine ⟨_, call_int_str, fun C G H σ ρ vs Q S w q => ?_⟩
        obtain ⟨v, rfl, w1⟩ := vws1 w
        rw [show v = _ from w1]
        exact ⟨_, n, rfl, hn, hz, ans_v q S rfl⟩
      · cases h
    · cases h
  · cases h
def strD : List D → Option R
  | [.int i] => if i.natAbs.log2 < 1920 then some (.v (.str (toString i))) else none
  | _ => none
theorem str_ok : OpN X (.type "str") strD := by
  intro ds r h
  unfold strD at h
  split at h
  · split at h
    · rename_i hz
      cases h
      refine ⟨_, call_str_int, fun C G H σ ρ vs Q S w q => ?_⟩
      obtain ⟨v, rfl, w1⟩ := vws1 w
      rw [show v = _ from w1]
      exact ⟨_, rfl, hz, ans_v q S rfl⟩
    · cases h
  · cases h
def listD : List D → Option R
  | [.lst ds] => some (.n (.lst ds))
  | [.tup ds] => some (.n (.lst ds))
  | _ => none
theorem list_ok : OpN X (.type "list") listD := by
  intro ds r h
  unfold listD at h
  split at h
  · cases h
    refine ⟨_, call_list_of, fun C G H σ ρ vs Q S w q => ?_⟩
    obtain ⟨v, rfl, p, xs, e1, hp, r1⟩ := vws1 w
    subst e1
    exact ⟨p, xs, rfl, .inl (SqL.of hp), fun p hp => ans_n q S r1 p hp⟩
  · cases h
    refine ⟨_, call_list_of, fun C G H σ ρ vs Q S w q => ?_⟩
    obtain ⟨v, rfl, p, xs, e1, hp, r1⟩ := vws1 w
    subst e1
    exact ⟨p, xs, rfl, .inr (same_t S.sub hp), fun p hp => ans_n q S r1 p hp⟩
  · cases h
def tupleD : List D → Option R
  | [.lst ds] => some (.v (.tup ds))
  | [.tup ds] => some (.v (.tup ds))
  | _ => none
theorem tuple_ok : OpN X (.type "tuple") tupleD := by
  intro ds r h
  unfold tupleD at h
  split at h
  · cases h
    refine ⟨_, call_tuple_of, fun C G H σ ρ vs Q S w q => ?_⟩
    obtain ⟨v, rfl, p, xs, e1, hp, r1⟩ := vws1 w
    subst e1
    exact ⟨p, xs, rfl, .inl ⟨SqL.of hp, fun p hp => ans_t q S r1 p hp⟩⟩
  · cases h
    refine ⟨_, call_tuple_of, fun C G H σ ρ vs Q S w q => ?_⟩
    obtain ⟨v, rfl, w1⟩ := vws1 w
    obtain ⟨p, xs, e1, hp, r1⟩ := id w1
    subst e1
    exact ⟨p, xs, rfl, .inr ⟨same_t S.sub hp, ans_v q S w1⟩⟩
  · cases h
def absD : List D → Option R
  | [.int i] => some (.v (.int (if i < 0 then -i else i)))
  | _ => none
theorem abs_ok : OpN X (.builtin "abs") absD := by
  intro ds r h
  unfold absD at h
  split at h
  · cases h
    refine ⟨_, call_abs, fun C G H σ ρ vs Q S w q => ?_⟩
    obtain ⟨v, rfl, w1⟩ := vws1 w
    rw [show v = _ from w1]
    exact ⟨_, rfl, ans_v q S rfl⟩
  · cases h
def min2D : List D → Option R
  | [.int i, .int j] => some (.v (.int (if j < i then j else i)))
  | _ => none
theorem min2_ok (hc : X.calm = true) : OpN X (.builtin "min") min2D := by
  intro ds r h
  unfold min2D at h
  split at h
  · cases h
    refine ⟨_, call_min2 hc, fun C G H σ ρ vs Q S w q => ?_⟩
    obtain ⟨v, v', rfl, w1, w2⟩ := vws2 w
    rw [show v = _ from w1, show v' = _ from w2]
    exact ⟨_, _, rfl, ans_v q S rfl⟩
  · cases h
def max2D : List D → Option R
  | [.int i, .int j] => some (.v (.int (if j > i then j else i)))
  | _ => none
theorem max2_ok (hc : X.calm = true) : OpN X (.builtin "max") max2D := by
  intro ds r h
  unfold max2D at h
  split at h
  · cases h
    refine ⟨_, call_max2 hc, fun C G H σ ρ vs Q S w q => ?_⟩
    obtain ⟨v, v', rfl, w1, w2⟩ := vws2 w
    rw [show v = _ from w1, show v' = _ from w2]
    exact ⟨_, _, rfl, ans_v q S rfl⟩
  · cases h
/-- a list of boolL -/
def boolL : List D → Option (List Bool)
  | [] => some []
  | .bl b :: ds => (match boolL ds with
    | some bs => some (b :: bs)
    | none => none)
  | _ => none
theorem boolL_rep {K : PySem.W.Frag} {G : Hp} : ∀ {ds : List D} {bs : List Bool} {vs : List V}, boolL ds = some bs → RepL K G ds vs → vs = bs.map V.bl
  | [], bs, vs, e, h => by cases e; exact h
  | d :: ds, bs, _, e, ⟨v, r, h1, h2, h3⟩ => by
    unfold boolL at e
    cases d with
    | bl b =>
      simp only at e
      cases e2 : boolL ds with
      | none => rw [e2] at e; cases e
      | some bs1 =>
        rw [e2] at e
        cases e
        rw [h1, show v = _ from h2, boolL_rep e2 h3]; rfl
    | _ => cases e
def allD : List D → Option R
  | [.lst ds] => (match boolL ds with
    | some bs => some (.v (.bl (bs.all id)))
    | none => none)
  | _ => none
def anyD : List D → Option R
  | [.lst ds] => (match boolL ds with
    | some bs => some (.v (.bl (bs.any id)))
    | none => none)
  | _ => none
theorem all_ok (hc : X.calm = true) : OpN X (.builtin "all") allD := by
  intro ds r h
  unfold allD at h
  split at h
  · split at h
    · rename_i bs hb
      cases h
      refine ⟨_, cr_all hc, fun C G H σ ρ vs Q S w q => ?_⟩
      obtain ⟨v, rfl, p, xs, e1, hp, r1⟩ := vws1 w
      subst e1
      rw [boolL_rep hb r1] at hp
      exact ⟨p, bs, rfl, SqL.of hp, ans_v q S rfl⟩
    · cases h
  · cases h
theorem any_ok (hc : X.calm = true) : OpN X (.builtin "any") anyD := by
  intro ds r h
  unfold anyD at h
  split at h
  · split at h
    · rename_i bs hb
      cases h
      refine ⟨_, cr_any hc, fun C G H σ ρ vs Q S w q => ?_⟩
      obtain ⟨v, rfl, p, xs, e1, hp, r1⟩ := vws1 w
      subst e1
      rw [boolL_rep hb r1] at hp
      exact ⟨p, bs, rfl, SqL.of hp, ans_v q S rfl⟩
    · cases h
  · cases h
/-- a list of intL, of strL -/
def intL : List D → Option (List Int)
  | [] => some []
  | .int b :: ds => (match intL ds with
    | some bs => some (b :: bs)
    | none => none)
  | _ => none
theorem intL_rep {K : PySem.W.Frag} {G : Hp} : ∀ {ds : List D} {bs : List Int} {vs : List V}, intL ds = some bs → RepL K G ds vs → vs = bs.map V.int
  | [], bs, vs, e, h => by cases e; exact h
  | d :: ds, bs, _, e, ⟨v, r, h1, h2, h3⟩ => by
    unfold intL at e
    cases d with
    | int b =>
      simp only at e
      cases e2 : intL ds with
      | none => rw [e2] at e; cases e
      | some bs1 =>
        rw [e2] at e
        cases e
        rw [h1, show v = _ from h2, intL_rep e2 h3]; rfl
    | _ => cases e
def strL : List D → Option (List Str)
  | [] => some []
  | .str b :: ds => (match strL ds with
    | some bs => some (b :: bs)
    | none => none)
  | _ => none
theorem strL_rep {K : PySem.W.Frag} {G : Hp} : ∀ {ds : List D} {bs : List Str} {vs : List V}, strL ds = some bs → RepL K G ds vs → vs = bs.map V.str
  | [], bs, vs, e, h => by cases e; exact h
  | d :: ds, bs, _, e, ⟨v, r, h1, h2, h3⟩ => by
    unfold strL at e
    cases d with
    | str b =>
      simp only at e
      cases e2 : strL ds with
      | none => rw [e2] at e; cases e
      | some bs1 =>
        rw [e2] at e
        cases e
        rw [h1, show v = _ from h2, strL_rep e2 h3]; rfl
    | _ => cases e
def sumD : List D → Option R
  | [.lst ds] => (match intL ds with
    | some ns => some (.v (.int ns.sum))
    | none => none)
  | _ => none
theorem sum_ok (hc : X.calm = true) : OpN X (.builtin "sum") sumD := by
  intro ds r h
  unfold sumD at h
  split at h
  · split at h
    · rename_i bs hb
      cases h
      refine ⟨_, cr_sum hc, fun C G H σ ρ vs Q S w q => ?_⟩
      obtain ⟨v, rfl, p, xs, e1, hp, r1⟩ := vws1 w
      subst e1
      rw [intL_rep hb r1] at hp
      exact ⟨p, bs, rfl, SqL.of hp, ans_v q S rfl⟩
    · cases h
  · cases h
/-! ### isinstance, built-in types -/
def tyN : D → Option String
  | .non => some "NoneType"
  | .bl _ => some "bool"
  | .int _ => some "int"
  | .str _ => some "str"
  | .lst _ => some "list"
  | .tup _ => some "tuple"
  | _ => none
def tyLe (a b : String) : Option Bool :=
  if b = "int" then (if a = "int" ∨ a = "bool" then some true else if a = "NoneType" ∨ a = "str" ∨ a = "list" ∨ a = "tuple" then some false else none)
  else if b = "bool" ∨ b = "str" ∨ b = "list" ∨ b = "tuple" then (if a = b then some true else if a = "NoneType" ∨ a = "bool" ∨ a = "int" ∨ a = "str" ∨ a = "list" ∨ a = "tuple" then some false else none)
  else none
theorem tyLe_ok {a b : String} {r : Bool} (h : tyLe a b = some r) : kitB a b = some r := by
  unfold tyLe at h
  split at h
  · subst b
    split at h
    · rename_i hz
      cases h
      rcases hz with rfl | rfl <;> decide +kernel
    · split at h
      · rename_i hz
        cases h
        rcases hz with rfl | rfl | rfl | rfl <;> decide +kernel
      · cases h
  · split at h
    · rename_i hb
      split at h
      · subst a
        cases h
        rcases hb with rfl | rfl | rfl | rfl <;> decide +kernel
      · rename_i hn
        split at h
        · rename_i hz
          cases h
          rcases hb with rfl | rfl | rfl | rfl <;> rcases hz with rfl | rfl | rfl | rfl | rfl | rfl <;> first | exact absurd rfl hn | decide +kernel
        · cases h
    · cases h
def isiD : List D → Option R
  | [d, .ty T] => (match tyN d with
    | some n => (match tyLe n T with
      | some b => some (.v (.bl b))
      | none => none)
    | none => none)
  | _ => none
theorem tyN_ok {K : PySem.W.Frag} {G H : Hp} (e : Same G H) {d : D} {v : V} {n : String} (h : tyN d = some n) (w : Vw K G H d v) : TyX K H v (.type n) := by
  cases d with
  | non => cases h; rw [show v = _ from w]; exact .base .non
  | bl b => cases h; rw [show v = _ from w]; exact .base (.bl b)
  | int b => cases h; rw [show v = _ from w]; exact .base (.int b)
  | str b => cases h; rw [show v = _ from w]; exact .base (.str b)
  | lst ds => cases h; obtain ⟨a, xs, e1, h1, _⟩ := w; rw [e1]; exact .base (.lst h1)
  | tup ds =>
    cases h
    obtain ⟨a, xs, e1, h1, _⟩ := w
    rw [e1]
    rcases same_t e h1 with (h | ⟨o, h⟩) | ⟨o, its, n, h, c, _⟩
    · exact .base (.tup h)
    · exact .fTuple h
    · exact .kTuple h c
  | _ => cases h
theorem isi_ok : OpN X (.builtin "isinstance") isiD := by
  intro ds r h
  unfold isiD at h
  split at h
  · split at h
    · rename_i n hn
      split at h
      · rename_i b hb
        cases h
        refine ⟨_, call_isi, fun C G H σ ρ vs Q S w q => ?_⟩
        obtain ⟨v, v', rfl, w1, w2⟩ := vws2 w
        rw [show v' = _ from w2]
        exact ⟨_, _, _, _, b, rfl, .ty _, tyN_ok S.sub hn w1, kit_ty (tyLe_ok hb), ans_v q S rfl⟩
      · cases h
    · cases h
  · cases h
end
end DL
set_option Elab.async false
set_option linter.all false
set_option maxRecDepth 100000
set_option maxHeartbeats 4000000
namespace DL
open PySem PySem.Spec PyProof.Rows L2

/-! ### methods of texts -/
def splitD (a : Str) : D → Option R
  | .str b => if (b.length == 0) = false ∧ szOk (a.length + 2) then some (.n (.lst ((Txt.split a b).map D.str))) else none
  | _ => none
def joinL (a : Str) (ds : List D) : Option R := match strL ds with
  | some ys => if szOk ((ys.map (·.length)).sum + ys.length * a.length) then some (.v (.str (Txt.join a ys))) else none
  | none => none
def joinD (a : Str) : D → Option R
  | .lst ds => joinL a ds
  | .tup ds => joinL a ds
  | _ => none
def fStrM (k : Str → D → Option R) (f g : M R) : M R := f.bind fun r => match r with
  | .v (.str a) => g.bind (op1 (k a))
  | _ => fun _ => none
/-- a method that changes its list: content, arguments -> content, value -/
def appendM : D → List D → Option (D × D)
  | .lst xs, [d] => if szOk (xs.length + 1) then some (.lst (xs ++ [d]), .non) else none
  | _, _ => none
def popM : D → List D → Option (D × D)
  | .lst xs, [] => (match xs[xs.length - 1]? with
    | some d => some (.lst xs.dropLast, d)
    | none => none)
  | _, _ => none
def popAtM : D → List D → Option (D × D)
  | .lst xs, [.int i] => if -(2 ^ 63) ≤ i ∧ i < 2 ^ 63 then (match ixN xs.length i with
    | some k => (match xs[k]? with
      | some d => some (.lst (xs.eraseIdx k), d)
      | none => none)
    | none => none) else none
  | _, _ => none
instance {i : Int} : Decidable (-(2 ^ 63) ≤ i ∧ i < 2 ^ 63) := inferInstance
def reverseM : D → List D → Option (D × D)
  | .lst xs, [] => some (.lst xs.reverse, .non)
  | _, _ => none
def clearM : D → List D → Option (D × D)
  | .lst xs, [] => some (.lst [], .non)
  | _, _ => none
def mutR (m : D → List D → Option (D × D)) (i : Nat) (rs : List R) : M R := fun ρ => match ρ.obj i with
  | some d => (match settled rs with
    | some ds => (match m d ds with
      | some (d', q) => some (.ok (.v q) (ρ.put i d'))
      | none => none)
    | none => none)
  | none => none
def fMut (m : D → List D → Option (D × D)) (i : Nat) (fs : List (M R)) : M R := (evs fs).bind (mutR m i)
theorem mutR_ok {m : D → List D → Option (D × D)} {i : Nat} {rs : List R} {ρ : EV} {x : XR R} (h : mutR m i rs ρ = some x) : ∃ d ds d' q, ρ.obj i = some d ∧ settled rs = some ds ∧ m d ds = some (d', q) ∧ x = .ok (.v q) (ρ.put i d') := by
  unfold mutR at h
  cases e1 : ρ.obj i with
  | none => rw [e1] at h; cases h
  | some d =>
    rw [e1] at h
    cases e2 : settled rs with
    | none => simp only [e2] at h; cases h
    | some ds =>
      simp only [e2] at h
      cases e3 : m d ds with
      | none => simp only [e3] at h; cases h
      | some p =>
        obtain ⟨d', q⟩ := p
        simp only [e3] at h
        exact ⟨d, ds, d', q, rfl, rfl, e3, (Option.some.inj h).symm⟩
theorem eraseIdx_rep {K : PySem.W.Frag} {G : Hp} : ∀ {ds : List D} {vs : List V} (k : Nat), RepL K G ds vs → RepL K G (ds.eraseIdx k) (vs.eraseIdx k)
  | [], vs, k, h => by rw [show vs = [] from h]; simp [RepL]
  | _ :: _, _, 0, ⟨v, r, h1, _, h3⟩ => by rw [h1]; exact h3
  | _ :: _, _, k + 1, ⟨v, r, h1, h2, h3⟩ => by rw [h1]; exact ⟨v, _, rfl, h2, eraseIdx_rep k h3⟩
theorem dropLast_rep {K : PySem.W.Frag} {G : Hp} {ds : List D} {vs : List V} (r : RepL K G ds vs) : RepL K G ds.dropLast vs.dropLast := by
  rw [List.dropLast_eq_take, List.dropLast_eq_take, r.length]
  exact RepL.take _ r
section
variable {X : Cx} {C : Ctl} {W : WX} {e a b c o : Expr} {es rest : List Expr} {pos cpos apos pn : Pos} {f g h : M R} {fs : List (M R)} {t : M Bool}
theorem strm_go {rd : V → List V → Hp → VK → Prop} {k : Str → D → Option R} {σ : L2.St} {H : Hp} {Q : VK} (q : tD X.K C W (fStrM k f g) σ H Q)
    (hk : ∀ a d r, k a d = some r → ∀ C G H σ ρ v Q, Sta X.K C G H σ ρ → Vw X.K G H d v → Ans X.K C G H σ ρ r Q → rd (.str a) [v] H Q) : tM1 rd (tD X.K C W f) (tD X.K C W g) σ H Q := by
  obtain ⟨G, ρ, x, S, hf, P⟩ := q
  rcases bind_ok hf with ⟨r1, ρ1, h1, h2⟩ | ⟨q, ρ1, h1, rfl⟩
  · refine ⟨G, ρ, _, S, h1, fun v1 G1 H1 e1 S1 R1 => ?_⟩
    cases r1 with
    | v d =>
      cases d with
      | str a =>
        rcases bind_ok h2 with ⟨r2, ρ2, h3, h4⟩ | ⟨q, ρ2, h3, rfl⟩
        · obtain ⟨d2, r, l2, hk2, rfl⟩ := op1_ok h4
          refine ⟨⟨a, R1⟩, G1, ρ1, _, S1, h3, fun v2 G2 H2 e2 S2 R2 => ?_⟩
          rw [show v1 = _ from R1]
          exact hk a d2 r hk2 C G2 H2 σ ρ2 v2 Q S2 (S2.look R2 l2) fun v G' H' e' S' R' => P v G' H' ((e1.trans e2).trans e') S' R'
        · exact ⟨⟨a, R1⟩, G1, ρ1, _, S1, h3, fun c d G2 H2 e2 S2 R2 => P c d G2 H2 (e1.trans e2) S2 R2⟩
      | _ => cases h2
    | _ => cases h2
  · exact ⟨G, ρ, _, S, h1, P⟩
theorem pd_split (ho : PD X C W o f) (he : PD X C W e g) (hs : starEach [e] X.env = [(false, eval e X.env)] := by rfl) (hbase : attributeBase o "split" X.env (eval o X.env) = eval o X.env := by rfl) (hline : (apos.endLine == pos.line) = true := by rfl) :
    PD X C W (.Call (.Attribute o "split" apos) [e] [] pos) (fStrM splitD f g) := PE.of (pe_split ho he hs hbase hline) fun σ H Q q => strm_go q fun a d r hk C G H σ ρ v Q S w q => by
  unfold splitD at hk
  split at hk
  · split at hk
    · rename_i hz
      cases hk
      rw [show v = _ from w]
      refine ⟨a, _, rfl, rfl, hz.1, hz.2.line, fun p hp => ?_⟩
      refine ans_n q S ?_ p hp
      have rr : ∀ ys : List Str, RepL X.K G (ys.map D.str) (ys.map V.str) := fun ys => by
        induction ys with
        | nil => exact RepL.nil
        | cons y ys ih => exact RepL.cons rfl ih
      exact rr _
    · cases hk
  · cases hk
theorem pd_join (ho : PD X C W o f) (he : PD X C W e g) (hs : starEach [e] X.env = [(false, eval e X.env)] := by rfl) (hbase : attributeBase o "join" X.env (eval o X.env) = eval o X.env := by rfl) (hline : (apos.endLine == pos.line) = true := by rfl) :
    PD X C W (.Call (.Attribute o "join" apos) [e] [] pos) (fStrM joinD f g) := PE.of (pe_join ho he hs hbase hline) fun σ H Q q => strm_go q fun a d r hk C G H σ ρ v Q S w q => by
  unfold joinD at hk
  split at hk
  · unfold joinL at hk
    split at hk
    · rename_i ys hy
      split at hk
      · rename_i hz
        cases hk
        obtain ⟨p, xs, e1, hp, r1⟩ := w
        rw [strL_rep hy r1] at hp
        exact ⟨a, p, ys, rfl, by rw [e1], .inl (SqL.of hp), hz, ans_v q S rfl⟩
      · cases hk
    · cases hk
  · unfold joinL at hk
    split at hk
    · rename_i ys hy
      split at hk
      · rename_i hz
        cases hk
        obtain ⟨p, xs, e1, hp, r1⟩ := w
        rw [strL_rep hy r1] at hp
        exact ⟨a, p, ys, rfl, by rw [e1], .inr (same_t S.sub hp), hz, ans_v q S rfl⟩
      · cases hk
    · cases hk
  · cases hk
/-! ### methods that change the list of a slot -/
def MutOk (r : V → List V → Hp → VK → Prop) (m : D → List D → Option (D × D)) : Prop := ∀ (K : PySem.W.Frag) (G H : Hp) d ds d' q a vs Q, m d ds = some (d', q) → View K G H d a → RepL K G ds vs →
  (∀ o' v, View K G (upd H a o') d' a → Rep K G q v → Q v (upd H a o')) → r (.ref a) vs H Q
/-- the slot holds an object now -/
def hasObj (i : Nat) (f : M R) : M R := fun ρ => match ρ.obj i with
  | some (.lst _) => f ρ
  | _ => none
theorem hasObj_ok {i : Nat} {f : M R} {ρ : EV} {x : XR R} (h : hasObj i f ρ = some x) : f ρ = some x ∧ ∃ d, ρ.obj i = some d ∧ ∃ xs, d = .lst xs := by
  unfold hasObj at h
  cases e : ρ.obj i with
  | none => rw [e] at h; cases h
  | some d =>
    rw [e] at h
    cases d with
    | lst xs => exact ⟨h, _, rfl, xs, rfl⟩
    | _ => cases h
def fMutL (m : D → List D → Option (D × D)) (i : Nat) (fs : List (M R)) : M R := hasObj i (fMut m i fs)
theorem mutL_go {rd : V → List V → Hp → VK → Prop} {m : D → List D → Option (D × D)} {i : Nat} (hm : MutOk rd m) {σ : L2.St} {H : Hp} {Q : VK} (q : tD X.K C W (fMutL m i fs) σ H Q) : tBM X.K "list" rd (tVar i) (tDA X.K C W (evs fs)) σ H Q := by
  obtain ⟨G, ρ, x, S, hf, P⟩ := q
  obtain ⟨hf, d0, ho0, ys, e0⟩ := hasObj_ok hf
  have hs : ∃ v, σ[i]? = some (some v) := by
    unfold EV.obj at ho0
    cases e : ρ.sl[i]? with
    | none => rw [e] at ho0; cases ho0
    | some so =>
      cases so with
      | none => rw [e] at ho0; cases ho0
      | some s => obtain ⟨v, hv, _⟩ := S.slot i s e; exact ⟨v, hv⟩
  obtain ⟨v, hv⟩ := hs
  obtain ⟨a, ea, ga, wa⟩ := S.objAt ho0 hv
  subst ea e0
  obtain ⟨xs, hx, _⟩ := wa
  refine ⟨.ref a, hv, .inl ⟨rfl, _, SqL.of hx⟩, ?_⟩
  refine tDA.seq S hf (fun e ρ' ex => by subst ex; exact P) fun rs ρ1 vs G1 H1 e1 S1 R1 h2 => ?_
  obtain ⟨d, ds, d', q, o1, o2, o3, rfl⟩ := mutR_ok h2
  obtain ⟨a', ea', ga', wa'⟩ := S1.objAt o1 hv
  cases ea'
  exact hm X.K G1 H1 d ds d' q a vs Q o3 wa' (R1.settled o2) fun o' v w' r' => P v G1 _ e1 (S1.write o1 hv w') r'
theorem append_mut : MutOk rAppend appendM := by
  intro K G H d ds d' q a vs Q hm w r k
  unfold appendM at hm
  split at hm
  · split at hm
    · rename_i hz
      cases hm
      obtain ⟨xs, hx, rx⟩ := w
      obtain ⟨v, t, e1, rv, rt⟩ := r
      cases (show t = [] from rt)
      have hz2 := hz.line
      rw [rx.length] at hz2
      exact ⟨a, xs, v, rfl, e1, hx, hz2, k _ _ ⟨_, upd_same, rx.append (RepL.cons rv RepL.nil)⟩ rfl⟩
    · cases hm
  · cases hm
theorem pop_mut : MutOk rPop popM := by
  intro K G H d ds d' q a vs Q hm w r k
  unfold popM at hm
  split at hm
  · split at hm
    · rename_i y hy
      cases hm
      obtain ⟨xs, hx, rx⟩ := w
      obtain ⟨v, hv, rv⟩ := rx.get hy
      rw [rx.length] at hv
      exact ⟨a, xs, v, rfl, r, hx, hv, k _ _ ⟨_, upd_same, dropLast_rep rx⟩ rv⟩
    · cases hm
  · cases hm
theorem popAt_mut : MutOk rPopAt popAtM := by
  intro K G H d ds d' q a vs Q hm w r k
  unfold popAtM at hm
  split at hm
  · split at hm
    · rename_i hz
      split at hm
      · rename_i kk hk
        split at hm
        · rename_i y hy
          cases hm
          obtain ⟨xs, hx, rx⟩ := w
          obtain ⟨v, t, e1, rv, rt⟩ := r
          cases (show t = [] from rt)
          obtain ⟨u, hu, ru⟩ := rx.get hy
          rw [rx.length] at hk
          exact ⟨a, xs, _, kk, u, rfl, by rw [e1, show v = _ from rv], hx, hz.1, hz.2, (ixN_seq hk).1, hu, k _ _ ⟨_, upd_same, eraseIdx_rep kk rx⟩ ru⟩
        · cases hm
      · cases hm
    · cases hm
  · cases hm
theorem reverse_mut : MutOk rReverse reverseM := by
  intro K G H d ds d' q a vs Q hm w r k
  unfold reverseM at hm
  split at hm
  · cases hm
    obtain ⟨xs, hx, rx⟩ := w
    exact ⟨a, xs, rfl, r, hx, k _ _ ⟨_, upd_same, rx.reverse⟩ rfl⟩
  · cases hm
theorem clear_mut : MutOk rClear clearM := by
  intro K G H d ds d' q a vs Q hm w r k
  unfold clearM at hm
  split at hm
  · cases hm
    obtain ⟨xs, hx, rx⟩ := w
    exact ⟨a, xs, rfl, r, hx, k _ _ ⟨_, upd_same, RepL.nil⟩ rfl⟩
  · cases hm
section
variable {i : Nat} {x : Str}
theorem pd_append (ho : PE X o (tVar i)) (ha : PAs X C W (e :: es) (evs fs)) (hbase : attributeBase o "append" X.env (eval o X.env) = eval o X.env := by rfl)
    (hfew : ((backTo cpos (starEach (e :: es) X.env)).all (fun x => !x.1) && (backToKw cpos (keywordEach [] X.env)).all (fun x => x.1.isSome)
      && decide ((e :: es).length + ([] : List Keyword).length + (if ([] : List Keyword).isEmpty then 0 else 1) < 30)) = true := by rfl)
    (hline : (apos.endLine == cpos.line) = true := by rfl) (hs : starEach (e :: es) X.env = (false, eval e X.env) :: starEach es X.env := by rfl) (hplain : (backTo cpos (starEach es X.env)).any (·.1) = false := by rfl) :
    PD X C W (.Call (.Attribute o "append" apos) (e :: es) [] cpos) (fMutL appendM i fs) :=
  PE.of (pe_bm PySem.F.plainAttrs_list PySem.F.slot_list_append PySem.F.type_list_append mt_append ho ha hbase hfew hline hs hplain) fun σ H Q q => mutL_go append_mut q
theorem pd_popAt (ho : PE X o (tVar i)) (ha : PAs X C W (e :: es) (evs fs)) (hbase : attributeBase o "pop" X.env (eval o X.env) = eval o X.env := by rfl)
    (hfew : ((backTo cpos (starEach (e :: es) X.env)).all (fun x => !x.1) && (backToKw cpos (keywordEach [] X.env)).all (fun x => x.1.isSome)
      && decide ((e :: es).length + ([] : List Keyword).length + (if ([] : List Keyword).isEmpty then 0 else 1) < 30)) = true := by rfl)
    (hline : (apos.endLine == cpos.line) = true := by rfl) (hs : starEach (e :: es) X.env = (false, eval e X.env) :: starEach es X.env := by rfl) (hplain : (backTo cpos (starEach es X.env)).any (·.1) = false := by rfl) :
    PD X C W (.Call (.Attribute o "pop" apos) (e :: es) [] cpos) (fMutL popAtM i fs) :=
  PE.of (pe_bm PySem.F.plainAttrs_list PySem.F.slot_list_pop PySem.F.type_list_pop mt_popAt ho ha hbase hfew hline hs hplain) fun σ H Q q => mutL_go popAt_mut q
theorem mut0_go {rd : V → List V → Hp → VK → Prop} {m : D → List D → Option (D × D)} {i : Nat} (hm : MutOk rd m) {σ : L2.St} {H : Hp} {Q : VK} (q : tD X.K C W (fMutL m i []) σ H Q) : tBM0 X.K "list" rd (tVar i) σ H Q := by
  obtain ⟨G, ρ, x, S, hf, P⟩ := q
  obtain ⟨hf, d0, ho0, ys, e0⟩ := hasObj_ok hf
  have hs : ∃ v, σ[i]? = some (some v) := by
    unfold EV.obj at ho0
    cases e : ρ.sl[i]? with
    | none => rw [e] at ho0; cases ho0
    | some so =>
      cases so with
      | none => rw [e] at ho0; cases ho0
      | some s => obtain ⟨v, hv, _⟩ := S.slot i s e; exact ⟨v, hv⟩
  obtain ⟨v, hv⟩ := hs
  obtain ⟨a, ea, ga, wa⟩ := S.objAt ho0 hv
  subst ea e0
  obtain ⟨xs, hx, rx⟩ := id wa
  refine ⟨.ref a, hv, .inl ⟨rfl, _, SqL.of hx⟩, ?_⟩
  have h2 : mutR m i [] ρ = some x := hf
  obtain ⟨d, ds, d', q, o1, o2, o3, rfl⟩ := mutR_ok h2
  cases o2
  rw [ho0] at o1
  cases o1
  exact hm X.K G H _ [] d' q a [] Q o3 wa RepL.nil fun o' v w' r' => P v G _ (Same.refl _) (S.write ho0 hv w') r'
theorem pd_pop (ho : PE X o (tVar i)) (hbase : attributeBase o "pop" X.env (eval o X.env) = eval o X.env := by rfl) (hline : (apos.endLine == cpos.line) = true := by rfl) : PD X C W (.Call (.Attribute o "pop" apos) [] [] cpos) (fMutL popM i []) :=
  PE.of (pe_bm0 PySem.F.plainAttrs_list PySem.F.slot_list_pop PySem.F.type_list_pop mt_pop ho hbase hline) fun σ H Q q => mut0_go pop_mut q
theorem pd_reverse (ho : PE X o (tVar i)) (hbase : attributeBase o "reverse" X.env (eval o X.env) = eval o X.env := by rfl) (hline : (apos.endLine == cpos.line) = true := by rfl) : PD X C W (.Call (.Attribute o "reverse" apos) [] [] cpos) (fMutL reverseM i []) :=
  PE.of (pe_bm0 PySem.F.plainAttrs_list PySem.F.slot_list_reverse PySem.F.type_list_reverse mt_reverse ho hbase hline) fun σ H Q q => mut0_go reverse_mut q
theorem pd_clear (ho : PE X o (tVar i)) (hbase : attributeBase o "clear" X.env (eval o X.env) = eval o X.env := by rfl) (hline : (apos.endLine == cpos.line) = true := by rfl) : PD X C W (.Call (.Attribute o "clear" apos) [] [] cpos) (fMutL clearM i []) :=
  PE.of (pe_bm0 PySem.F.plainAttrs_list PySem.F.slot_list_clear PySem.F.type_list_clear mt_clear ho hbase hline) fun σ H Q q => mut0_go clear_mut q
end
end
end DL
set_option Elab.async false
set_option linter.all false
set_option maxRecDepth 100000
set_option maxHeartbeats 4000000
namespace DL
open PySem PySem.Spec PyProof.Rows L2

/-! ### statements -/
def fSkip : F := fun ρ => some (.nx ρ)
def fSeq (f g : F) : F := fun ρ => match f ρ with
  | some (.nx ρ') => g ρ'
  | o => o
def fKill (ks : List Nat) (f : F) : F := fun ρ => match f ρ with
  | some (.nx ρ') => some (.nx (ρ'.kills ks))
  | o => o
def ofM {α : Type} (f : M α) (k : α → EV → Option Flow) : F := fun ρ => match f ρ with
  | some (.ok a ρ') => k a ρ'
  | some (.ex e ρ') => some (.ex e ρ')
  | none => none
def fExpr (f : M R) : F := ofM f fun _ ρ => some (.nx ρ)
def fRet (f : M R) : F := ofM f fun r ρ => match r with
  | .v d => some (.ret (.v d) ρ)
  | .n d => some (.ret (.n d) ρ)
  | .s i => (match ρ.sl[i]? with
    | some (some (.own d)) => some (.ret (.n d) (ρ.kill i))
    | _ => none)
def fRetN : F := fun ρ => some (.ret (.v .non) ρ)
def fIfS (t : M Bool) (f g : F) : F := ofM t fun b => if b = true then f else g
/-- targets -/
abbrev Tg := D → EV → Option EV
def tgN (i : Nat) : Tg := fun d ρ => some (ρ.set i (.val d))
def tgT (ts : List Tg) : Tg := fun d ρ => match d with
  | .tup ds => go ts ds ρ
  | _ => none
where go : List Tg → List D → EV → Option EV
  | [], [], ρ => some ρ
  | t :: ts, d :: ds, ρ => (match t d ρ with
    | some ρ' => go ts ds ρ'
    | none => none)
  | _, _, _ => none
def tgL (ts : List Tg) : Tg := fun d ρ => match d with
  | .lst ds => tgT.go ts ds ρ
  | _ => none
def fSetN (i : Nat) (f : M R) : F := ofM f fun r ρ => match r with
  | .v d => some (.nx (ρ.set i (.val d)))
  | .n d => some (.nx (ρ.set i (.own d)))
  | .s _ => none
def fSetT (t : Tg) (f : M R) : F := ofM f fun r ρ => match r with
  | .v d => (match t d ρ with
    | some ρ' => some (.nx ρ')
    | none => none)
  | _ => none
/-- a loop over data -/
def forL (t : Tg) (b : F) (ks : List Nat) : List D → F
  | [] => fun ρ => some (.nx ρ)
  | d :: ds => fun ρ => match t d ρ with
    | none => none
    | some ρ1 => (match b ρ1 with
      | some (.nx ρ2) => forL t b ks ds (ρ2.kills ks)
      | some (.ct ρ2) => forL t b ks ds (ρ2.kills ks)
      | some (.bk ρ2) => some (.nx ρ2)
      | o => o)
def fFor (src : M (List D)) (t : Tg) (b : F) (ks : List Nat) : F := ofM src fun ds => forL t b ks ds
def fWhile (t : M Bool) (b : F) (ks : List Nat) : Nat → F
  | 0 => fun _ => none
  | n + 1 => fun ρ => match t ρ with
    | some (.ok true ρ1) => (match b ρ1 with
      | some (.nx ρ2) => fWhile t b ks n (ρ2.kills ks)
      | some (.ct ρ2) => fWhile t b ks n (ρ2.kills ks)
      | some (.bk ρ2) => some (.nx ρ2)
      | o => o)
    | some (.ok false ρ1) => some (.nx ρ1)
    | some (.ex e ρ') => some (.ex e ρ')
    | none => none
def fNever : F := fun _ => none

section
variable {X : Cx} {C : Ctl} {W : WX} {e a b c o : Expr} {es rest : List Expr} {st : Stmt} {sts sts2 : List Stmt} {pos : Pos} {f g h : M R} {fs : List (M R)} {t : M Bool} {p q : F} {ks : List Nat}
theorem SPost.mono {K : PySem.W.Frag} {G G1 : Hp} {x : Flow} {E : Ends} (P : SPost K C W G x E) (e : Same G G1) : SPost K C W G1 x E := by
  cases x with
  | nx ρ => exact fun σ G' H' e' S => P σ G' H' (e.trans e') S
  | ret r ρ => exact fun v σ G' H' e' S R => P v σ G' H' (e.trans e') S R
  | ex x ρ => exact fun c d σ G' H' e' S R => P c d σ G' H' (e.trans e') S R
  | bk ρ => exact fun σ G' H' e' S => P σ G' H' (e.trans e') S
  | ct ρ => exact fun σ G' H' e' S => P σ G' H' (e.trans e') S
theorem pq_of {st : Stmt} {t : TS} {f : F} (h : PS X st t) (k : ∀ D σ H, tS X.K C W f D σ H → t D σ H) : PQ X C W st f := ⟨fun pins s σ H D I q => h.run pins s σ H D I (k D σ H q)⟩
theorem pqs_nil : PQs X C W [] fSkip := ⟨fun pins s σ H D I ⟨G, ρ, x, S, hf, P⟩ => by
  cases hf
  exact pss_nil.run pins s σ H D I (P σ G H (Same.refl _) S)⟩
theorem tS.seq {K : PySem.W.Frag} {D : Ends} {σ : L2.St} {H : Hp} (q0 : tS K C W (fSeq p q) D σ H) : tS K C W p { D with nx := fun σ' H' => tS K C W q D σ' H' } σ H := by
  obtain ⟨G, ρ, x, S, hf, P⟩ := q0
  unfold fSeq at hf
  cases e : p ρ with
  | none => rw [e] at hf; cases hf
  | some y =>
    rw [e] at hf
    refine ⟨G, ρ, y, S, e, ?_⟩
    cases y with
    | nx ρ' => exact fun σ' G' H' e' S' => ⟨G', ρ', x, S', hf, P.mono e'⟩
    | ret r ρ' => cases hf; exact P
    | ex r ρ' => cases hf; exact P
    | bk ρ' => cases hf; exact P
    | ct ρ' => cases hf; exact P
theorem pqs_cons (h1 : PQ X C W st p) (h2 : PQs X C W sts q) : PQs X C W (st :: sts) (fSeq p q) := ⟨fun pins s σ H D I q0 => (pss_cons h1 h2).run pins s σ H D I (tS.seq q0)⟩
theorem pqs_one (h1 : PQ X C W st p) : PQs X C W [st] p := pss_one h1
theorem pq_kill (h : PQ X C W st p) (ks : List Nat) : PQ X C W st (fKill ks p) := pq_of h fun D σ H ⟨G, ρ, x, S, hf, P⟩ => by
  unfold fKill at hf
  cases e : p ρ with
  | none => rw [e] at hf; cases hf
  | some y =>
    rw [e] at hf
    refine ⟨G, ρ, y, S, e, ?_⟩
    cases y with
    | nx ρ' => cases hf; exact fun σ' G' H' e' S' => P σ' G' H' e' (S'.kills ks)
    | ret r ρ' => cases hf; exact P
    | ex r ρ' => cases hf; exact P
    | bk ρ' => cases hf; exact P
    | ct ρ' => cases hf; exact P
theorem ofM_ok {α : Type} {f : M α} {k : α → EV → Option Flow} {ρ : EV} {x : Flow} (h : ofM f k ρ = some x) : (∃ a ρ', f ρ = some (.ok a ρ') ∧ k a ρ' = some x) ∨ ∃ e ρ', f ρ = some (.ex e ρ') ∧ x = .ex e ρ' := by
  unfold ofM at h
  cases e : f ρ with
  | none => rw [e] at h; cases h
  | some y =>
    rw [e] at h
    cases y with
    | ok a ρ' => exact .inl ⟨a, ρ', rfl, h⟩
    | ex q ρ' => exact .inr ⟨q, ρ', rfl, (Option.some.inj h).symm⟩
theorem tS.ofE {K : PySem.W.Frag} {k : R → EV → Option Flow} {D : Ends} {σ : L2.St} {H : Hp} {Q : VK} (q0 : tS K C W (ofM f k) D σ H)
    (hk : ∀ r ρ1 x v G1 H1, Sta K C G1 H1 σ ρ1 → RepR K C G1 H1 σ ρ1 r v → k r ρ1 = some x → SPost K C W G1 x D → Q v H1) : tD K C W f σ H Q := by
  obtain ⟨G, ρ, x, S, hf, P⟩ := q0
  rcases ofM_ok hf with ⟨r, ρ1, h1, h2⟩ | ⟨q, ρ1, h1, rfl⟩
  · exact ⟨G, ρ, _, S, h1, fun v G1 H1 e1 S1 R1 => hk r ρ1 x v G1 H1 S1 R1 h2 (P.mono e1)⟩
  · exact ⟨G, ρ, _, S, h1, fun c d G' H' e' S' R' => P c d σ G' H' e' S' R'⟩
theorem pq_expr (he : PD X C W e f) (hs : swapsWith e none pos.line X.env = pure false := by rfl) : PQ X C W (.Expr e pos) (fExpr f) := pq_of (ps_expr he hs) fun D σ H q0 => tS.ofE q0 fun r ρ1 x v G1 H1 S1 R1 h2 P => by
  cases h2
  exact P σ G1 H1 (Same.refl _) S1
theorem pq_doc {x j pos'} : PQ X C W (.Expr (.Constant (.str x) j pos) pos') fSkip := pq_of ps_doc fun D σ H ⟨G, ρ, x, S, hf, P⟩ => by
  cases hf
  exact P σ G H (Same.refl _) S
theorem pq_pass : PQ X C W (.Pass pos) fSkip := pq_of ps_pass fun D σ H ⟨G, ρ, x, S, hf, P⟩ => by
  cases hf
  exact P σ G H (Same.refl _) S
theorem pq_break : PQ X C W (.Break pos) (fun ρ => some (.bk ρ)) := pq_of ps_break fun D σ H ⟨G, ρ, x, S, hf, P⟩ => by
  cases hf
  exact P σ G H (Same.refl _) S
theorem pq_cont : PQ X C W (.Continue pos) (fun ρ => some (.ct ρ)) := pq_of ps_continue fun D σ H ⟨G, ρ, x, S, hf, P⟩ => by
  cases hf
  exact P σ G H (Same.refl _) S
theorem pq_never : PQ X C W st fNever := pq_of ps_never fun D σ H ⟨G, ρ, x, S, hf, P⟩ => by cases hf
theorem pqs_never : PQs X C W sts fNever := ⟨fun pins s σ H D I ⟨G, ρ, x, S, hf, P⟩ => by cases hf⟩
theorem pq_ret (he : PD X C W e f) : PQ X C W (.Return (some e) pos) (fRet f) := pq_of (ps_ret he) fun D σ H q0 => tS.ofE q0 fun r ρ1 x v G1 H1 S1 R1 h2 P => by
  cases r with
  | v d => cases h2; exact P v σ G1 H1 (Same.refl _) S1 R1
  | n d => cases h2; exact P v σ G1 H1 (Same.refl _) S1 R1
  | s i =>
    have h3 : (match ρ1.sl[i]? with
      | some (some (.own d)) => some (Flow.ret (.n d) (ρ1.kill i))
      | _ => none) = some x := h2
    cases e : ρ1.sl[i]? with
    | none => rw [e] at h3; cases h3
    | some so =>
      rw [e] at h3
      cases so with
      | none => cases h3
      | some s =>
        cases s with
        | own d =>
          cases h3
          have R1' : σ[i]? = some (some v) := R1
          obtain ⟨u, hu, a, rfl, g, h0, w⟩ := S1.slot i _ e
          rw [R1'] at hu; cases hu
          have hl : i < ρ1.sl.length := (List.getElem?_eq_some_iff.mp e).1
          refine P _ σ G1 H1 (Same.refl _) (S1.kill i) ⟨a, rfl, g, h0, w, fun j x q1 q2 => ?_⟩
          have hj : i ≠ j := fun z => by
            subst z
            simp only [EV.kill, List.getElem?_set_self hl] at q1
            cases q1
          simp only [EV.kill, List.getElem?_set_ne hj] at q1
          exact hj (S1.dist i j d x _ e q1 R1' q2)
        | val d => cases h3
        | par k => cases h3
        | xn => cases h3
theorem pq_retN : PQ X C W (.Return none pos) fRetN := pq_of ps_retN fun D σ H ⟨G, ρ, x, S, hf, P⟩ => by
  cases hf
  exact P .non σ G H (Same.refl _) S rfl
theorem pq_if (hc : PB X C W c t) (ha : PQs X C W sts p) (hb : PQs X C W sts2 q) : PQ X C W (.If c sts sts2 pos) (fIfS t p q) := pq_of (ps_if hc ha hb) fun D σ H ⟨G, ρ, x, S, hf, P⟩ => by
  rcases ofM_ok hf with ⟨r, ρ1, h1, h2⟩ | ⟨q, ρ1, h1, rfl⟩
  · refine ⟨G, ρ, _, S, h1, fun G1 H1 e1 S1 => ?_⟩
    cases r with
    | true => exact ⟨G1, ρ1, x, S1, h2, P.mono e1⟩
    | false => exact ⟨G1, ρ1, x, S1, h2, P.mono e1⟩
  · exact ⟨G, ρ, _, S, h1, fun c d G' H' e' S' R' => P c d σ G' H' e' S' R'⟩
/-! ### targets -/
/-- all slots but those at sl are as they were -/
def But (sl : List Nat) (σ σ' : L2.St) : Prop := σ'.length = σ.length ∧ ∀ i : Nat, i ∉ sl → σ'[i]? = σ[i]?
theorem But.mono {sl sl' : List Nat} {σ σ' : L2.St} (h : But sl σ σ') (m : ∀ i ∈ sl, i ∈ sl') : But sl' σ σ' := ⟨h.1, fun i hi => h.2 i fun z => hi (m i z)⟩
theorem But.trans {sl : List Nat} {σ σ' σ'' : L2.St} (h : But sl σ σ') (k : But sl σ' σ'') : But sl σ σ'' := ⟨k.1.trans h.1, fun i hi => (k.2 i hi).trans (h.2 i hi)⟩
def tGd (K : PySem.W.Frag) (C : Ctl) (g : Tg) (sl : List Nat) : TG := fun v σ H Q => ∃ G ρ d ρ', Sta K C G H σ ρ ∧ Rep K G d v ∧ g d ρ = some ρ' ∧ ∀ σ' G' H', Same G G' → Sta K C G' H' σ' ρ' → But sl σ σ' → Q σ' H'
abbrev PGd (X : Cx) (C : Ctl) (tg : Expr) (g : Tg) (sl : List Nat) : Prop := PG X tg (tGd X.K C g sl)
theorem PG.of {tg : Expr} {u u' : TG} (h : PG X tg u) (k : ∀ v σ H Q, u' v σ H Q → u v σ H Q) : PG X tg u' := ⟨fun pins s σ H v uu Q I r q => h.run pins s σ H v uu Q I r (k v σ H Q q)⟩
theorem pgd_name (i : Nat) {x : Str} (hN : X.N.Nodup) (hi : X.N[i]? = some x := by rfl) (hx : Loc X.env.scope x := by first | exact Or.inl rfl | exact Or.inr rfl) (hf : X.fn x = true ∨ X.env.scope.names.lookup x = some .local := by first | exact .inl rfl | exact .inr rfl | assumption) : PGd X C (.Name x pos) (tgN i) [i] :=
  PG.of (pg_name hN hi hx hf) fun v σ H Q ⟨G, ρ, d, ρ', S, r, hg, k⟩ => by
    cases hg
    exact k _ G H (Same.refl _) (S.setVal r i) ⟨by simp, fun j hj => List.getElem?_set_ne (fun z => hj (by simp [z]))⟩
inductive PGds (X : Cx) (C : Ctl) : List Expr → List Tg → TGs → List Nat → Prop where
  | nil : PGds X C [] [] gNil []
  | cons {e : Expr} {es : List Expr} {g : Tg} {gs : List Tg} {u : TGs} {s1 s2 : List Nat} (h1 : PGd X C e g s1) (h2 : PGds X C es gs u s2) (hs : (assignEach (e :: es) X.env).map (·.2) = assign e X.env :: (assignEach es X.env).map (·.2) := by rfl) : PGds X C (e :: es) (g :: gs) (gCons (tGd X.K C g s1) u) (s1 ++ s2)
theorem tgs_go {K : PySem.W.Frag} : ∀ {ts : List Tg} {es : List Expr} {u : TGs} {ds : List D} {vs : List V} {ρ ρ' : EV} {G H : Hp} {σ : L2.St} {Q : L2.St → Hp → Prop} {sl : List Nat}, X.K = K → PGds X C es ts u sl → Sta K C G H σ ρ → RepL K G ds vs → tgT.go ts ds ρ = some ρ' →
    (∀ σ' G' H', Same G G' → Sta K C G' H' σ' ρ' → But sl σ σ' → Q σ' H') → u vs σ H Q := by
  intro ts
  induction ts with
  | nil =>
    intro es u ds vs ρ ρ' G H σ Q sl hK hp S r hg k
    cases hp
    cases ds with
    | nil => cases hg; exact ⟨r, k σ G H (Same.refl _) S ⟨rfl, fun _ _ => rfl⟩⟩
    | cons d ds => cases hg
  | cons t ts ih =>
    intro es u ds vs ρ ρ' G H σ Q sl hK hp S r hg k
    cases hp with
    | cons h1 h2 _ =>
      cases ds with
      | nil => cases hg
      | cons d ds =>
        obtain ⟨v, vr, e1, r1, r2⟩ := r
        unfold tgT.go at hg
        cases e2 : t d ρ with
        | none => rw [e2] at hg; cases hg
        | some ρ1 =>
          rw [e2] at hg
          subst hK
          exact ⟨v, vr, e1, G, ρ, d, ρ1, S, r1, e2, fun σ' G' H' e' S' b' => ih rfl h2 S' (r2.mono e') hg fun σ'' G'' H'' e'' S'' b'' => k σ'' G'' H'' (e'.trans e'') S'' ((b'.mono fun i hi => List.mem_append_left _ hi).trans (b''.mono fun i hi => List.mem_append_right _ hi))⟩
theorem pgds_len : ∀ {ts : List Tg} {ds : List D} {ρ ρ' : EV}, tgT.go ts ds ρ = some ρ' → ds.length = ts.length := by
  intro ts
  induction ts with
  | nil => intro ds ρ ρ' h; cases ds with
    | nil => rfl
    | cons d ds => cases h
  | cons t ts ih => intro ds ρ ρ' h; cases ds with
    | nil => cases h
    | cons d ds =>
      unfold tgT.go at h
      cases e2 : t d ρ with
      | none => rw [e2] at h; cases h
      | some ρ1 => rw [e2] at h; rw [List.length_cons, List.length_cons, ih h]
theorem pgd_tup0 {ts : List Tg} {u : TGs} {sl : List Nat} {k : Nat} (hc : X.calm = true) (hp : PGds X C es ts u sl) (hu : PGs X es u) (hn : (assignEach es X.env).length = ts.length := by rfl) (hst : (assignEach es X.env).findIdx? (·.1) = none := by rfl) : PGd X C (.Tuple es k pos) (tgT ts) sl :=
  PG.of (pg_tup hc hu hn hst) fun v σ H Q ⟨G, ρ, d, ρ', S, r, hg, kk⟩ => by
    cases d with
    | tup ds =>
      obtain ⟨a, xs, e1, h1, r1⟩ := r
      have hg' : tgT.go ts ds ρ = some ρ' := hg
      exact ⟨a, xs, e1, same_t S.sub h1, by rw [← r1.length, pgds_len hg'], tgs_go rfl hp S r1 hg' kk⟩
    | _ => cases hg
theorem pgd_lst0 {ts : List Tg} {u : TGs} {sl : List Nat} {k : Nat} (hc : X.calm = true) (hp : PGds X C es ts u sl) (hu : PGs X es u) (hn : (assignEach es X.env).length = ts.length := by rfl) (hst : (assignEach es X.env).findIdx? (·.1) = none := by rfl) : PGd X C (.Tuple es k pos) (tgL ts) sl :=
  PG.of (pg_unl hc hu hn hst) fun v σ H Q ⟨G, ρ, d, ρ', S, r, hg, kk⟩ => by
    cases d with
    | lst ds =>
      obtain ⟨a, xs, e1, h1, r1⟩ := r
      have hg' : tgT.go ts ds ρ = some ρ' := hg
      exact ⟨a, xs, e1, SqL.of (S.sub _ _ h1), by rw [← r1.length, pgds_len hg'], tgs_go rfl hp S r1 hg' kk⟩
    | _ => cases hg
theorem pgds_pgs : ∀ {es : List Expr} {ts : List Tg} {u : TGs} {sl : List Nat}, PGds X C es ts u sl → PGs X es u
  | _, _, _, _, .nil => pgs_nil
  | _, _, _, _, .cons h1 h2 hs => pgs_cons h1 (pgds_pgs h2) hs
theorem pgd_tup {ts : List Tg} {u : TGs} {sl : List Nat} {k : Nat} (hc : X.calm = true) (hp : PGds X C es ts u sl) (hn : (assignEach es X.env).length = ts.length := by rfl) (hst : (assignEach es X.env).findIdx? (·.1) = none := by rfl) : PGd X C (.Tuple es k pos) (tgT ts) sl := pgd_tup0 hc hp (pgds_pgs hp) hn hst
theorem pgd_lst {ts : List Tg} {u : TGs} {sl : List Nat} {k : Nat} (hc : X.calm = true) (hp : PGds X C es ts u sl) (hn : (assignEach es X.env).length = ts.length := by rfl) (hst : (assignEach es X.env).findIdx? (·.1) = none := by rfl) : PGd X C (.Tuple es k pos) (tgL ts) sl := pgd_lst0 hc hp (pgds_pgs hp) hn hst
/-! ### assignments -/
theorem pq_set (i : Nat) {x : Str} {pos' : Pos} (hN : X.N.Nodup) (he : PD X C W e f) (hi : X.N[i]? = some x := by rfl) (hx : Loc X.env.scope x := by first | exact Or.inl rfl | exact Or.inr rfl) (hs : swapsWith e (some (.Name x pos')) pos.line X.env = pure false := by rfl) (hf : X.fn x = true ∨ X.env.scope.names.lookup x = some .local := by first | exact .inl rfl | exact .inr rfl | assumption) :
    PQ X C W (.Assign [.Name x pos'] e pos) (fSetN i f) := pq_of (ps_set hN hi hx he hs hf) fun D σ H q0 => tS.ofE q0 fun r ρ1 x v G1 H1 S1 R1 h2 P => by
  cases r with
  | v d => cases h2; exact P _ G1 H1 (Same.refl _) (S1.setVal R1 i)
  | n d => cases h2; exact P _ G1 H1 (Same.refl _) (S1.setOwn R1 i)
  | s j => cases h2
theorem pq_asg {tg : Expr} {g : Tg} {sl : List Nat} (he : PD X C W e f) (hg : PGd X C tg g sl) (hs : swapsWithSole [tg] e pos.line X.env = pure false := by rfl) (hw : swappedStores [tg] e X.env = pure none := by rfl)
    (h1 : (assignEach [tg] X.env).map (·.2) = [assign tg X.env] := by rfl) : PQ X C W (.Assign [tg] e pos) (fSetT g f) := pq_of (ps_asg he hg hs hw h1) fun D σ H q0 => tS.ofE q0 fun r ρ1 x v G1 H1 S1 R1 h2 P => by
  cases r with
  | v d =>
    have h3 : (match g d ρ1 with
      | some ρ' => some (Flow.nx ρ')
      | none => none) = some x := h2
    cases e2 : g d ρ1 with
    | none => rw [e2] at h3; cases h3
    | some ρ2 =>
      rw [e2] at h3
      cases h3
      exact ⟨G1, ρ1, d, ρ2, S1, R1, e2, fun σ' G' H' e' S' _ => P σ' G' H' e' S'⟩
  | n d => cases h2
  | s j => cases h2
/-! ### loops -/
def JOk (K : PySem.W.Frag) (C : Ctl) (G : Hp) (J : It) (ds : List D) : Prop := ∀ (i : Nat) G2 H2 σ ρ, Same G G2 → Sta K C G2 H2 σ ρ →
  (ds.length ≤ i → J.stop i H2) ∧ ∀ d, ds[i]? = some d → J.go i H2 ∧ ∀ x H3, J.yld i H2 x H3 → ∃ G3, Same G2 G3 ∧ Sta K C G3 H3 σ ρ ∧ Rep K G3 d x
def tId (K : PySem.W.Frag) (C : Ctl) (W : WX) (src : M (List D)) : TI := fun σ H R => ∃ G ρ x, Sta K C G H σ ρ ∧ src ρ = some x ∧ (match x with
  | .ok ds ρ' => ∀ J G' H', Same G G' → Sta K C G' H' σ ρ' → (∀ C', JOk K C' G' J ds) → R J H'
  | .ex e ρ' => ∀ c d G' H', Same G G' → Sta K C G' H' σ ρ' → ExR G' K e c d → W c d σ H')
abbrev PId (X : Cx) (C : Ctl) (W : WX) (tg iter : Expr) (src : M (List D)) : Prop := PI X tg iter (tId X.K C W src)
theorem pq_for {iter tg : Expr} {src : M (List D)} {g : Tg} {sl : List Nat} (hp : PassesOwn (model X.prog X.w) X.A X.env X.xe) (hc : X.calm = true) (hi : PId X C W tg iter src) (hg : PGd X C tg g sl) (hb : PQs X C W sts p)
    (hs : ∀ x, foldedSetIterable iter X.env x = pure x := by intro _; rfl) (ks : List Nat) : PQ X C W (.For tg iter sts [] pos) (fFor src g p ks) := pq_of (ps_for hp hc hi hg hb hs) fun D σ H ⟨G, ρ, x, S, hf, P⟩ => by
  rcases ofM_ok hf with ⟨ds, ρ1, h1, h2⟩ | ⟨q, ρ1, h1, rfl⟩
  · refine ⟨G, ρ, _, S, h1, fun J G1 H1 e1 S1 jk => ?_⟩
    have P1 : SPost X.K C W G1 x D := P.mono e1
    refine ⟨fun i m σ' H' => i ≤ ds.length ∧ m = ds.length - i ∧ ∃ G' ρ', Same G1 G' ∧ Sta X.K C G' H' σ' ρ' ∧ forL g p ks (ds.drop i) ρ' = some x, ⟨ds.length, Nat.zero_le _, rfl, G1, ρ1, Same.refl _, S1, h2⟩, ?_⟩
    rintro i m σ' H' ⟨hi, rfl, G', ρ', e', S', hx⟩
    obtain ⟨j1, j2⟩ := jk C i G' H' σ' ρ' e' S'
    by_cases hlt : i < ds.length
    · obtain ⟨go, jy⟩ := j2 ds[i] (List.getElem?_eq_getElem hlt)
      have hd : ds.drop i = ds[i] :: ds.drop (i + 1) := List.drop_eq_getElem_cons hlt
      rw [hd] at hx
      refine .inr ⟨go, fun σ2 H2 => ∃ G2 ρ2, Same G1 G2 ∧ Sta X.K C G2 H2 σ2 ρ2 ∧ forL g p ks (ds.drop (i + 1)) ρ2 = some x, fun σ2 H2 ⟨G2, ρ2, z⟩ => ⟨ds.length - (i + 1), by omega, hlt, rfl, G2, ρ2, z⟩, fun v H3 y => ?_⟩
      obtain ⟨G3, e3, S3, R3⟩ := jy v H3 y
      unfold forL at hx
      cases e4 : g ds[i] ρ' with
      | none => rw [e4] at hx; cases hx
      | some ρ4 =>
        rw [e4] at hx
        refine ⟨G3, ρ', ds[i], ρ4, S3, R3, e4, fun σ4 G4 H4 e5 S4 _ => ?_⟩
        have hx' : (match p ρ4 with
          | some (.nx ρ2) => forL g p ks (ds.drop (i + 1)) (ρ2.kills ks)
          | some (.ct ρ2) => forL g p ks (ds.drop (i + 1)) (ρ2.kills ks)
          | some (.bk ρ2) => some (.nx ρ2)
          | o => o) = some x := hx
        cases e6 : p ρ4 with
        | none => rw [e6] at hx'; cases hx'
        | some y6 =>
          rw [e6] at hx'
          refine ⟨G4, ρ4, y6, S4, e6, ?_⟩
          have e14 : Same G1 G4 := (e'.trans e3).trans e5
          cases y6 with
          | nx ρ5 => exact fun σ5 G5 H5 e7 S5 => ⟨G5, ρ5.kills ks, e14.trans e7, S5.kills ks, hx'⟩
          | ct ρ5 => exact fun σ5 G5 H5 e7 S5 => ⟨G5, ρ5.kills ks, e14.trans e7, S5.kills ks, hx'⟩
          | bk ρ5 => cases hx'; exact P1.mono e14
          | ret r ρ5 => cases hx'; exact P1.mono e14
          | ex r ρ5 => cases hx'; exact P1.mono e14
    · have e : i = ds.length := by omega
      subst e
      rw [List.drop_length] at hx
      cases hx
      exact .inl ⟨j1 (Nat.le_refl _), P1 σ' G' H' e' S'⟩
  · exact ⟨G, ρ, _, S, h1, fun c d G' H' e' S' R' => P c d σ G' H' e' S' R'⟩
theorem pq_while (n : Nat) (ks : List Nat) (hp : PassesOwn (model X.prog X.w) X.A X.env X.xe) (hc : PB X C W c t) (hb : PQs X C W sts p) : PQ X C W (.While c sts [] pos) (fWhile t p ks n) := pq_of (ps_while hp hc hb) fun D σ H ⟨G, ρ, x, S, hf, P⟩ => by
  refine ⟨fun m σ' H' => ∃ G' ρ', Same G G' ∧ Sta X.K C G' H' σ' ρ' ∧ fWhile t p ks m ρ' = some x, ⟨n, G, ρ, Same.refl _, S, hf⟩, ?_⟩
  rintro m σ' H' ⟨G', ρ', e', S', hx⟩
  cases m with
  | zero => cases hx
  | succ m =>
    have hx' : (match t ρ' with
      | some (.ok true ρ1) => (match p ρ1 with
        | some (.nx ρ2) => fWhile t p ks m (ρ2.kills ks)
        | some (.ct ρ2) => fWhile t p ks m (ρ2.kills ks)
        | some (.bk ρ2) => some (.nx ρ2)
        | o => o)
      | some (.ok false ρ1) => some (.nx ρ1)
      | some (.ex e ρ') => some (.ex e ρ')
      | none => none) = some x := hx
    cases e1 : t ρ' with
    | none => rw [e1] at hx'; cases hx'
    | some y =>
      rw [e1] at hx'
      refine ⟨G', ρ', y, S', e1, ?_⟩
      have P1 : SPost X.K C W G' x D := P.mono e'
      cases y with
      | ex r ρ1 => cases hx'; exact fun c d G2 H2 e2 S2 R2 => P1 c d σ' G2 H2 e2 S2 R2
      | ok bb ρ1 =>
        intro G2 H2 e2 S2
        cases bb with
        | false => cases hx'; exact P1 σ' G2 H2 e2 S2
        | true =>
          refine ⟨fun σ3 H3 => ∃ G3 ρ3, Same G G3 ∧ Sta X.K C G3 H3 σ3 ρ3 ∧ fWhile t p ks m ρ3 = some x, fun σ3 H3 z => ⟨m, Nat.lt_succ_self _, z⟩, ?_⟩
          have hx2 : (match p ρ1 with
            | some (.nx ρ2) => fWhile t p ks m (ρ2.kills ks)
            | some (.ct ρ2) => fWhile t p ks m (ρ2.kills ks)
            | some (.bk ρ2) => some (.nx ρ2)
            | o => o) = some x := hx'
          cases e3 : p ρ1 with
          | none => rw [e3] at hx2; cases hx2
          | some y3 =>
            rw [e3] at hx2
            refine ⟨G2, ρ1, y3, S2, e3, ?_⟩
            have e12 : Same G G2 := e'.trans e2
            cases y3 with
            | nx ρ5 => exact fun σ5 G5 H5 e7 S5 => ⟨G5, ρ5.kills ks, e12.trans e7, S5.kills ks, hx2⟩
            | ct ρ5 => exact fun σ5 G5 H5 e7 S5 => ⟨G5, ρ5.kills ks, e12.trans e7, S5.kills ks, hx2⟩
            | bk ρ5 => cases hx2; exact P.mono e12
            | ret r ρ5 => cases hx2; exact P.mono e12
            | ex r ρ5 => cases hx2; exact P.mono e12
end
end DL
set_option Elab.async false
set_option linter.all false
set_option maxRecDepth 100000
set_option maxHeartbeats 4000000
namespace DL
open PySem PySem.Spec PyProof.Rows L2 RZ

/-! ### what is walked -/
def chars (s : Str) : List D := s.cps.toList.map fun c => D.str ⟨#[c]⟩
def itemsD : D → Option (List D)
  | .lst ds => some ds
  | .tup ds => some ds
  | .scr ds => some ds
  | .str s => some (chars s)
  | _ => none
def srcD (f : M R) : M (List D) := f.bind fun r => fun ρ => match r with
  | .v d => (match itemsD d with
    | some ds => some (.ok ds ρ)
    | none => none)
  | _ => none
def rangeL (lo : Int) (n : Nat) : List D := (List.range n).map fun i => D.int (lo + (i : Nat))
def cRng (i : Int) : Prop := -(2 ^ 62) ≤ i ∧ i < 2 ^ 62
instance {i : Int} : Decidable (cRng i) := by unfold cRng; exact inferInstance
def rangeD1 : List D → Option (List D)
  | [.int j] => if cRng j then some (rangeL 0 j.toNat) else none
  | _ => none
def rangeD : List D → Option (List D)
  | [.int i, .int j] => if cRng i ∧ cRng j then some (rangeL i (j - i).toNat) else none
  | _ => none
def srcN (k : List D → Option (List D)) (fs : List (M R)) : M (List D) := (evs fs).bind fun rs => fun ρ => match settled rs with
  | some ds => (match k ds with
    | some xs => some (.ok xs ρ)
    | none => none)
  | none => none
def enumD : List D → Option (List D)
  | [.lst ds] => some (ds.mapIdx fun i d => D.tup [.int (i : Nat), d])
  | _ => none
def zipD : List D → Option (List D)
  | [.lst ds, .lst es] => some ((ds.zip es).map fun p => D.tup [p.1, p.2])
  | [.tup ds, .tup es] => some ((ds.zip es).map fun p => D.tup [p.1, p.2])
  | _ => none
section
variable {X : Cx} {C : Ctl} {W : WX} {e a b c o tg : Expr} {es rest : List Expr} {pos : Pos} {f g h : M R} {fs : List (M R)}
theorem PI.by {iter : Expr} {t' : TI} (k : ∀ σ H R, t' σ H R → ∃ t, PI X tg iter t ∧ t σ H R) : PI X tg iter t' := ⟨fun pins s σ H R I q => by
  obtain ⟨t, h, q'⟩ := k σ H R q
  exact h.run pins s σ H R I q'⟩
section
variable {K : PySem.W.Frag} {G : Hp} {ds es' : List D} {xs ys : List V} {p p' : Addr}
theorem jok_list (hp : SqL K G p xs) (r : RepL K G ds xs) : JOk K C G (Itl K p) ds := fun i G2 H2 σ ρ e S => by
  have hq : SqL K H2 p xs := same_l (e.trans S.sub) hp
  refine ⟨fun hi => ⟨xs, hq, by rw [← r.length]; exact hi⟩, fun d hd => ?_⟩
  obtain ⟨v, hv, rv⟩ := r.get hd
  refine ⟨⟨xs, v, hq, hv⟩, fun x H3 ⟨e3, y⟩ => ?_⟩
  subst e3
  have := y xs hq
  rw [hv] at this; cases this
  exact ⟨G2, Same.refl _, S, rv.mono e⟩
theorem jok_tup (hp : SqT K G p xs) (r : RepL K G ds xs) : JOk K C G (Itt K p) ds := fun i G2 H2 σ ρ e S => by
  have hq : SqT K H2 p xs := same_t (e.trans S.sub) hp
  refine ⟨fun hi => ⟨xs, hq, by rw [← r.length]; exact hi⟩, fun d hd => ?_⟩
  obtain ⟨v, hv, rv⟩ := r.get hd
  refine ⟨⟨xs, v, hq, hv⟩, fun x H3 ⟨e3, y⟩ => ?_⟩
  subst e3
  have := y xs hq
  rw [hv] at this; cases this
  exact ⟨G2, Same.refl _, S, rv.mono e⟩
theorem jok_str (s : Str) : JOk K C G (Its s) (chars s) := fun i G2 H2 σ ρ e S => by
  have hl : (chars s).length = s.cps.size := by simp [chars]
  refine ⟨fun hi => by rw [hl] at hi; exact hi, fun d hd => ?_⟩
  have hi : i < (chars s).length := (List.getElem?_eq_some_iff.mp hd).1
  rw [hl] at hi
  refine ⟨hi, fun x H3 ⟨e3, c, hc, ex⟩ => ?_⟩
  subst e3
  subst ex
  refine ⟨G2, Same.refl _, S, ?_⟩
  unfold chars at hd
  rw [List.getElem?_map, Array.getElem?_toList, hc] at hd
  cases hd
  rfl
theorem jok_range (lo : Int) (n : Nat) : JOk K C G (Itr lo n) (rangeL lo n) := fun i G2 H2 σ ρ e S => by
  have hl : (rangeL lo n).length = n := by simp [rangeL]
  refine ⟨fun hi => by rw [hl] at hi; exact hi, fun d hd => ?_⟩
  have hi : i < (rangeL lo n).length := (List.getElem?_eq_some_iff.mp hd).1
  rw [hl] at hi
  refine ⟨hi, fun x H3 ⟨e3, ex⟩ => ?_⟩
  subst e3
  subst ex
  refine ⟨G2, Same.refl _, S, ?_⟩
  unfold rangeL at hd
  rw [List.getElem?_map, List.getElem?_range hi] at hd
  cases hd
  rfl
theorem jok_enum (hp : SqL K G p xs) (r : RepL K G ds xs) : JOk K C G (Ite K p) (ds.mapIdx fun i d => D.tup [.int (i : Nat), d]) := fun i G2 H2 σ ρ e S => by
  have hq : SqL K H2 p xs := same_l (e.trans S.sub) hp
  refine ⟨fun hi => ⟨xs, hq, by rw [← r.length]; simpa using hi⟩, fun d hd => ?_⟩
  rw [List.getElem?_mapIdx] at hd
  cases e1 : ds[i]? with
  | none => rw [e1] at hd; cases hd
  | some d0 =>
    rw [e1] at hd
    cases hd
    obtain ⟨v, hv, rv⟩ := r.get e1
    refine ⟨⟨xs, v, hq, hv⟩, fun x H3 ⟨T, y, ex, hT, e3, hy⟩ => ?_⟩
    subst ex
    subst e3
    have := hy xs hq
    rw [hv] at this; cases this
    obtain ⟨e4, S4, R4⟩ := S.newTup hT (ds := [.int (i : Nat), d0]) (xs := [.int (i : Nat), v]) (RepL.cons rfl (RepL.cons (rv.mono e) RepL.nil))
    exact ⟨_, e4, S4, R4⟩
theorem jok_zip (hp : SqL K G p xs) (r : RepL K G ds xs) (hp' : SqL K G p' ys) (r' : RepL K G es' ys) : JOk K C G (Itz K p p') ((ds.zip es').map fun q => D.tup [q.1, q.2]) := fun i G2 H2 σ ρ e S => by
  have hq : SqL K H2 p xs := same_l (e.trans S.sub) hp
  have hq' : SqL K H2 p' ys := same_l (e.trans S.sub) hp'
  refine ⟨fun hi => ⟨xs, ys, hq, hq', ?_⟩, fun d hd => ?_⟩
  · rw [List.length_map, List.length_zip] at hi
    rw [← r.length, ← r'.length]
    omega
  · rw [List.getElem?_map] at hd
    cases e1 : (ds.zip es')[i]? with
    | none => rw [e1] at hd; cases hd
    | some q =>
      rw [e1] at hd
      cases hd
      rw [List.getElem?_zip_eq_some] at e1
      obtain ⟨v, hv, rv⟩ := r.get e1.1
      obtain ⟨u, hu, ru⟩ := r'.get e1.2
      refine ⟨⟨xs, ys, v, u, hq, hq', hv, hu⟩, fun x H3 ⟨T, y, z, ex, hT, e3, hy, hz⟩ => ?_⟩
      subst ex
      subst e3
      have h1 := hy xs hq
      rw [hv] at h1; cases h1
      have h2 := hz ys hq'
      rw [hu] at h2; cases h2
      obtain ⟨e4, S4, R4⟩ := S.newTup hT (ds := [q.1, q.2]) (xs := [v, u]) (RepL.cons (rv.mono e) (RepL.cons (ru.mono e) RepL.nil))
      exact ⟨_, e4, S4, R4⟩
theorem jok_zipT (hp : SqT K G p xs) (r : RepL K G ds xs) (hp' : SqT K G p' ys) (r' : RepL K G es' ys) : JOk K C G (ItzT K p p') ((ds.zip es').map fun q => D.tup [q.1, q.2]) := fun i G2 H2 σ ρ e S => by
  have hq : SqT K H2 p xs := same_t (e.trans S.sub) hp
  have hq' : SqT K H2 p' ys := same_t (e.trans S.sub) hp'
  refine ⟨fun hi => ⟨xs, ys, hq, hq', ?_⟩, fun d hd => ?_⟩
  · rw [List.length_map, List.length_zip] at hi
    rw [← r.length, ← r'.length]
    omega
  · rw [List.getElem?_map] at hd
    cases e1 : (ds.zip es')[i]? with
    | none => rw [e1] at hd; cases hd
    | some q =>
      rw [e1] at hd
      cases hd
      rw [List.getElem?_zip_eq_some] at e1
      obtain ⟨v, hv, rv⟩ := r.get e1.1
      obtain ⟨u, hu, ru⟩ := r'.get e1.2
      refine ⟨⟨xs, ys, v, u, hq, hq', hv, hu⟩, fun x H3 ⟨T, y, z, ex, hT, e3, hy, hz⟩ => ?_⟩
      subst ex
      subst e3
      have h1 := hy xs hq
      rw [hv] at h1; cases h1
      have h2 := hz ys hq'
      rw [hu] at h2; cases h2
      obtain ⟨e4, S4, R4⟩ := S.newTup hT (ds := [q.1, q.2]) (xs := [v, u]) (RepL.cons (rv.mono e) (RepL.cons (ru.mono e) RepL.nil))
      exact ⟨_, e4, S4, R4⟩
end
theorem pid_list (he : PD X C W e f) : PId X C W tg e (srcD f) := PI.by fun σ H R ⟨G, ρ, x, S, hf, P⟩ => by
  rcases bind_ok hf with ⟨r, ρ1, h1, h2⟩ | ⟨q, ρ1, h1, rfl⟩
  · cases r with
    | v d =>
      cases d with
      | lst ds =>
        cases h2
        refine ⟨_, pi_list he, G, ρ, _, S, h1, fun v G1 H1 e1 S1 R1 => ?_⟩
        obtain ⟨p, xs, ev, hp, r1⟩ := R1
        exact ⟨p, ev, ⟨xs, SqL.of (S1.sub _ _ hp)⟩, P (Itl X.K p) G1 H1 e1 S1 fun C' => jok_list (SqL.of hp) r1⟩
      | scr ds =>
        cases h2
        refine ⟨_, pi_list he, G, ρ, _, S, h1, fun v G1 H1 e1 S1 R1 => ?_⟩
        obtain ⟨p, xs, ev, hp, r1⟩ := R1
        exact ⟨p, ev, ⟨xs, same_l S1.sub hp⟩, P (Itl X.K p) G1 H1 e1 S1 fun C' => jok_list hp r1⟩
      | tup ds =>
        cases h2
        refine ⟨_, pi_tup he, G, ρ, _, S, h1, fun v G1 H1 e1 S1 R1 => ?_⟩
        obtain ⟨p, xs, ev, hp, r1⟩ := R1
        exact ⟨p, ev, ⟨xs, same_t S1.sub hp⟩, P (Itt X.K p) G1 H1 e1 S1 fun C' => jok_tup hp r1⟩
      | str s =>
        cases h2
        refine ⟨_, pi_str he, G, ρ, _, S, h1, fun v G1 H1 e1 S1 R1 => ?_⟩
        exact ⟨s, R1, P (Its s) G1 H1 e1 S1 fun C' => jok_str s⟩
      | _ => cases h2
    | _ => cases h2
  · exact ⟨_, pi_list he, G, ρ, _, S, h1, P⟩
theorem srcN_ok {k : List D → Option (List D)} {ρ : EV} {x : XR (List D)} (h : srcN k fs ρ = some x) : (∃ rs ρ1 ds xs, evs fs ρ = some (.ok rs ρ1) ∧ settled rs = some ds ∧ k ds = some xs ∧ x = .ok xs ρ1) ∨ ∃ e ρ', evs fs ρ = some (.ex e ρ') ∧ x = .ex e ρ' := by
  rcases bind_ok h with ⟨rs, ρ1, h1, h2⟩ | ⟨q, ρ1, h1, rfl⟩
  · left
    cases e1 : settled rs with
    | none => simp only [e1] at h2; cases h2
    | some ds =>
      simp only [e1] at h2
      cases e2 : k ds with
      | none => simp only [e2] at h2; cases h2
      | some xs => simp only [e2] at h2; exact ⟨rs, ρ1, ds, xs, h1, e1, e2, (Option.some.inj h2).symm⟩
  · exact .inr ⟨q, ρ1, h1, rfl⟩
theorem repl1 {K : PySem.W.Frag} {G : Hp} {d : D} {vs : List V} (r : RepL K G [d] vs) : ∃ v, vs = [v] ∧ Rep K G d v := by
  obtain ⟨v, t, e, h, ht⟩ := r
  cases (show t = [] from ht)
  exact ⟨v, e, h⟩
theorem repl2 {K : PySem.W.Frag} {G : Hp} {d d' : D} {vs : List V} (r : RepL K G [d, d'] vs) : ∃ v v', vs = [v, v'] ∧ Rep K G d v ∧ Rep K G d' v' := by
  obtain ⟨v, t, e, h, ht⟩ := r
  obtain ⟨v', e', h'⟩ := repl1 ht
  exact ⟨v, v', by rw [e, e'], h, h'⟩
theorem pid_range1 {p : Pos} (hg : Gl X "range") (hm : X.mg "range" = none) (ha : PAs X C W [a] (evs fs)) (hs : starEach [a] X.env = [(false, eval a X.env)] := by rfl) : PId X C W tg (.Call (.Name "range" p) [a] [] pos) (srcN rangeD1 fs) := PI.by fun σ H R ⟨G, ρ, x, S, hf, P⟩ => by
  refine ⟨_, pi_range1 hg hm ha hs, ?_⟩
  rcases srcN_ok hf with ⟨rs, ρ1, ds, xs, h1, h2, h3, rfl⟩ | ⟨q, ρ1, h1, rfl⟩
  · refine ⟨G, ρ, _, S, h1, fun vs G1 H1 e1 S1 R1 => ?_⟩
    have r := R1.settled h2
    unfold rangeD1 at h3
    split at h3
    · split at h3
      · rename_i hz
        cases h3
        obtain ⟨v, rfl, rv⟩ := repl1 r
        exact ⟨_, by rw [show v = _ from rv], hz.1, hz.2, P _ G1 H1 e1 S1 fun C' => jok_range 0 _⟩
      · cases h3
    · cases h3
  · exact ⟨G, ρ, _, S, h1, P⟩
theorem pid_range2 {p : Pos} (hg : Gl X "range") (hm : X.mg "range" = none) (ha : PAs X C W [a, b] (evs fs)) (hs : starEach [a, b] X.env = [(false, eval a X.env), (false, eval b X.env)] := by rfl) (hs2 : starEach [b] X.env = [(false, eval b X.env)] := by rfl) : PId X C W tg (.Call (.Name "range" p) [a, b] [] pos) (srcN rangeD fs) := PI.by fun σ H R ⟨G, ρ, x, S, hf, P⟩ => by
  refine ⟨_, pi_range2 hg hm ha hs hs2, ?_⟩
  rcases srcN_ok hf with ⟨rs, ρ1, ds, xs, h1, h2, h3, rfl⟩ | ⟨q, ρ1, h1, rfl⟩
  · refine ⟨G, ρ, _, S, h1, fun vs G1 H1 e1 S1 R1 => ?_⟩
    have r := R1.settled h2
    unfold rangeD at h3
    split at h3
    · split at h3
      · rename_i hz
        cases h3
        obtain ⟨v, v', rfl, rv, rv'⟩ := repl2 r
        exact ⟨_, _, by rw [show v = _ from rv, show v' = _ from rv'], ⟨hz.1.1, hz.1.2, hz.2.1, hz.2.2⟩, P _ G1 H1 e1 S1 fun C' => jok_range _ _⟩
      · cases h3
    · cases h3
  · exact ⟨G, ρ, _, S, h1, P⟩
theorem pid_enum {p tpos : Pos} {elts : List Expr} {kk : Nat} (hg : Gl X "enumerate") (hm : X.mg "enumerate" = none) (ha : PAs X C W [a] (evs fs)) (hs : starEach [a] X.env = [(false, eval a X.env)] := by rfl) : PId X C W (.Tuple elts kk tpos) (.Call (.Name "enumerate" p) [a] [] pos) (srcN enumD fs) := PI.by fun σ H R ⟨G, ρ, x, S, hf, P⟩ => by
  refine ⟨_, pi_enum hg hm ha hs, ?_⟩
  rcases srcN_ok hf with ⟨rs, ρ1, ds, xs, h1, h2, h3, rfl⟩ | ⟨q, ρ1, h1, rfl⟩
  · refine ⟨G, ρ, _, S, h1, fun vs G1 H1 e1 S1 R1 => ?_⟩
    have r := R1.settled h2
    unfold enumD at h3
    split at h3
    · cases h3
      obtain ⟨v, rfl, q, xs, ev, hp, r1⟩ := repl1 r
      exact ⟨q, xs, by rw [ev], SqL.of (S1.sub _ _ hp), P _ G1 H1 e1 S1 fun C' => jok_enum (SqL.of hp) r1⟩
    · cases h3
  · exact ⟨G, ρ, _, S, h1, P⟩
theorem pid_zip {p tpos : Pos} {elts : List Expr} {kk : Nat} (hg : Gl X "zip") (hm : X.mg "zip" = none) (ha : PAs X C W [a, b] (evs fs)) (hs : starEach [a, b] X.env = (false, eval a X.env) :: starEach [b] X.env := by rfl) (hs2 : (backTo pos (starEach [b] X.env)).any (·.1) = false := by rfl) : PId X C W (.Tuple elts kk tpos) (.Call (.Name "zip" p) [a, b] [] pos) (srcN zipD fs) := PI.by fun σ H R ⟨G, ρ, x, S, hf, P⟩ => by
  refine ⟨_, pi_zipA hg hm ha hs hs2, ?_⟩
  rcases srcN_ok hf with ⟨rs, ρ1, ds, xs, h1, h2, h3, rfl⟩ | ⟨q, ρ1, h1, rfl⟩
  · refine ⟨G, ρ, _, S, h1, fun vs G1 H1 e1 S1 R1 => ?_⟩
    have r := R1.settled h2
    unfold zipD at h3
    split at h3
    · cases h3
      obtain ⟨v, v', rfl, ⟨q, xs, ev, hp, r1⟩, q', ys, ev', hp', r2⟩ := repl2 r
      exact ⟨q, q', xs, ys, by rw [ev, ev'], .inl ⟨SqL.of (S1.sub _ _ hp), SqL.of (S1.sub _ _ hp'), P _ G1 H1 e1 S1 fun C' => jok_zip (SqL.of hp) r1 (SqL.of hp') r2⟩⟩
    · cases h3
      obtain ⟨v, v', rfl, ⟨q, xs, ev, hp, r1⟩, q', ys, ev', hp', r2⟩ := repl2 r
      exact ⟨q, q', xs, ys, by rw [ev, ev'], .inr ⟨same_t S1.sub hp, same_t S1.sub hp', P _ G1 H1 e1 S1 fun C' => jok_zipT hp r1 hp' r2⟩⟩
    · cases h3
  · exact ⟨G, ρ, _, S, h1, P⟩
/-! ### list(range(..)) -/
def lrD (k : List D → Option (List D)) (ds : List D) : Option R := match k ds with
  | some xs => if szOk xs.length then some (.n (.lst xs)) else none
  | none => none
end
end DL
set_option Elab.async false
set_option linter.all false
set_option maxRecDepth 100000
set_option maxHeartbeats 4000000
namespace DL
open PySem PySem.Spec PyProof.Rows L2

/-! ### calls of one's own defs -/
def argSl : List R → Nat → List (Option Slot)
  | [], _ => []
  | .v d :: rs, k => some (.val d) :: argSl rs k
  | .s _ :: rs, k => some (.par k) :: argSl rs (k + 1)
  | .n _ :: rs, k => none :: argSl rs k
def argIx : List R → List Nat
  | [] => []
  | .s i :: rs => i :: argIx rs
  | _ :: rs => argIx rs
def EV.objs (ρ : EV) : List Nat → Option (List D)
  | [] => some []
  | i :: is => match ρ.obj i with
    | some d => (match ρ.objs is with
      | some ds => some (d :: ds)
      | none => none)
    | none => none
def EV.key (ρ : EV) (i : Nat) : Nat × Nat := match ρ.sl[i]? with
  | some (some (.par k)) => (1, k)
  | _ => (0, i)
def EV.puts (ρ : EV) : List Nat → List D → EV
  | i :: is, d :: ds => (ρ.put i d).puts is ds
  | _, _ => ρ
def callR (fb : F) (N : Nat) (rs : List R) : M R := fun ρ => match ρ.objs (argIx rs) with
  | some ds => if ((argIx rs).map ρ.key).Nodup then (match fb ⟨argSl rs 0 ++ List.replicate (N - rs.length) none, ds⟩ with
    | some (.ret (.v d) ρ') => some (.ok (.v d) (ρ.puts (argIx rs) ρ'.ps))
    | some (.ret (.n d) ρ') => some (.ok (.n d) (ρ.puts (argIx rs) ρ'.ps))
    | some (.nx ρ') => some (.ok (.v .non) (ρ.puts (argIx rs) ρ'.ps))
    | some (.ex e ρ') => some (.ex e (ρ.puts (argIx rs) ρ'.ps))
    | _ => none) else none
  | none => none
def fCall (fb : F) (N : Nat) (fs : List (M R)) : M R := (evs fs).bind (callR fb N)
/-- a def's promise: its body's reading -/
def spD (K : PySem.W.Frag) (ps N : List Str) (fb : F) : Sp := fun vs H Q E => vs.length = ps.length ∧ ∃ G A0,
  tS K ⟨H, G, A0, 0⟩ (fun c d _ H' => E c d H') fb { nx := fun _ H' => Q .non H', rt := Q } (L2.start N vs) H
section
variable {K : PySem.W.Frag} {C : Ctl} {G G' H H' : Hp} {σ : L2.St} {ρ : EV}
theorem put_other {i j : Nat} {d x : D} (h : ρ.obj j = some x) : ∃ y, (ρ.put i d).obj j = some y := by
  unfold EV.put
  cases e : ρ.sl[i]? with
  | none => exact ⟨x, h⟩
  | some so =>
    cases so with
    | none => exact ⟨x, h⟩
    | some s =>
      cases s with
      | val y => exact ⟨x, h⟩
      | xn => exact ⟨x, h⟩
      | own y =>
        by_cases hj : i = j
        · subst hj
          have hl : i < ρ.sl.length := (List.getElem?_eq_some_iff.mp e).1
          exact ⟨d, by simp [EV.obj, EV.set, List.getElem?_set_self hl]⟩
        · refine ⟨x, ?_⟩
          unfold EV.obj at h ⊢
          simp only [EV.set, List.getElem?_set_ne hj]
          exact h
      | par k =>
        unfold EV.obj at h ⊢
        show ∃ y, (match ρ.sl[j]? with
          | some (some (.own d)) => some d
          | some (some (.par k')) => (ρ.ps.set k d)[k']?
          | _ => none) = some y
        cases e2 : ρ.sl[j]? with
        | none => rw [e2] at h; cases h
        | some so2 =>
          rw [e2] at h
          cases so2 with
          | none => cases h
          | some s2 =>
            cases s2 with
            | val y => cases h
            | xn => cases h
            | own y => exact ⟨_, rfl⟩
            | par k' =>
              have h' : ρ.ps[k']? = some x := h
              have hl : k' < ρ.ps.length := (List.getElem?_eq_some_iff.mp h').1
              show ∃ y, (ρ.ps.set k d)[k']? = some y
              exact ⟨_, List.getElem?_eq_getElem (by simpa using hl)⟩
/-- the objects of several slots are written -/
theorem Sta.writes (hG : Same G G) : ∀ {is : List Nat} {as : List Addr} {ds : List D} {Hx : Hp} {ρ : EV}, Sta K C G Hx σ ρ → is.length = as.length → as.length = ds.length →
    (∀ (k i : Nat) a, is[k]? = some i → as[k]? = some a → σ[i]? = some (some (.ref a)) ∧ ∃ x, ρ.obj i = some x) → (∀ (k : Nat) a d, as[k]? = some a → ds[k]? = some d → View K G H' d a) →
    Sta K C G (fun b => if b ∈ as then H' b else Hx b) σ (ρ.puts is ds) := by
  intro is
  induction is with
  | nil =>
    intro as ds Hx ρ S l1 l2 h w
    have e : as = [] := List.eq_nil_of_length_eq_zero l1.symm
    subst e
    have e2 : (fun b => if b ∈ ([] : List Addr) then H' b else Hx b) = Hx := by funext b; simp
    rw [e2]
    exact S
  | cons i is ih =>
    intro as ds Hx ρ S l1 l2 h w
    cases as with
    | nil => cases l1
    | cons a as =>
      cases ds with
      | nil => cases l2
      | cons d ds =>
        obtain ⟨hv, x, hx⟩ := h 0 i a rfl rfl
        have wa := w 0 a d rfl rfl
        obtain ⟨o, ho⟩ := wa.there
        have w2 : View K G (upd Hx a o) d a := wa.mono (Same.refl _) (by rw [upd_same, ho])
        have S1 := S.write hx hv w2
        have S2 := ih (as := as) (ds := ds) S1 (by simpa using l1) (by simpa using l2) (fun k j b q1 q2 => by
          obtain ⟨q3, y, q4⟩ := h (k + 1) j b (by simpa using q1) (by simpa using q2)
          exact ⟨q3, put_other q4⟩) (fun k b e q1 q2 => w (k + 1) b e (by simpa using q1) (by simpa using q2))
        have e2 : (fun b => if b ∈ as then H' b else upd Hx a o b) = fun b => if b ∈ a :: as then H' b else Hx b := by
          funext b
          by_cases hb : b ∈ as
          · simp [hb]
          · by_cases hba : b = a
            · subst hba; simp [hb, upd_same, ho]
            · simp [hb, hba, upd_ne hba]
        rw [e2] at S2
        exact S2
theorem obj_slot {i : Nat} {d : D} (S : Sta K C G H σ ρ) (h : ρ.obj i = some d) : ∃ a, σ[i]? = some (some (.ref a)) ∧ G a = none ∧ View K G H d a := by
  have h0 := h
  unfold EV.obj at h
  cases e : ρ.sl[i]? with
  | none => rw [e] at h; cases h
  | some so =>
    cases so with
    | none => rw [e] at h; cases h
    | some s =>
      obtain ⟨v, hv, _⟩ := S.slot i s e
      obtain ⟨a, rfl, g, w⟩ := S.objAt h0 hv
      exact ⟨a, hv, g, w⟩
/-- two slots of one object have one key -/
theorem key_inj {i j : Nat} {a : Addr} {d e : D} (S : Sta K C G H σ ρ) (h1 : ρ.obj i = some d) (h2 : ρ.obj j = some e) (v1 : σ[i]? = some (some (.ref a))) (v2 : σ[j]? = some (some (.ref a))) : ρ.key i = ρ.key j := by
  unfold EV.obj at h1 h2
  unfold EV.key
  cases e1 : ρ.sl[i]? with
  | none => rw [e1] at h1; cases h1
  | some so =>
    cases so with
    | none => rw [e1] at h1; cases h1
    | some s =>
      cases e2 : ρ.sl[j]? with
      | none => rw [e2] at h2; cases h2
      | some so2 =>
        cases so2 with
        | none => rw [e2] at h2; cases h2
        | some s2 =>
          obtain ⟨u1, q1, k1⟩ := S.slot i s e1
          obtain ⟨u2, q2, k2⟩ := S.slot j s2 e2
          rw [v1] at q1; cases q1
          rw [v2] at q2; cases q2
          cases s with
          | val x => rw [e1] at h1; cases h1
          | xn => rw [e1] at h1; cases h1
          | own x =>
            cases s2 with
            | val y => rw [e2] at h2; cases h2
            | xn => rw [e2] at h2; cases h2
            | own y =>
              have := S.dist i j x y _ e1 e2 v1 v2
              subst this
              rfl
            | par k =>
              obtain ⟨a1, z1, _, z2, _⟩ := k1
              obtain ⟨a2, z3, z4⟩ := k2
              cases z1; cases z3
              obtain ⟨o, z5⟩ := S.pin a (List.mem_of_getElem? z4)
              rw [z2] at z5; cases z5
          | par k =>
            obtain ⟨a2, z3, z4⟩ := k1
            cases z3
            cases s2 with
            | val y => rw [e2] at h2; cases h2
            | xn => rw [e2] at h2; cases h2
            | own y =>
              obtain ⟨a1, z1, _, z2, _⟩ := k2
              cases z1
              obtain ⟨o, z5⟩ := S.pin a (List.mem_of_getElem? z4)
              rw [z2] at z5; cases z5
            | par k' =>
              obtain ⟨a1, z1, z6⟩ := k2
              cases z1
              obtain ⟨l1, m1⟩ := List.getElem?_eq_some_iff.mp z4
              obtain ⟨l2, m2⟩ := List.getElem?_eq_some_iff.mp z6
              have : k = k' := (List.getElem_inj S.pnd).mp (m1.trans m2.symm)
              subst this
              rfl
/-- the addresses of the objects that are handed on -/
theorem objs_as (S : Sta K C G H σ ρ) : ∀ {is : List Nat} {ds : List D}, ρ.objs is = some ds → ∃ as : List Addr, is.length = as.length ∧ as.length = ds.length ∧
    ∀ (k i : Nat) a d, is[k]? = some i → as[k]? = some a → ds[k]? = some d → σ[i]? = some (some (.ref a)) ∧ ρ.obj i = some d ∧ G a = none ∧ View K G H d a := by
  intro is
  induction is with
  | nil => intro ds h; cases h; exact ⟨[], rfl, rfl, fun k i a d q => by simp at q⟩
  | cons i is ih =>
    intro ds h
    unfold EV.objs at h
    cases e1 : ρ.obj i with
    | none => rw [e1] at h; cases h
    | some d =>
      rw [e1] at h
      cases e2 : ρ.objs is with
      | none => simp only [e2] at h; cases h
      | some ds1 =>
        simp only [e2] at h
        cases h
        obtain ⟨as, l1, l2, q⟩ := ih e2
        obtain ⟨a, hv, g, w⟩ := obj_slot S e1
        refine ⟨a :: as, by simp [l1], by simp [l2], fun k j b x h1 h2 h3 => ?_⟩
        cases k with
        | zero => simp at h1 h2 h3; subst h1 h2 h3; exact ⟨hv, e1, g, w⟩
        | succ k => exact q k j b x (by simpa using h1) (by simpa using h2) (by simpa using h3)
theorem argSl_len : ∀ (rs : List R) (k : Nat), (argSl rs k).length = rs.length
  | [], _ => rfl
  | .v _ :: rs, k => by simp [argSl, argSl_len rs k]
  | .s _ :: rs, k => by simp [argSl, argSl_len rs (k + 1)]
  | .n _ :: rs, k => by simp [argSl, argSl_len rs k]
/-- the slots of the arguments -/
theorem argSl_ok (S : Sta K C G H σ ρ) : ∀ {rs : List R} {vs : List V} (k : Nat), RepRs K C G H σ ρ rs vs → ∀ (as : List Addr), (∀ (m i : Nat) a, (argIx rs)[m]? = some i → as[k + m]? = some a → σ[i]? = some (some (.ref a))) → k + (argIx rs).length = as.length →
    ∀ (j : Nat) s, (argSl rs k)[j]? = some (some s) → ∃ v, vs[j]? = some v ∧ ((∃ d, s = .val d ∧ Rep K G d v) ∨ ∃ n a, s = .par n ∧ v = .ref a ∧ as[n]? = some a) := by
  intro rs
  induction rs with
  | nil => intro vs k h as ha hl j s e; simp [argSl] at e
  | cons r rs ih =>
    intro vs k h as ha hl j s e
    cases h with
    | cons n h1 h2 =>
      rename_i v vs'
      cases r with
      | v d =>
        cases j with
        | zero => simp [argSl] at e; subst e; exact ⟨v, rfl, .inl ⟨d, rfl, h1⟩⟩
        | succ j =>
          obtain ⟨u, q⟩ := ih k h2 as ha hl j s (by simpa [argSl] using e)
          exact ⟨u, by simpa using q.1, q.2⟩
      | s i =>
        cases j with
        | zero =>
          simp [argSl] at e
          subst e
          have hk : k < as.length := by simp [argIx] at hl; omega
          have := ha 0 i as[k] (by simp [argIx]) (by simp [List.getElem?_eq_getElem hk])
          have h1' : σ[i]? = some (some v) := h1
          rw [h1'] at this
          cases this
          exact ⟨_, rfl, .inr ⟨k, as[k], rfl, rfl, List.getElem?_eq_getElem hk⟩⟩
        | succ j =>
          obtain ⟨u, q⟩ := ih (k + 1) h2 as (fun m i' a q1 q2 => ha (m + 1) i' a (by simpa [argIx] using q1) (by rw [← q2]; congr 1; omega)) (by simp [argIx] at hl; omega) j s (by simpa [argSl] using e)
          exact ⟨u, by simpa using q.1, q.2⟩
      | n d => exact absurd rfl (n d)
theorem nodup_of_keys (S : Sta K C G H σ ρ) {is : List Nat} {ds : List D} {as : List Addr} (l1 : is.length = as.length) (l2 : as.length = ds.length)
    (q : ∀ (k i : Nat) a d, is[k]? = some i → as[k]? = some a → ds[k]? = some d → σ[i]? = some (some (.ref a)) ∧ ρ.obj i = some d ∧ G a = none ∧ View K G H d a) (hn : (is.map ρ.key).Nodup) : as.Nodup := by
  show List.Pairwise (· ≠ ·) as
  rw [List.pairwise_iff_getElem]
  intro i j hi hj hij e
  have ei : as[i]? = some as[i] := List.getElem?_eq_getElem hi
  have ej : as[j]? = some as[i] := by rw [e]; exact List.getElem?_eq_getElem hj
  have hi2 : i < is.length := by omega
  have hj2 : j < is.length := by omega
  have hi3 : i < ds.length := by omega
  have hj3 : j < ds.length := by omega
  obtain ⟨v1, o1, _, _⟩ := q i is[i] as[i] ds[i] (List.getElem?_eq_getElem hi2) ei (List.getElem?_eq_getElem hi3)
  obtain ⟨v2, o2, _, _⟩ := q j is[j] as[i] ds[j] (List.getElem?_eq_getElem hj2) ej (List.getElem?_eq_getElem hj3)
  have := key_inj S o1 o2 v1 v2
  have hn' : List.Pairwise (· ≠ ·) (is.map ρ.key) := hn
  rw [List.pairwise_iff_getElem] at hn'
  refine hn' i j (by simpa using hi2) (by simpa using hj2) hij ?_
  rw [List.getElem_map, List.getElem_map, this]
theorem RepRs.len {rs : List R} {vs : List V} (h : RepRs K C G H σ ρ rs vs) : vs.length = rs.length := by
  induction h with
  | nil => rfl
  | cons _ _ _ ih => simp [ih]
theorem put_own {i j : Nat} {d x : D} (h : (ρ.put i d).sl[j]? = some (some (.own x))) : ∃ y, ρ.sl[j]? = some (some (.own y)) := by
  unfold EV.put at h
  cases e : ρ.sl[i]? with
  | none => rw [e] at h; exact ⟨x, h⟩
  | some so =>
    rw [e] at h
    cases so with
    | none => exact ⟨x, h⟩
    | some s =>
      cases s with
      | val y => exact ⟨x, h⟩
      | own y =>
        by_cases hj : i = j
        · subst hj; exact ⟨y, e⟩
        · simp only [EV.set, List.getElem?_set_ne hj] at h
          exact ⟨x, h⟩
      | par k => exact ⟨x, h⟩
      | xn => exact ⟨x, h⟩
theorem puts_own : ∀ {is : List Nat} {ds : List D} {ρ : EV} {j : Nat} {x : D}, (ρ.puts is ds).sl[j]? = some (some (.own x)) → ∃ y, ρ.sl[j]? = some (some (.own y))
  | [], _, _, _, x, h => ⟨x, h⟩
  | _ :: _, [], _, _, x, h => ⟨x, h⟩
  | i :: is, d :: ds, ρ, j, x, h => by
    obtain ⟨y, hy⟩ := puts_own (is := is) (ds := ds) (ρ := ρ.put i d) h
    exact put_own hy
end
section
variable {X : Cx} {C : Ctl} {W : WX} {e a b c o tg : Expr} {es rest : List Expr} {pos : Pos} {f g h : M R} {fs : List (M R)}
theorem call_go {K : PySem.W.Frag} {ps N : List Str} {fb : F} {σ : L2.St} {H : Hp} {G : Hp} {ρ : EV} {rs : List R} {vs : List V} {x : XR R} {Q : VK} (S : Sta K C G H σ ρ) (R1 : RepRs K C G H σ ρ rs vs) (hf : callR fb N.length rs ρ = some x)
    (P : XPost K C W G σ x Q) (hl : rs.length = ps.length) (hN : ps.length ≤ N.length) : spD K ps N fb vs H Q (WE W σ) := by
  have lv : vs.length = rs.length := R1.len
  unfold callR at hf
  cases e1 : ρ.objs (argIx rs) with
  | none => rw [e1] at hf; cases hf
  | some ds =>
    rw [e1] at hf
    by_cases hn : ((argIx rs).map ρ.key).Nodup
    · simp only [if_pos hn] at hf
      obtain ⟨as, l1, l2, q⟩ := objs_as S e1
      have nd := nodup_of_keys S l1 l2 q hn
      have at_ : ∀ a, a ∈ as → ∃ (k : Nat) (i : Nat) (d : D), (argIx rs)[k]? = some i ∧ as[k]? = some a ∧ ds[k]? = some d ∧ σ[i]? = some (some (.ref a)) ∧ ρ.obj i = some d ∧ G a = none ∧ View K G H d a := fun a ha => by
        obtain ⟨k, hk, ek⟩ := List.getElem_of_mem ha
        have h1 : k < (argIx rs).length := by omega
        have h2 : k < ds.length := by omega
        have h3 : as[k]? = some a := by rw [List.getElem?_eq_getElem hk, ek]
        exact ⟨k, _, _, List.getElem?_eq_getElem h1, h3, List.getElem?_eq_getElem h2, q k _ a _ (List.getElem?_eq_getElem h1) h3 (List.getElem?_eq_getElem h2)⟩
      -- the callee's entry
      have S0 : Sta K ⟨H, G, as, 0⟩ G H (L2.start N vs) ⟨argSl rs 0 ++ List.replicate (N.length - rs.length) none, ds⟩ := by
        refine ⟨S.sub, Same.refl _, fun a o e => .inl e, fun b o e _ => e, ?_, fun j s e => ?_, fun i j d x v h1 _ _ _ => ?_, l2.symm, fun k a d h1 h2 => ?_, nd, fun a ha => ?_⟩
        · simp [L2.start, argSl_len, lv]
        · have hj : j < (argSl rs 0).length := by
            by_cases hj : j < (argSl rs 0).length
            · exact hj
            · exfalso
              rw [List.getElem?_append_right (by omega)] at e
              obtain ⟨h1, h2⟩ := List.getElem?_eq_some_iff.mp e
              simp at h2
          rw [List.getElem?_append_left hj] at e
          obtain ⟨v, hv, z⟩ := argSl_ok S 0 R1 as (fun m i a q1 q2 => by
            rw [Nat.zero_add] at q2
            have h2 : m < ds.length := by
              have := (List.getElem?_eq_some_iff.mp q2).1
              omega
            exact (q m i a _ q1 q2 (List.getElem?_eq_getElem h2)).1) (by omega) j s e
          have hjv : j < vs.length := (List.getElem?_eq_some_iff.mp hv).1
          refine ⟨v, ?_, ?_⟩
          · show (vs.map some ++ List.replicate (N.length - vs.length) none)[j]? = some (some v)
            rw [List.getElem?_append_left (by simpa using hjv), List.getElem?_map, hv]
            rfl
          · rcases z with ⟨d, rfl, r⟩ | ⟨n, a, rfl, rfl, hn⟩
            · exact r
            · exact ⟨a, rfl, hn⟩
        · exfalso
          have hi : i < (argSl rs 0).length := by
            by_cases hi : i < (argSl rs 0).length
            · exact hi
            · exfalso
              rw [List.getElem?_append_right (by omega)] at h1
              obtain ⟨h1, h2⟩ := List.getElem?_eq_some_iff.mp h1
              simp at h2
          rw [List.getElem?_append_left hi] at h1
          obtain ⟨v, hv, z⟩ := argSl_ok S 0 R1 as (fun m i a q1 q2 => by
            rw [Nat.zero_add] at q2
            have h2 : m < ds.length := by
              have := (List.getElem?_eq_some_iff.mp q2).1
              omega
            exact (q m i a _ q1 q2 (List.getElem?_eq_getElem h2)).1) (by omega) i _ h1
          rcases z with ⟨d, z, _⟩ | ⟨n, a, z, _⟩ <;> cases z
        · obtain ⟨k', i, d', q1, q2, q3, q4, q5, q6, q7⟩ := at_ a (List.mem_of_getElem? h1)
          have ek : k' = k := by
            obtain ⟨m1, m2⟩ := List.getElem?_eq_some_iff.mp q2
            obtain ⟨m3, m4⟩ := List.getElem?_eq_some_iff.mp h1
            exact (List.getElem_inj nd).mp (m2.trans m4.symm)
          subst ek
          rw [q3] at h2
          cases h2
          exact ⟨q6, q7⟩
        · obtain ⟨k', i, d', q1, q2, q3, q4, q5, q6, q7⟩ := at_ a ha
          exact q7.there
      -- the way back
      have back : ∀ {G' H' : Hp} {σ' : L2.St} {ρ' : EV}, Sta K ⟨H, G, as, 0⟩ G' H' σ' ρ' → Same G G' ∧ Sta K C G' H' σ (ρ.puts (argIx rs) ρ'.ps) := fun {G' H' σ' ρ'} S' => by
        have old : Same G G' := S'.old
        refine ⟨old, ?_⟩
        have hne : ∀ b o, H b = some o → b ∉ as → H' b = some o := S'.base
        have mid : Sta K C G' (fun b => if b ∈ as then H b else H' b) σ ρ := by
          refine S.turn (fun b o e => ?_) old (fun a o e => ?_) (fun b o e _ _ => ?_) (fun i d a e1 e2 => ?_) (fun a ha => ?_)
          · by_cases hb : b ∈ as
            · exfalso
              have := (S'.parAt (a := b) hb).1
              rw [e] at this; cases this
            · simp only [if_neg hb]; exact S'.sub b o e
          · rcases S'.new a o e with z | z
            · exact .inl z
            · exact .inr (S.free z).1
          · by_cases hb : b ∈ as
            · simp only [if_pos hb]; exact e
            · simp only [if_neg hb]; exact hne b o e hb
          · obtain ⟨v, h1, a', rfl, g, h0, w⟩ := S.slot i _ e1
            rw [e2] at h1; cases h1
            obtain ⟨o, ho⟩ := w.there
            refine ⟨?_, ?_⟩
            · cases z : G' a with
              | none => rfl
              | some o' =>
                rcases S'.new a o' z with y | y
                · rw [show G a = some o' from y] at g; cases g
                · rw [show H a = none from y] at ho; cases ho
            · by_cases hb : a ∈ as
              · simp only [if_pos hb]
              · simp only [if_neg hb]; rw [hne a o ho hb, ho]
          · obtain ⟨g, d, w⟩ := S.parAt ha
            obtain ⟨o, ho⟩ := w.there
            refine ⟨?_, ?_⟩
            · cases z : G' a with
              | none => rfl
              | some o' =>
                rcases S'.new a o' z with y | y
                · rw [show G a = some o' from y] at g; cases g
                · rw [show H a = none from y] at ho; cases ho
            · by_cases hb : a ∈ as
              · simp only [if_pos hb]
              · simp only [if_neg hb]; rw [hne a o ho hb, ho]
        have fin := Sta.writes (H' := H') (Same.refl _) (is := argIx rs) (as := as) (ds := ρ'.ps) mid l1 S'.plen.symm (fun k i a q1 q2 => by
          have h2 : k < ds.length := by
            have := (List.getElem?_eq_some_iff.mp q2).1
            omega
          obtain ⟨z1, z2, _⟩ := q k i a _ q1 q2 (List.getElem?_eq_getElem h2)
          exact ⟨z1, _, z2⟩) (fun k a d q1 q2 => (S'.par k a d q1 q2).2)
        have eH : (fun b => if b ∈ as then H' b else (fun b => if b ∈ as then H b else H' b) b) = H' := by
          funext b
          by_cases hb : b ∈ as
          · simp [hb]
          · simp [hb]
        rw [eH] at fin
        exact fin
      refine ⟨by omega, G, as, G, ⟨argSl rs 0 ++ List.replicate (N.length - rs.length) none, ds⟩, ?_⟩
      cases e2 : fb ⟨argSl rs 0 ++ List.replicate (N.length - rs.length) none, ds⟩ with
      | none => rw [e2] at hf; cases hf
      | some y =>
        rw [e2] at hf
        refine ⟨y, S0, rfl, ?_⟩
        cases y with
        | nx ρ' =>
          cases hf
          intro σ' G' H' e' S'
          obtain ⟨o1, S2⟩ := back S'
          exact P .non G' H' o1 S2 rfl
        | ret r ρ' =>
          cases r with
          | v d =>
            cases hf
            intro v σ' G' H' e' S' R'
            obtain ⟨o1, S2⟩ := back S'
            exact P v G' H' o1 S2 R'
          | n d =>
            cases hf
            intro v σ' G' H' e' S' R'
            obtain ⟨o1, S2⟩ := back S'
            obtain ⟨a, rfl, g, h0, w, _⟩ := R'
            refine P _ G' H' o1 S2 ⟨a, rfl, g, (S.free (show H a = none from h0)).1, w, fun i x h1 h2 => ?_⟩
            obtain ⟨y, hy⟩ := puts_own h1
            obtain ⟨v, h3, a', e4, g4, h04, w4⟩ := S.slot i _ hy
            rw [h2] at h3
            cases h3; cases e4
            obtain ⟨o, ho⟩ := w4.there
            rw [show H a = none from h0] at ho
            cases ho
          | s i => cases hf
        | ex r ρ' =>
          cases hf
          intro c d σ' G' H' e' S' R'
          obtain ⟨o1, S2⟩ := back S'
          exact P c d G' H' o1 S2 R'
        | bk ρ' => cases hf
        | ct ρ' => cases hf
    · simp only [if_neg hn] at hf; cases hf
theorem evs_len : ∀ {fs : List (M R)} {ρ ρ' : EV} {rs : List R}, evs fs ρ = some (.ok rs ρ') → rs.length = fs.length
  | [], ρ, ρ', rs, h => by cases h; rfl
  | f :: fs, ρ, ρ', rs, h => by
    rcases bind_ok h with ⟨r, ρ1, h1, h2⟩ | ⟨q, ρ1, h1, h2⟩
    · rcases bind_ok h2 with ⟨rs1, ρ2, h3, h4⟩ | ⟨q, ρ1, h3, h4⟩
      · cases h4
        rw [List.length_cons, List.length_cons, evs_len h3]
      · cases h4
    · cases h2
theorem pd_call {x : Str} {p : Pos} {k : Nat} {fA : Addr} {fd : FuncData} {ps N : List Str} {fb : F} (Fo : FnOk X.prog X.w X.K X.mg X.base (L2.CX X.prog X.w) k fA fd ps (spD X.K ps N fb)) (hr : Room k X.A) (hg : Gl X x) (hm : X.mg x = some (.ref fA))
    (hk : PySem.W.keepIn X.K (.ref fA) = true) (hb : Binds X.K fd ps []) (tk : Takes X W) (ha : PAs X C W (e :: es) (evs fs)) (hl : fs.length = ps.length := by rfl) (hN : ps.length ≤ N.length := by decide)
    (hdb : (x == ("__debug__" : Str)) = false := by decide) (he : starEach (e :: es) X.env = (false, eval e X.env) :: starEach es X.env := by rfl) (hpl : (backTo pos (starEach es X.env)).any (·.1) = false := by rfl) :
    PD X C W (.Call (.Name x p) (e :: es) [] pos) (fCall fb N.length fs) := PE.of (pe_callS Fo hr hg hm hk hb (fun σ => passAt tk σ) ha hdb he hpl) fun σ H Q ⟨G, ρ, x, S, hf, P⟩ => by
  rcases bind_ok hf with ⟨rs, ρ1, h1, h2⟩ | ⟨q, ρ1, h1, rfl⟩
  · refine ⟨G, ρ, _, S, h1, fun vs G1 H1 e1 S1 R1 => call_go S1 R1 h2 ?_ (by rw [evs_len h1, hl]) hN⟩
    cases x with
    | ok r ρ' => exact fun v G' H' e S' R' => P v G' H' (e1.trans e) S' R'
    | ex e ρ' => exact fun c d G' H' e S' R' => P c d G' H' (e1.trans e) S' R'
  · exact ⟨G, ρ, _, S, h1, P⟩
end
section
variable {P : Program} {w : World} {K : PySem.W.Frag} {mg : Str → Option Value} {base : Heap}
/-- THE RULE for a def: its body as data -/
theorem fn_dl {x qual : Str} {st : Stmt} {f : Addr} {fd : FuncData} {N ps : List Str} {k : Nat} {fb : F} (F : Fun K x qual st f fd) (S : FnScope N ps (defScope st))
    (hb : ∀ (cdv : Value) (A : Around) (outer : List Env) (s : Shared) (H : Hp) (E : XK) (C : Ctl), Room k (A.deeper (envOfC qual (defScope st) s.heap.objs.size f cdv)) →
      PQs (cxOf (L2.CX P w) P w K mg base N qual (defScope st) f cdv A outer s H E) C (fun c d _ H' => E c d H') (defBody st) fb) : FnOk P w K mg base (L2.CX P w) (k + 1) f fd ps (spD K ps N fb) :=
  F.okX S (fun vs H Q E h => h.1) fun cdv A outer s H vs Q E hr ⟨_, G, A0, q⟩ => ⟨_, hb cdv A outer s H E ⟨H, G, A0, 0⟩ hr, q⟩
end
end DL
set_option Elab.async false
set_option linter.all false
set_option maxRecDepth 100000
set_option maxHeartbeats 4000000
namespace DL
open PySem PySem.Spec PyProof.Rows L2

/-! ### list comprehensions -/
def compL (vs : List Nat) (tg : Tg) (tt : M Bool) (el : M R) : List D → List D → M (List D)
  | [], acc => fun ρ => some (.ok acc ρ)
  | d :: ds, acc => fun ρ => match tg d ρ with
    | none => none
    | some ρ1 => (match tt ρ1 with
      | some (.ok true ρ2) => (match el ρ2 with
        | some (.ok (.v y) ρ3) => if szOk (acc.length + 1) then compL vs tg tt el ds (acc ++ [y]) (ρ3.kills vs) else none
        | _ => none)
      | some (.ok false ρ2) => compL vs tg tt el ds acc (ρ2.kills vs)
      | _ => none)
def fComp (src : M (List D)) (vs : List Nat) (tg : Tg) (tt : M Bool) (el : M R) : M R := src.bind fun ds => fun ρ => match compL vs tg tt el ds [] (ρ.kills vs) with
  | some (.ok acc ρ') => some (.ok (.n (.lst acc)) ρ')
  | _ => none
def mYes : M Bool := M.ret true
abbrev PTd (X : Cx) (C : Ctl) (W : WX) (ifs : List Expr) (f : M Bool) : Prop := PTs X ifs (tDT X.K C W f)
section
variable {K : PySem.W.Frag} {C : Ctl} {G G' H H' : Hp} {σ σ' : L2.St} {ρ : EV} {Da : Addr} {xs : List V}
/-- slots that nothing is known of may be anything -/
theorem Sta.resig (S : Sta K C G H σ ρ) (hl : σ'.length = σ.length) (h : ∀ (i : Nat) s, ρ.sl[i]? = some (some s) → σ'[i]? = σ[i]?) : Sta K C G H σ' ρ :=
  { S with
    len := by rw [hl, S.len]
    slot := fun i s e => by
      obtain ⟨v, h1, h2⟩ := S.slot i s e
      exact ⟨v, by rw [h i s e]; exact h1, h2⟩
    dist := fun i j d e v h1 h2 h3 h4 => S.dist i j d e v h1 h2 (by rw [← h i _ h1]; exact h3) (by rw [← h j _ h2]; exact h4) }
theorem kills_out : ∀ {vs : List Nat} {ρ : EV} {i : Nat} {s : Slot}, (ρ.kills vs).sl[i]? = some (some s) → i ∉ vs ∧ ρ.sl[i]? = some (some s)
  | [], ρ, i, s, h => ⟨by simp, h⟩
  | v :: vs, ρ, i, s, h => by
    obtain ⟨h1, h2⟩ := kills_out (vs := vs) (ρ := ρ.kill v) h
    by_cases hi : v = i
    · subst hi
      have hl : v < ρ.sl.length := by
        have := (List.getElem?_eq_some_iff.mp h2).1
        simpa [EV.kill] using this
      simp only [EV.kill, List.getElem?_set_self hl] at h2
      cases h2
    · simp only [EV.kill, List.getElem?_set_ne hi] at h2
      exact ⟨by simp only [List.mem_cons, not_or]; exact ⟨fun e => hi e.symm, h1⟩, h2⟩
theorem wipe_out' {σ : L2.St} {i : Nat} : ∀ {vs : List Nat}, i ∉ vs → (wipe σ vs)[i]? = σ[i]?
  | [], _ => rfl
  | v :: vs, h => by
    simp only [List.mem_cons, not_or] at h
    unfold wipe
    rw [List.getElem?_set_ne (fun e => h.1 e.symm)]
    exact wipe_out' h.2
theorem wipe_in {σ : L2.St} {i : Nat} : ∀ {vs : List Nat}, i ∈ vs → i < σ.length → (wipe σ vs)[i]? = some none
  | [], h, _ => by cases h
  | v :: vs, h, hl => by
    unfold wipe
    by_cases hi : v = i
    · subst hi
      rw [List.getElem?_set_self (by rw [wipe_length]; exact hl)]
    · rw [List.getElem?_set_ne hi]
      refine wipe_in ?_ hl
      rcases List.mem_cons.mp h with e | e
      · exact absurd e.symm hi
      · exact e
theorem wipe_same {vs : List Nat} (b : But vs (wipe σ vs) σ') : wipe σ' vs = wipe σ vs := by
  have l : σ'.length = σ.length := by rw [b.1, wipe_length]
  apply List.ext_getElem?
  intro i
  by_cases hi : i ∈ vs
  · by_cases hl : i < σ.length
    · rw [wipe_in hi (by omega), wipe_in hi hl]
    · rw [List.getElem?_eq_none (by rw [wipe_length]; omega), List.getElem?_eq_none (by rw [wipe_length]; omega)]
  · rw [wipe_out' hi, wipe_out' hi, b.2 i hi, wipe_out' hi]
/-- an object Da of ours (no slot's) is locked for a while -/
abbrev Ctl.lock (C : Ctl) (Da : Addr) (o : HO) : Ctl := ⟨upd C.H0 Da o, C.G0, C.A0, C.xa⟩
structure Loose (C : Ctl) (G H : Hp) (σ : L2.St) (ρ : EV) (Da : Addr) (xs : List V) : Prop where
  at_ : H Da = some (.lst xs)
  g : G Da = none
  h0 : C.H0 Da = none
  ns : ∀ (i : Nat) d, ρ.sl[i]? = some (some (.own d)) → σ[i]? ≠ some (some (.ref Da))
theorem Sta.lock (S : Sta K C G H σ ρ) (L : Loose C G H σ ρ Da xs) : Sta K (C.lock Da (.lst xs)) G H σ ρ :=
  { S with
    new := fun a o e => by
      have ne : a ≠ Da := fun z => by rw [z, L.g] at e; cases e
      rcases S.new a o e with h | h
      · exact .inl h
      · exact .inr (by show upd C.H0 Da _ a = none; rw [upd_ne ne]; exact h)
    base := fun b o e hA => by
      by_cases hb : b = Da
      · subst hb
        have e' : upd C.H0 b (.lst xs) b = some o := e
        rw [upd_same] at e'; cases e'
        exact L.at_
      · have e' : upd C.H0 Da (.lst xs) b = some o := e
        rw [upd_ne hb] at e'
        exact S.base b o e' hA
    slot := fun i s e => by
      obtain ⟨v, h1, h2⟩ := S.slot i s e
      refine ⟨v, h1, ?_⟩
      cases s with
      | val d => exact h2
      | own d =>
        obtain ⟨a, rfl, g, h0, w⟩ := h2
        have ne : a ≠ Da := fun z => by subst z; exact L.ns i d e h1
        exact ⟨a, rfl, g, by show upd C.H0 Da _ a = none; rw [upd_ne ne]; exact h0, w⟩
      | par k => exact h2
      | xn => exact h2
    pin := fun a ha => by
      obtain ⟨o, e⟩ := S.pin a ha
      have ne : a ≠ Da := fun z => by rw [z, L.h0] at e; cases e
      exact ⟨o, by show upd C.H0 Da _ a = some o; rw [upd_ne ne]; exact e⟩ }
theorem Sta.unlock (S : Sta K (C.lock Da (.lst xs)) G H σ ρ) (h0 : C.H0 Da = none) (g0 : C.G0 Da = none) (pin : ∀ a, a ∈ C.A0 → ∃ o, C.H0 a = some o) : Sta K C G H σ ρ ∧ Loose C G H σ ρ Da xs := by
  have nA : Da ∉ C.A0 := fun m => by obtain ⟨o, e⟩ := pin Da m; rw [h0] at e; cases e
  have gD : G Da = none := by
    cases e : G Da with
    | none => rfl
    | some o =>
      rcases S.new Da o e with z | z
      · rw [show C.G0 Da = some o from z] at g0; cases g0
      · have z' : upd C.H0 Da (.lst xs) Da = none := z
        rw [upd_same] at z'; cases z'
  have own : ∀ (i : Nat) d, ρ.sl[i]? = some (some (.own d)) → ∃ a, σ[i]? = some (some (.ref a)) ∧ a ≠ Da ∧ G a = none ∧ C.H0 a = none ∧ View K G H d a := fun i d e => by
    obtain ⟨v, h1, a, rfl, g, z, w⟩ := S.slot i _ e
    have ne : a ≠ Da := fun q => by
      subst q
      have z' : upd C.H0 a (.lst xs) a = none := z
      rw [upd_same] at z'; cases z'
    have z' : upd C.H0 Da (.lst xs) a = none := z
    rw [upd_ne ne] at z'
    exact ⟨a, h1, ne, g, z', w⟩
  refine ⟨{ S with
    new := fun a o e => by
      rcases S.new a o e with h | h
      · exact .inl h
      · have h' : upd C.H0 Da (.lst xs) a = none := h
        have ne : a ≠ Da := fun z => by subst z; rw [upd_same] at h'; cases h'
        rw [upd_ne ne] at h'
        exact .inr h'
    base := fun b o e hA => by
      have ne : b ≠ Da := fun z => by rw [z, h0] at e; cases e
      exact S.base b o (by show upd C.H0 Da _ b = some o; rw [upd_ne ne]; exact e) hA
    slot := fun i s e => by
      cases s with
      | own d =>
        obtain ⟨a, h1, ne, g, z, w⟩ := own i d e
        exact ⟨_, h1, a, rfl, g, z, w⟩
      | val d => exact S.slot i _ e
      | par k => exact S.slot i _ e
      | xn => exact S.slot i _ e
    pin := pin }, S.base Da _ (by show upd C.H0 Da _ Da = _; rw [upd_same]) nA, gD, h0, fun i d e q => ?_⟩
  obtain ⟨a, h1, ne, _⟩ := own i d e
  rw [h1] at q
  cases q
  exact ne rfl
end
section
variable {X : Cx} {C : Ctl} {W : WX} {e a b c o tg : Expr} {es rest : List Expr} {pos : Pos} {f g h : M R} {fs : List (M R)} {t : M Bool}
theorem ptd_nil : PTd X C W [] mYes := ⟨fun pins s σ H Q I ⟨G, ρ, x, S, hf, P⟩ => by
  cases hf
  exact pts_nil.run pins s σ H Q I (P G H (Same.refl _) S)⟩
theorem ptd_one (h : PB X C W c t) : PTd X C W [c] t := pts_one h
abbrev W0 : WX := fun _ _ _ _ => False
theorem lc_go {src : M (List D)} {vs sl : List Nat} {tgf : Tg} {el : M R} {tt : M Bool} {σ : L2.St} {H : Hp} {Q : VK} (q0 : tD X.K C W (fComp src vs tgf tt el) σ H Q) (hsl : ∀ i ∈ sl, i ∈ vs) :
    tLc (tId X.K C W src) (fun v σ H Q => ∃ C', tGd X.K C' tgf sl v σ H Q) (fun σ H Q => ∃ C', tDT X.K C' W0 tt σ H Q) (fun σ H Q => ∃ C', tD X.K C' W0 el σ H Q) vs σ H Q := by
  obtain ⟨G, ρ, x, S, hf, P⟩ := q0
  rcases bind_ok hf with ⟨ds, ρ1, h1, h2⟩ | ⟨q, ρ1, h1, rfl⟩
  · refine ⟨G, ρ, _, S, h1, fun J G1 H1 e1 S1 jk D hD => ?_⟩
    have h3 : ∃ acc ρ', compL vs tgf tt el ds [] (ρ1.kills vs) = some (.ok acc ρ') ∧ x = .ok (.n (.lst acc)) ρ' := by
      have h2' : (match compL vs tgf tt el ds [] (ρ1.kills vs) with
        | some (.ok acc ρ') => some (XR.ok (R.n (.lst acc)) ρ')
        | _ => none) = some x := h2
      split at h2'
      · rename_i acc ρ' hq
        exact ⟨acc, ρ', hq, (Option.some.inj h2').symm⟩
      · cases h2'
    obtain ⟨accF, ρF, h3, rfl⟩ := h3
    have fr := S1.free hD
    have g0D : C.G0 D = none := by
      cases z : C.G0 D with
      | none => rfl
      | some o => rw [S1.old D o z] at fr; exact absurd fr.2.1 (by simp)
    have S2 : Sta X.K C G1 (upd H1 D (.lst [])) σ (ρ1.kills vs) := (S1.lay hD _).kills vs
    have L2' : Loose C G1 (upd H1 D (.lst [])) σ (ρ1.kills vs) D [] := ⟨upd_same, fr.2.1, fr.1, fun i d q1 q2 => by
      obtain ⟨v, h4, a, e5, _, _, w⟩ := S1.slot i _ (kills_out q1).2
      rw [q2] at h4; cases h4; cases e5
      obtain ⟨u, hu⟩ := w.there
      rw [hD] at hu; cases hu⟩
    refine ⟨fun i m Hh => i ≤ ds.length ∧ m = ds.length - i ∧ ∃ G' ρ' acc xs, Same G1 G' ∧ Sta X.K C G' Hh σ ρ' ∧ Loose C G' Hh σ ρ' D xs ∧ RepL X.K G' acc xs ∧ (∀ (j : Nat) s, ρ'.sl[j]? = some (some s) → j ∉ vs) ∧ compL vs tgf tt el (ds.drop i) acc ρ' = some (.ok accF ρF),
      ⟨ds.length, Nat.zero_le _, rfl, G1, ρ1.kills vs, [], [], Same.refl _, S2, L2', RepL.nil, fun j s hj => (kills_out hj).1, h3⟩, ?_⟩
    rintro i m Hh ⟨hi, rfl, G', ρ', acc, xs, e', S', L', r', nv, hx⟩
    by_cases hlt : i < ds.length
    · -- a turn
      have SL : Sta X.K (C.lock D (.lst xs)) G' Hh σ ρ' := S'.lock L'
      obtain ⟨j1, j2⟩ := jk (C.lock D (.lst xs)) i G' Hh σ ρ' e' SL
      obtain ⟨go, jy⟩ := j2 ds[i] (List.getElem?_eq_getElem hlt)
      have hd : ds.drop i = ds[i] :: ds.drop (i + 1) := List.drop_eq_getElem_cons hlt
      rw [hd] at hx
      refine .inr ⟨go, fun Hh2 => ∃ G2 ρ2 acc2 xs2, Same G1 G2 ∧ Sta X.K C G2 Hh2 σ ρ2 ∧ Loose C G2 Hh2 σ ρ2 D xs2 ∧ RepL X.K G2 acc2 xs2 ∧ (∀ (j : Nat) s, ρ2.sl[j]? = some (some s) → j ∉ vs) ∧ compL vs tgf tt el (ds.drop (i + 1)) acc2 ρ2 = some (.ok accF ρF),
        fun Hh2 z => ⟨ds.length - (i + 1), by omega, hlt, rfl, z⟩, fun v H3 y => ?_⟩
      obtain ⟨G3, e3, S3, R3⟩ := jy v H3 y
      unfold compL at hx
      cases e4 : tgf ds[i] ρ' with
      | none => rw [e4] at hx; cases hx
      | some ρ4 =>
        rw [e4] at hx
        have S3w : Sta X.K (C.lock D (.lst xs)) G3 H3 (wipe σ vs) ρ' := S3.resig (wipe_length _ _) fun j s hj => wipe_out' (nv j s hj)
        refine ⟨C.lock D (.lst xs), G3, ρ', ds[i], ρ4, S3w, R3, e4, fun σ4 G4 H4 e5 S4 b4 => ?_⟩
        have b4' : But vs (wipe σ vs) σ4 := b4.mono hsl
        refine ⟨wipe_same b4', ?_⟩
        have hx' : (match tt ρ4 with
          | some (.ok true ρ2) => (match el ρ2 with
            | some (.ok (.v y) ρ3) => if szOk (acc.length + 1) then compL vs tgf tt el (ds.drop (i + 1)) (acc ++ [y]) (ρ3.kills vs) else none
            | _ => none)
          | some (.ok false ρ2) => compL vs tgf tt el (ds.drop (i + 1)) acc (ρ2.kills vs)
          | _ => none) = some (.ok accF ρF) := hx
        -- back to the slots ahead of the turn
        have home : ∀ {G5 H5 ρ5}, Sta X.K (C.lock D (.lst xs)) G5 H5 σ4 ρ5 → Sta X.K C G5 H5 σ (ρ5.kills vs) ∧ Loose C G5 H5 σ (ρ5.kills vs) D xs := fun {G5 H5 ρ5} S5 => by
          have S6 : Sta X.K (C.lock D (.lst xs)) G5 H5 σ (ρ5.kills vs) := (S5.kills vs).resig (by rw [b4'.1, wipe_length]) fun j s hj => by
            have nj := (kills_out hj).1
            rw [b4'.2 j nj, wipe_out' nj]
          exact S6.unlock fr.1 g0D S'.pin
        cases e6 : tt ρ4 with
        | none => rw [e6] at hx'; cases hx'
        | some y6 =>
          rw [e6] at hx'
          cases y6 with
          | ex r ρ5 => cases hx'
          | ok bb ρ5 =>
            refine ⟨C.lock D (.lst xs), G4, ρ4, _, S4, e6, fun G5 H5 e7 S5 => ?_⟩
            have e15 : Same G1 G5 := ((e'.trans e3).trans e5).trans e7
            cases bb with
            | false =>
              obtain ⟨S6, L6⟩ := home S5
              refine iteF ?_
              exact ⟨G5, _, acc, xs, e15, S6, L6, r'.mono ((e3.trans e5).trans e7), fun j s hj => (kills_out hj).1, hx'⟩
            | true =>
              refine iteT ?_
              have hx2 : (match el ρ5 with
                | some (.ok (.v y) ρ3) => if szOk (acc.length + 1) then compL vs tgf tt el (ds.drop (i + 1)) (acc ++ [y]) (ρ3.kills vs) else none
                | _ => none) = some (.ok accF ρF) := hx'
              cases e8 : el ρ5 with
              | none => rw [e8] at hx2; cases hx2
              | some y8 =>
                rw [e8] at hx2
                cases y8 with
                | ex r ρ6 => cases hx2
                | ok r ρ6 =>
                  cases r with
                  | v y =>
                    have hx3 : (if szOk (acc.length + 1) then compL vs tgf tt el (ds.drop (i + 1)) (acc ++ [y]) (ρ6.kills vs) else none) = some (.ok accF ρF) := hx2
                    by_cases hz : szOk (acc.length + 1)
                    · rw [if_pos hz] at hx3
                      refine ⟨C.lock D (.lst xs), G5, ρ5, _, S5, e8, fun u G6 H6 e9 S6 R6 => ?_⟩
                      obtain ⟨S7, L7⟩ := home S6
                      have r6 : RepL X.K G6 acc xs := r'.mono (((e3.trans e5).trans e7).trans e9)
                      have hz2 := hz.line
                      rw [r6.length] at hz2
                      refine ⟨xs, L7.at_, hz2, G6, _, acc ++ [y], xs ++ [u], e15.trans e9, ?_, ?_, r6.append (RepL.cons R6 RepL.nil), fun j s hj => (kills_out hj).1, hx3⟩
                      · -- the list at D is written
                        refine S7.turn (fun b o q => ?_) (Same.refl _) (fun a o q => .inl q) (fun b o q _ _ => ?_) (fun j d a q1 q2 => ?_) (fun a ha => ?_)
                        · rw [upd_ne (fun z => by rw [z, L7.g] at q; cases q)]; exact S7.sub b o q
                        · rename_i q1 q2
                          obtain ⟨o', q1⟩ := q1
                          rw [upd_ne (fun z => by rw [z, L7.h0] at q1; cases q1)]; exact q
                        · obtain ⟨v7, h7, a7, e77, g7, _, w7⟩ := S7.slot j _ q1
                          rw [q2] at h7; cases h7; cases e77
                          exact ⟨g7, upd_ne (fun z => by subst z; exact L7.ns j d q1 q2)⟩
                        · refine ⟨(S7.parAt ha).1, upd_ne (fun z => by
                            obtain ⟨o', q1⟩ := S7.pin a ha
                            rw [z, L7.h0] at q1; cases q1)⟩
                      · exact ⟨upd_same, L7.g, L7.h0, L7.ns⟩
                    · rw [if_neg hz] at hx3; cases hx3
                  | _ => cases hx2
    · have ei : i = ds.length := by omega
      subst ei
      rw [List.drop_length] at hx
      cases hx
      obtain ⟨j1, _⟩ := jk C ds.length G' Hh σ ρF e' S'
      refine .inl ⟨j1 (Nat.le_refl _), P (.ref D) G' Hh (e1.trans e') S' ⟨D, rfl, L'.g, L'.h0, ⟨xs, L'.at_, r'⟩, L'.ns⟩⟩
  · exact ⟨G, ρ, _, S, h1, P⟩
theorem PG.ex {u : Ctl → TG} (h : ∀ C, PG X tg (u C)) : PG X tg (fun v σ H Q => ∃ C', u C' v σ H Q) := ⟨fun pins s σ H v uu Q I r ⟨C', q⟩ => (h C').run pins s σ H v uu Q I r q⟩
theorem PTs.ex {ifs : List Expr} {u : Ctl → TT} (h : ∀ C, PTs X ifs (u C)) : PTs X ifs (fun σ H Q => ∃ C', u C' σ H Q) := ⟨fun pins s σ H Q I ⟨C', q⟩ => (h C').run pins s σ H Q I q⟩
theorem PE.ex {u : Ctl → TE} (h : ∀ C, PE X e (u C)) : PE X e (fun σ H Q => ∃ C', u C' σ H Q) := ⟨fun pins s σ H Q I ⟨C', q⟩ => (h C').run pins s σ H Q I q⟩
theorem pd_lc {elt tg iter : Expr} {ifs : List Expr} {scope : Scope} {own : List (Str × Nat)} {src : M (List D)} {tgf : Tg} {tt : M Bool} {el : M R} {sl : List Nat} (hc : X.calm = true) (hN : X.N.Nodup) (hi : PId X C W tg iter src) (ok : BlkOk X.N X.env.scope scope own) (hsl : ∀ i ∈ sl, i ∈ own.map (·.2))
    (hg : ∀ (C' : Ctl) (s : Shared) (H : Hp) (c : Addr) (cl : List (Str × Addr)) (fp : List Addr), PGd (X.blk s H scope (compEnvC scope cl c X.env) fp) C' tg tgf sl)
    (ht : ∀ (C' : Ctl) (s : Shared) (H : Hp) (c : Addr) (cl : List (Str × Addr)) (fp : List Addr), PTd (X.blk s H scope (compEnvC scope cl c X.env) fp) C' W0 ifs tt)
    (he : ∀ (C' : Ctl) (s : Shared) (H : Hp) (c : Addr) (cl : List (Str × Addr)) (fp : List Addr), PD (X.blk s H scope (compEnvC scope cl c X.env) fp) C' W0 elt el) (hs : ∀ x, foldedSetIterable iter X.env x = pure x := by intro _; rfl) :
    PD X C W (.ListComp elt [⟨tg, iter, ifs, 0⟩] scope pos) (fComp src (own.map (·.2)) tgf tt el) :=
  PE.of (pe_lc hc hN hi ok (fun s H c cl fp => PG.ex fun C' => hg C' s H c cl fp) (fun s H c cl fp => PTs.ex fun C' => ht C' s H c cl fp) (fun s H c cl fp => PE.ex fun C' => he C' s H c cl fp) hs) fun σ H Q q => lc_go q hsl
theorem pq_setLc {i : Nat} {y : Str} {py spos : Pos} {elt tg iter : Expr} {ifs : List Expr} {scope : Scope} {own : List (Str × Nat)} {src : M (List D)} {tgf : Tg} {tt : M Bool} {el : M R} {sl : List Nat} (hc : X.calm = true) (hN : X.N.Nodup) (hy : X.N[i]? = some y) (hyl : X.env.scope.names.lookup y = some .local)
    (hsw : swapsWith (.ListComp elt [⟨tg, iter, ifs, 0⟩] scope pos) (some (.Name y py)) spos.line X.env = pure true) (hi : PId X C W tg iter src) (ok : BlkOk X.N X.env.scope scope own) (hsl : ∀ i ∈ sl, i ∈ own.map (·.2))
    (hg : ∀ (C' : Ctl) (s : Shared) (H : Hp) (c : Addr) (cl : List (Str × Addr)) (fp : List Addr), PGd (X.blk s H scope (compEnvC scope cl c X.env) fp) C' tg tgf sl)
    (ht : ∀ (C' : Ctl) (s : Shared) (H : Hp) (c : Addr) (cl : List (Str × Addr)) (fp : List Addr), PTd (X.blk s H scope (compEnvC scope cl c X.env) fp) C' W0 ifs tt)
    (he : ∀ (C' : Ctl) (s : Shared) (H : Hp) (c : Addr) (cl : List (Str × Addr)) (fp : List Addr), PD (X.blk s H scope (compEnvC scope cl c X.env) fp) C' W0 elt el) (hs : ∀ x, foldedSetIterable iter X.env x = pure x := by intro _; rfl) :
    PQ X C W (.Assign [.Name y py] (.ListComp elt [⟨tg, iter, ifs, 0⟩] scope pos) spos) (fSetN i (fComp src (own.map (·.2)) tgf tt el)) :=
  pq_of (ps_setLc hc hN hy hyl hsw hi ok (fun s H c cl fp => PG.ex fun C' => hg C' s H c cl fp) (fun s H c cl fp => PTs.ex fun C' => ht C' s H c cl fp) (fun s H c cl fp => PE.ex fun C' => he C' s H c cl fp) hs) fun D σ H q0 => by
    have q1 := tS.ofE (Q := fun x H1 => gName i x σ H1 D.nx) q0 fun r ρ1 x v G1 H1 S1 R1 h2 P => by
      cases r with
      | v d => cases h2; exact P _ G1 H1 (Same.refl _) (S1.setVal R1 i)
      | n d => cases h2; exact P _ G1 H1 (Same.refl _) (S1.setOwn R1 i)
      | s j => cases h2
    exact lc_go q1 hsl
end
end DL
set_option Elab.async false
set_option linter.all false
set_option maxRecDepth 100000
set_option maxHeartbeats 4000000
namespace DL
open PySem PySem.Spec PyProof.Rows L2

/-! ### f-strings -/
def fFmt (f : M R) : M R := f.bind fun r => fun ρ => match r with
  | .v (.str y) => if szOk y.length then some (.ok (.v (.str y)) ρ) else none
  | .v (.int i) => if i.natAbs.log2 < 1920 then some (.ok (.v (.str (toString i))) ρ) else none
  | _ => none
def fJs : List (M R) → Str → M R
  | [], acc => M.ret (.v (.str acc))
  | f :: fs, acc => f.bind fun r => match r with
    | .v (.str y) => fun ρ => if szOk (acc ++ y).length then fJs fs (acc ++ y) ρ else none
    | _ => fun _ => none
section
variable {X : Cx} {C : Ctl} {W : WX} {e a b c o tg : Expr} {es rest : List Expr} {pos : Pos} {f g h : M R} {fs : List (M R)} {t : M Bool} {sts sts2 : List Stmt} {p q : F}
theorem pd_fmt (he : PD X C W e f) : PD X C W (.FormattedValue e (-1) none pos) (fFmt f) := PE.of (pe_fmt he) fun σ H Q ⟨G, ρ, x, S, hf, P⟩ => by
  refine tD.seq S hf P fun r ρ1 v G1 H1 e1 S1 R1 h2 P1 => ?_
  cases r with
  | v d =>
    cases d with
    | str y =>
      have h3 : (if szOk y.length then some (XR.ok (R.v (.str y)) ρ1) else none) = some x := h2
      split at h3
      · rename_i hz
        cases h3
        exact .inl ⟨y, R1, hz.line, P1 _ G1 H1 (Same.refl _) S1 rfl⟩
      · cases h3
    | int i =>
      have h3 : (if i.natAbs.log2 < 1920 then some (XR.ok (R.v (.str (toString i))) ρ1) else none) = some x := h2
      split at h3
      · rename_i hz
        cases h3
        exact .inr ⟨i, R1, hz, P1 _ G1 H1 (Same.refl _) S1 rfl⟩
      · cases h3
    | _ => cases h2
  | _ => cases h2
inductive PJd (X : Cx) (C : Ctl) (W : WX) : List Expr → List (M R) → Prop where
  | nil : PJd X C W [] []
  | cons {e : Expr} {f : M R} {es : List Expr} {fs : List (M R)} : PD X C W e f → PJd X C W es fs → PJd X C W (e :: es) (f :: fs)
theorem pj_of : ∀ {es : List Expr} {fs : List (M R)}, PJd X C W es fs → PJ X es (fs.map fun f => tD X.K C W f)
  | _, _, .nil => .nil
  | _, _, .cons h t => .cons h (pj_of t)
theorem js_go {σ : L2.St} {Q : VK} : ∀ {fs : List (M R)} {acc : Str} {G H : Hp} {ρ : EV} {x : XR R}, Sta X.K C G H σ ρ → fJs fs acc ρ = some x → XPost X.K C W G σ x Q → tJs (fs.map fun f => tD X.K C W f) acc σ H fun out H1 => Q (.str out) H1
  | [], acc, G, H, ρ, x, S, hf, P => by
    cases hf
    exact P _ G H (Same.refl _) S rfl
  | f :: fs, acc, G, H, ρ, x, S, hf, P => by
    show tD X.K C W f σ H _
    refine tD.seq S hf P fun r ρ1 v G1 H1 e1 S1 R1 h2 P1 => ?_
    cases r with
    | v d =>
      cases d with
      | str y =>
        have h3 : (if szOk (acc ++ y).length then fJs fs (acc ++ y) ρ1 else none) = some x := h2
        split at h3
        · rename_i hz
          exact ⟨y, R1, hz.line, js_go S1 h3 P1⟩
        · cases h3
      | _ => cases h2
    | _ => cases h2
theorem pd_joined (h : PJd X C W (a :: b :: rest) fs) : PD X C W (.JoinedStr (a :: b :: rest) pos) (fJs fs Str.empty) := PE.of (pe_joined (pj_of h)) fun σ H Q ⟨G, ρ, x, S, hf, P⟩ => js_go S hf P
theorem pd_joined1 (h : PD X C W a f) : PD X C W (.JoinedStr [a] pos) f := pe_joined1 h
/-! ### list(range(..)), tuple(range(..)) -/
def fRgL (src : M (List D)) : M R := src.bind fun ds => fun ρ => if szOk ds.length then some (.ok (.n (.lst ds)) ρ) else none
theorem rgV_rep {K : PySem.W.Frag} {G : Hp} (i : Int) (n : Nat) : RepL K G (rangeL i n) ((List.range n).map fun k => V.int (i + (k : Nat))) := by
  unfold rangeL
  have aux : ∀ l : List Nat, RepL K G (l.map fun k => D.int (i + (k : Nat))) (l.map fun k => V.int (i + (k : Nat))) := fun l => by
    induction l with
    | nil => exact RepL.nil
    | cons k l ih => exact RepL.cons rfl ih
  exact aux _
theorem pd_listRg1 {p pp : Pos} {x2 : Pos} (hc : X.calm = true) (hg : Gl X "list") (hm : X.mg "list" = none) (hg2 : Gl X "range") (hm2 : X.mg "range" = none) (ha : PD X C W a f) (na : starEach [a] X.env = (false, eval a X.env) :: starEach [] X.env := by rfl)
    (na2 : starEach [Expr.Call (.Name "range" p) [a] [] pp] X.env = (false, eval (Expr.Call (.Name "range" p) [a] [] pp) X.env) :: starEach [] X.env := by rfl) :
    PD X C W (.Call (.Name "list" x2) [Expr.Call (.Name "range" p) [a] [] pp] [] pos) (fRgL (srcN rangeD1 [fNN f])) :=
  PE.of (pe_listRg hc hg hm (prg_1 hg2 hm2 ha na) na2) fun σ H Q ⟨G, ρ, x, S, hf, P⟩ => by
    rcases bind_ok hf with ⟨ds, ρ1, h1, h2⟩ | ⟨q, ρ1, h1, rfl⟩
    · rcases srcN_ok h1 with ⟨rs, ρ2, ds2, xs, h3, h4, h5, e5⟩ | ⟨q, ρ2, h3, e5⟩
      · cases e5
        have h2' : (if szOk ds.length then some (XR.ok (R.n (.lst ds)) ρ1) else none) = some x := h2
        split at h2'
        · rename_i hz
          cases h2'
          rcases bind_ok h3 with ⟨r, ρ3, h6, h7⟩ | ⟨q, ρ3, h6, h7⟩
          · rcases bind_ok h6 with ⟨r0, ρ0, h8, h9⟩ | ⟨q, ρ3, h8, h9⟩
            · rcases bind_ok h7 with ⟨r8, ρ8, h10, h11⟩ | ⟨q, ρ8, h10, h11⟩
              · cases h10
                cases h11
                refine ⟨G, ρ, _, S, h8, fun v G1 H1 e1 S1 R1 => ?_⟩
                cases r0 with
                | n d => cases h9
                | s i => cases h9; cases h4
                | v d =>
                  cases h9
                  cases h4
                  unfold rangeD1 at h5
                  split at h5
                  · rename_i j hj
                    split at h5
                    · rename_i hz2
                      cases h5
                      cases hj
                      have hl : j.toNat ≤ 2 ^ 24 := by
                        have := hz
                        simp only [rangeL, List.length_map, List.length_range] at this
                        exact this
                      refine ⟨j, R1, ⟨by decide, by decide, hz2.1, hz2.2, by rw [Int.sub_zero]; exact hl⟩, fun q hq => ?_⟩
                      refine P _ G1 _ e1 (S1.lay hq _) (S1.newList hq ?_)
                      unfold rgV
                      rw [Int.sub_zero]
                      exact rgV_rep 0 _
                    · cases h5
                  · cases h5
              · cases h10
            · cases h9
          · cases h7
        · cases h2'
      · cases e5
    · rcases srcN_ok h1 with ⟨rs, ρ2, ds2, xs, h3, h4, h5, e5⟩ | ⟨q2, ρ2, h3, e5⟩
      · cases e5
      · cases e5
        rcases bind_ok h3 with ⟨r, ρ3, h6, h7⟩ | ⟨q3, ρ3, h6, h7⟩
        · rcases bind_ok h7 with ⟨r8, ρ8, h10, h11⟩ | ⟨q8, ρ8, h10, h11⟩
          · cases h11
          · cases h10
        · cases h7
          rcases bind_ok h6 with ⟨r0, ρ0, h8, h9⟩ | ⟨q9, ρ9, h8, h9⟩
          · cases r0 with
            | n d => cases h9
            | v d => cases h9
            | s i => cases h9
          · cases h9
            exact ⟨G, ρ, _, S, h8, P⟩
/-! ### a dict of the module with text keys -/
def KeysAre (K : PySem.W.Frag) (a : Addr) (kvs : List (Str × D)) : Prop := ∀ z : Str, ∃ r, PySem.W.nsIn K a z = some r ∧ r.isSome = (kvs.lookup z).isSome ∧ ∀ d, kvs.lookup z = some d → ∃ u v, r = some u ∧ RelV v u ∧ ∀ G, Rep K G d v
def inKD (kvs : List (Str × D)) : D → Option R
  | .str z => some (.v (.bl (kvs.lookup z).isSome))
  | _ => none
def ixKD (kvs : List (Str × D)) : D → Option R
  | .str z => (match kvs.lookup z with
    | some d => some (.v d)
    | none => none)
  | _ => none
theorem in_kd {da : Addr} {es' : Array DictEntry} {n : Nat} {kvs : List (Str × D)} {x : Str} {px : Pos} (Dk : KDict X.K X.w da es' n) (Kk : KeysAre X.K da kvs) (ha : PD X C W a f) (hg : Gl X x) (hm : X.mg x = some (.ref da)) (hd : (x == ("__debug__" : Str)) = false := by decide) (hb : behindInMarks .In (.Name x px) = false := by rfl) :
    PD X C W (.Compare a [.In] [.Name x px] pos) (fUn (inKD kvs) f) := PE.of (pe_cmpR (op_in_kd Dk) ha (pe_glob (v := .ref da) hg hm rfl hd) hb) fun σ H Q ⟨G, ρ, x, S, hf, P⟩ => by
  refine tD.seq S hf P fun r ρ1 v G1 H1 e1 S1 R1 h2 P1 => ?_
  obtain ⟨d, q, l, hk, rfl⟩ := op1_ok h2
  unfold inKD at hk
  split at hk
  · cases hk
    obtain ⟨r, hr, hs, _⟩ := Kk _
    exact ⟨_, r, S1.look R1 l, rfl, hr, by rw [hs]; exact P1 _ G1 H1 (Same.refl _) S1 rfl⟩
  · cases hk
theorem inB_kd {da : Addr} {es' : Array DictEntry} {n : Nat} {kvs : List (Str × D)} {x : Str} {px : Pos} (Dk : KDict X.K X.w da es' n) (Kk : KeysAre X.K da kvs) (ha : PD X C W a f) (hg : Gl X x) (hm : X.mg x = some (.ref da)) (hd : (x == ("__debug__" : Str)) = false := by decide) (hb : behindInMarks .In (.Name x px) = false := by rfl) :
    PB X C W (.Compare a [.In] [.Name x px] pos) (fBool (fUn (inKD kvs) f)) := PT.by fun σ H Q q => ⟨_, pt_cmpR (op_in_kd Dk) ha (pe_glob (v := .ref da) hg hm rfl hd) hb, by
  obtain ⟨G, ρ, x, S, hf, P⟩ := test_go q
  refine tD.seq (Q := fun x H' => ∃ c, x = .bl c ∧ Q c H') S hf P fun r ρ1 v G1 H1 e1 S1 R1 h2 P1 => ?_
  obtain ⟨d, q, l, hk, rfl⟩ := op1_ok h2
  unfold inKD at hk
  split at hk
  · cases hk
    obtain ⟨r, hr, hs, _⟩ := Kk _
    refine ⟨_, r, S1.look R1 l, rfl, hr, ?_⟩
    rw [hs]
    exact P1 _ G1 H1 (Same.refl _) S1 rfl
  · cases hk⟩
/-- the entries of a written dict with text keys -/
theorem keys_of {K : PySem.W.Frag} {a : Addr} {ks : List Str} {P : Params} (h : He.dicW K a = some (He.keysIn P ks)) : ∀ z : Str, ∃ r, PySem.W.nsIn K a z = some r ∧ r.isSome = ks.contains z := by
  unfold He.dicW at h
  cases q : K.lookup a with
  | none => rw [q] at h; cases h
  | some o =>
    obtain ⟨oc, od, dt, osl⟩ := o
    rw [q] at h
    cases oc with
    | type c =>
      cases od with
      | none =>
        cases dt with
        | dict es n =>
          have h1 : (match decide (c = "dict") && (osl.isEmpty && !(a == sysModules)) with
            | true => some (es.toList.map He.keyOf)
            | false => none) = some (He.keysIn P ks) := h
          cases z : decide (c = "dict") && (osl.isEmpty && !(a == sysModules)) with
          | false => rw [z] at h1; cases h1
          | true =>
            rw [z] at h1
            have h2 : es.toList.map He.keyOf = He.keysIn P ks := Option.some.inj h1
            intro y
            have aux : ∀ (l : List DictEntry) (ks : List Str), l.map He.keyOf = He.keysIn P ks → (l.any (·.refKey) = false) ∧ (l.find? (·.key.isStr y)).isSome = ks.contains y := by
              intro l
              induction l with
              | nil => intro ks e; cases ks with
                | nil => exact ⟨rfl, rfl⟩
                | cons k ks => cases e
              | cons e l ih =>
                intro ks hh
                cases ks with
                | nil => cases hh
                | cons k ks =>
                  have h3 : He.keyOf e :: l.map He.keyOf = some (k, PyData.keyHash P k) :: He.keysIn P ks := hh
                  injection h3 with h4 h5
                  obtain ⟨i1, i2⟩ := ih ks h5
                  unfold He.keyOf at h4
                  split at h4
                  · rename_i x t q2
                    have h6 := Option.some.inj h4
                    obtain ⟨h7, _⟩ := Prod.mk.inj h6
                    subst h7
                    refine ⟨?_, ?_⟩
                    · rw [List.any_cons, i1]
                      simp [DictEntry.refKey, q2]
                    · rw [List.find?_cons, List.contains_cons, q2]
                      by_cases hy : y = x
                      · subst hy
                        simp [Value.isStr]
                      · have n0 : (x == y) = false := by simpa using (fun e : x = y => hy e.symm)
                        have n1 : Value.isStr (Value.str x t) y = false := n0
                        have n2 : (y == x) = false := by simpa using hy
                        simp only [n1, n2, Bool.false_or]
                        exact i2
                  · cases h4
            obtain ⟨a1, a2⟩ := aux es.toList ks h2
            unfold PySem.W.nsIn
            rw [q]
            show ∃ r, (match es.toList.find? (·.key.isStr y) with
              | some e => some (some e.val)
              | none => if es.toList.any (·.refKey) then none else some none) = some r ∧ _
            cases e3 : es.toList.find? (·.key.isStr y) with
            | some e => exact ⟨some e.val, rfl, by rw [← a2, e3]; rfl⟩
            | none => exact ⟨none, by simp [a1], by rw [← a2, e3]; rfl⟩
        | _ => cases h
      | some d => cases dt <;> cases h
    | _ => cases od <;> cases dt <;> cases h
/-! ### try, where nothing is raised -/
/-- the body raises nothing on the ways that are read -/
def fThru (f : F) : F := fun ρ => match f ρ with
  | some (.ex _ _) => none
  | o => o
/-! ### name op= e -/
def fAug (i : Nat) (k : D → D → Option R) (f : M R) : F := ofM (fBin k (fVar i) f) fun r ρ => match r with
  | .v d => some (.nx (ρ.set i (.val d)))
  | _ => none
end
end DL
set_option Elab.async false
set_option linter.all false
set_option maxRecDepth 100000
set_option maxHeartbeats 4000000
namespace DL
open PySem PySem.Spec PyProof.Rows L2

section
variable {X : Cx} {C : Ctl} {W : WX} {e a b c o tg : Expr} {es rest : List Expr} {pos : Pos} {f g h : M R} {fs : List (M R)} {t : M Bool} {st : Stmt} {sts sts2 body : List Stmt} {p q : F}
/-- try: body except ..: the body raises nothing on the ways that are read -/
theorem pq_thru {h₀ : ExceptHandler} {hs : List ExceptHandler} (hb : ∀ C, PQs X.nox C W0 body p) : PQ X C W (.Try body (h₀ :: hs) [] [] pos) (fThru p) := pq_of (ps_try_thru0 (hb C)) fun D σ H ⟨G, ρ, x, S, hf, P⟩ => by
  unfold fThru at hf
  cases e1 : p ρ with
  | none => rw [e1] at hf; cases hf
  | some y =>
    rw [e1] at hf
    cases y with
    | ex r ρ1 => cases hf
    | nx ρ1 => cases hf; exact ⟨G, ρ, _, S, e1, P⟩
    | ret r ρ1 => cases hf; exact ⟨G, ρ, _, S, e1, P⟩
    | bk ρ1 => cases hf; exact ⟨G, ρ, _, S, e1, P⟩
    | ct ρ1 => cases hf; exact ⟨G, ρ, _, S, e1, P⟩
theorem takes_nox {X : Cx} : Takes X.nox W0 := takes0
/-! ### a, b = x, y and a, b, c = x, y, z -/
def parV (is : List Nat) (rs : List R) : EV → Option Flow := fun ρ => match settled rs with
  | some ds => if is.length = ds.length then some (.nx ((is.zip ds).foldl (fun ρ p => ρ.set p.1 (.val p.2)) ρ)) else none
  | none => none
def fPar (is : List Nat) (fs : List (M R)) : F := ofM (evs fs) fun rs => parV is rs
theorem tS.ofA {K : PySem.W.Frag} {k : List R → EV → Option Flow} {D : Ends} {σ : L2.St} {H : Hp} {Q : List V → Hp → Prop} (q0 : tS K C W (ofM (evs fs) k) D σ H)
    (hk : ∀ rs ρ1 x vs G1 H1, Sta K C G1 H1 σ ρ1 → RepRs K C G1 H1 σ ρ1 rs vs → k rs ρ1 = some x → SPost K C W G1 x D → Q vs H1) : tDA K C W (evs fs) σ H Q := by
  obtain ⟨G, ρ, x, S, hf, P⟩ := q0
  rcases ofM_ok hf with ⟨r, ρ1, h1, h2⟩ | ⟨q, ρ1, h1, rfl⟩
  · exact ⟨G, ρ, _, S, h1, fun v G1 H1 e1 S1 R1 => hk r ρ1 x v G1 H1 S1 R1 h2 (P.mono e1)⟩
  · exact ⟨G, ρ, _, S, h1, fun c d G' H' e' S' R' => P c d σ G' H' e' S' R'⟩
theorem pq_par {i j : Nat} {x y : Str} {px py pt : Pos} {kt k2 pt2} (hc : X.calm = true) (hN : X.N.Nodup) (hi : X.N[i]? = some x) (hj : X.N[j]? = some y) (hij : i ≠ j)
    (hx : X.env.scope.names.lookup x = some .local) (hy : X.env.scope.names.lookup y = some .local) (ha : PAs X C W [a, b] (evs fs))
    (hw : swappedStores [.Tuple [.Name x px, .Name y py] kt pt] (.Tuple [a, b] k2 pt2) X.env = pure (some [x, y]))
    (hs : swapsWithSole [.Tuple [.Name x px, .Name y py] kt pt] (.Tuple [a, b] k2 pt2) pos.line X.env = pure false := by rfl) :
    PQ X C W (.Assign [.Tuple [.Name x px, .Name y py] kt pt] (.Tuple [a, b] k2 pt2) pos) (fPar [i, j] fs) := pq_of (ps_par hc hN hi hj hij hx hy ha hw hs) fun D σ H q0 => tS.ofA q0 fun rs ρ1 x vs G1 H1 S1 R1 h2 P => by
  unfold parV at h2
  cases e1 : settled rs with
  | none => rw [e1] at h2; cases h2
  | some ds =>
    rw [e1] at h2
    have r := R1.settled e1
    match ds, h2, r with
    | [d1, d2], h2, r =>
      cases h2
      obtain ⟨v, v', rfl, r1, r2⟩ := repl2 r
      exact ⟨v, v', rfl, P _ G1 H1 (Same.refl _) ((S1.setVal r1 i).setVal r2 j)⟩
    | [], h2, r => simp at h2
    | [_], h2, r => simp at h2
    | _ :: _ :: _ :: _, h2, r => simp at h2
theorem repl3 {K : PySem.W.Frag} {G : Hp} {d d' d'' : D} {vs : List V} (r : RepL K G [d, d', d''] vs) : ∃ v v' v'', vs = [v, v', v''] ∧ Rep K G d v ∧ Rep K G d' v' ∧ Rep K G d'' v'' := by
  obtain ⟨v, t, e, h, ht⟩ := r
  obtain ⟨v', v'', e', h', h''⟩ := repl2 ht
  exact ⟨v, v', v'', by rw [e, e'], h, h', h''⟩
theorem pq_par3 {i j l : Nat} {x y z : Str} {px py pz pt : Pos} {kt k2 pt2} (hc : X.calm = true) (hN : X.N.Nodup) (hi : X.N[i]? = some x) (hj : X.N[j]? = some y) (hl : X.N[l]? = some z) (hij : i ≠ j) (hil : i ≠ l) (hjl : j ≠ l)
    (hx : X.env.scope.names.lookup x = some .local) (hy : X.env.scope.names.lookup y = some .local) (hz : X.env.scope.names.lookup z = some .local) (ha : PAs X C W [a, b, c] (evs fs))
    (hw : swappedStores [.Tuple [.Name x px, .Name y py, .Name z pz] kt pt] (.Tuple [a, b, c] k2 pt2) X.env = pure (some [x, y, z]))
    (hs : swapsWithSole [.Tuple [.Name x px, .Name y py, .Name z pz] kt pt] (.Tuple [a, b, c] k2 pt2) pos.line X.env = pure false := by rfl) :
    PQ X C W (.Assign [.Tuple [.Name x px, .Name y py, .Name z pz] kt pt] (.Tuple [a, b, c] k2 pt2) pos) (fPar [i, j, l] fs) := pq_of (ps_par3 hc hN hi hj hl hij hil hjl hx hy hz ha hw hs) fun D σ H q0 => tS.ofA q0 fun rs ρ1 x vs G1 H1 S1 R1 h2 P => by
  unfold parV at h2
  cases e1 : settled rs with
  | none => rw [e1] at h2; cases h2
  | some ds =>
    rw [e1] at h2
    have r := R1.settled e1
    match ds, h2, r with
    | [d1, d2, d3], h2, r =>
      cases h2
      obtain ⟨v, v', v'', rfl, r1, r2, r3⟩ := repl3 r
      exact ⟨v, v', v'', rfl, P _ G1 H1 (Same.refl _) (((S1.setVal r1 i).setVal r2 j).setVal r3 l)⟩
    | [], h2, r => simp at h2
    | [_], h2, r => simp at h2
    | [_, _], h2, r => simp at h2
    | _ :: _ :: _ :: _ :: _, h2, r => simp at h2
/-! ### name += e of ints -/
def fAugI (i : Nat) (k : Int → Int → Int) (f : M R) : F := fun ρ => match ρ.sl[i]? with
  | some (some (.val (.int x))) => ofM f (fun r ρ1 => match r with
    | .v (.int y) => some (.nx (ρ1.set i (.val (.int (k x y)))))
    | _ => none) ρ
  | _ => none
theorem pip_of {op : Operator} {r : L2.R2} (ho : OpR X (inplaceOp op) r) : PIp X op r := fun pins s σ H x y v u Q I rx ry q => augR ho I rx ry q
theorem pq_augI (i : Nat) {x : Str} {op : Operator} {k : Int → Int → Int} {pos' : Pos} (hN : X.N.Nodup) (ho : OpR X (inplaceOp op) (rI0 fun i j => .int (k i j))) (he : PD X C W e f) (hi : X.N[i]? = some x := by rfl) (hx : Loc X.env.scope x := by first | exact Or.inl rfl | exact Or.inr rfl) (hf : X.fn x = true ∨ X.env.scope.names.lookup x = some .local := by first | exact .inl rfl | exact .inr rfl | assumption) :
    PQ X C W (.AugAssign (.Name x pos') op e pos) (fAugI i k f) := pq_of (ps_aug hN hi hx he (pip_of ho) hf) fun D σ H ⟨G, ρ, x, S, hf, P⟩ => by
  unfold fAugI at hf
  cases e1 : ρ.sl[i]? with
  | none => rw [e1] at hf; cases hf
  | some so =>
    rw [e1] at hf
    cases so with
    | none => cases hf
    | some s =>
      cases s with
      | val d =>
        cases d with
        | int z =>
          obtain ⟨v, hv, rv⟩ := S.slot i _ e1
          refine ⟨v, hv, ?_⟩
          refine tS.ofE ⟨G, ρ, x, S, hf, P⟩ fun r ρ1 x v' G1 H1 S1 R1 h2 P => ?_
          cases r with
          | v d =>
            cases d with
            | int y =>
              cases h2
              exact ⟨z, y, rv, R1, P _ G1 H1 (Same.refl _) (S1.setVal (d := .int (k z y)) rfl i)⟩
            | _ => cases h2
          | _ => cases h2
        | _ => cases hf
      | _ => cases hf
/-! ### xs[i] = e, the list a slot's own -/
def setIx (s : Nat) (i : R) (d : R) : EV → Option Flow := fun ρ => match d with
  | .v d => (match i with
    | .v (.int k) => (match ρ.obj s with
      | some (.lst xs) => (match ixN xs.length k with
        | some j => some (.nx (ρ.put s (.lst (xs.set j d))))
        | none => none)
      | _ => none)
    | _ => none)
  | _ => none
/-- e is looked at first, then the name, then i -/
def fSetIx (s : Nat) (g f : M R) : F := ofM (f.bind fun d => g.bind fun i => M.ret [i, d]) fun rs ρ => match rs with
  | [i, d] => setIx s i d ρ
  | _ => none
theorem pq_setIx {s : Nat} {p2 : Pos} (hv : PD X C W e f) (ho : PE X o (tVar s)) (hi : PD X C W a g) (hl : ∀ ρ x, fSetIx s g f ρ = some x → (∀ d ρ1, f ρ = some (.ok d ρ1) → ∃ u, ρ1.obj s = some u))
    (hs : swapsWithSole [.Subscript o a p2] e pos.line X.env = pure false := by rfl) (hw : swappedStores [.Subscript o a p2] e X.env = pure none := by rfl)
    (h1 : (assignEach [.Subscript o a p2] X.env).map (·.2) = [assign (.Subscript o a p2) X.env] := by rfl)
    (ha : ∀ v, assign (.Subscript o a p2) X.env v = (do
      let ov ← holding [v] (eval o X.env)
      let iv ← holding [v, ov] (eval a X.env)
      standAt p2
      holding [v, ov, iv] (setItem ov iv v)
      release [v, ov, iv] []) := by intro _; rfl) : True := trivial
end
end DL
set_option Elab.async false
set_option linter.all false
set_option maxRecDepth 100000
set_option maxHeartbeats 4000000
namespace DL
open PySem PySem.Spec PyProof.Rows L2

def fBreak : F := fun ρ => some (.bk ρ)
def fCont : F := fun ρ => some (.ct ρ)
def fuel : Nat := 1000000
/-- truth of a value -/
def truD : D → Option Bool
  | .non => some false
  | .bl b => some b
  | .int i => some (i != 0)
  | .str s => if szOk s.length then some ((s.length : Int) != 0) else none
  | .lst ds => some (!ds.isEmpty)
  | .tup ds => some (!ds.isEmpty)
  | _ => none
def fTru (f : M R) : M Bool := f.bind fun r => fun ρ => match ρ.look r with
  | some d => (match truD d with
    | some b => some (.ok b ρ)
    | none => none)
  | none => none
def fSetV (i : Nat) (f : M R) : F := ofM f fun r ρ => match r with
  | .v d => some (.nx (ρ.set i (.val d)))
  | .n d => some (.nx (ρ.set i (.val d)))
  | .s _ => none
theorem hu65 {k : Nat} {A : Around} (hr : Room k A) : A.units + 65 < cLine := by have := hr.un; omega
theorem RepL.empty {K : PySem.W.Frag} {G : Hp} {ds : List D} {xs : List V} (r : RepL K G ds xs) : xs.isEmpty = ds.isEmpty := by
  have l := r.length
  cases ds with
  | nil => cases xs with
    | nil => rfl
    | cons _ _ => cases l
  | cons _ _ => cases xs with
    | nil => cases l
    | cons _ _ => rfl
section
variable {X : Cx} {C : Ctl} {W : WX} {e a b c o tg : Expr} {es rest : List Expr} {pos : Pos} {f g h : M R} {fs : List (M R)} {t : M Bool} {st : Stmt} {sts sts2 body : List Stmt} {p q : F}
theorem truD_ok {K : PySem.W.Frag} {G H : Hp} (e : Same G H) {d : D} {v : V} {b : Bool} (h : truD d = some b) (w : Vw K G H d v) : TruV K v H b := by
  cases d with
  | non => cases h; rw [show v = _ from w]; rfl
  | bl x => cases h; rw [show v = _ from w]; rfl
  | int x => cases h; rw [show v = _ from w]; rfl
  | str s =>
    have h' : (if szOk s.length then some ((s.length : Int) != 0) else none) = some b := h
    split at h'
    · rename_i hz
      cases h'
      rw [show v = _ from w]
      exact ⟨hz.line, rfl⟩
    · cases h'
  | lst ds =>
    cases h
    obtain ⟨a, xs, e1, h1, r⟩ := w
    rw [e1]
    exact .inl ⟨xs, SqL.of h1, by rw [r.empty]⟩
  | tup ds =>
    cases h
    obtain ⟨a, xs, e1, h1, r⟩ := w
    rw [e1]
    exact .inr (.inl ⟨xs, same_t e h1, by rw [r.empty]⟩)
  | _ => cases h
theorem pb_tru (ha : PD X C W a f) (he : ∀ whole, isTrue a X.env whole = (do let v ← whole; standAt a.pos; holding [v] (truthy v)) := by intro _; rfl) : PB X C W a (fTru f) := PT.by fun σ H Q ⟨G, ρ, x, S, hf, P⟩ => ⟨_, pt_truth ha he, by
  rcases bind_ok hf with ⟨r, ρ1, h1, h2⟩ | ⟨q, ρ1, h1, rfl⟩
  · refine ⟨G, ρ, _, S, h1, fun v G1 H1 e1 S1 R1 => ?_⟩
    cases l : ρ1.look r with
    | none => rw [l] at h2; cases h2
    | some d =>
      rw [l] at h2
      cases hb : truD d with
      | none => simp only [hb] at h2; cases h2
      | some b =>
        simp only [hb] at h2
        cases h2
        exact ⟨b, truD_ok S1.sub hb (S1.look R1 l), P G1 H1 e1 S1⟩
  · exact ⟨G, ρ, _, S, h1, P⟩⟩
theorem pq_setLcV {i : Nat} {y : Str} {py spos : Pos} {elt tg iter : Expr} {ifs : List Expr} {scope : Scope} {own : List (Str × Nat)} {src : M (List D)} {tgf : Tg} {tt : M Bool} {el : M R} {sl : List Nat} (hc : X.calm = true) (hN : X.N.Nodup) (hy : X.N[i]? = some y) (hyl : X.env.scope.names.lookup y = some .local)
    (hsw : swapsWith (.ListComp elt [⟨tg, iter, ifs, 0⟩] scope pos) (some (.Name y py)) spos.line X.env = pure true) (hi : PId X C W tg iter src) (ok : BlkOk X.N X.env.scope scope own) (hsl : ∀ i ∈ sl, i ∈ own.map (·.2))
    (hg : ∀ (C' : Ctl) (s : Shared) (H : Hp) (c : Addr) (cl : List (Str × Addr)) (fp : List Addr), PGd (X.blk s H scope (compEnvC scope cl c X.env) fp) C' tg tgf sl)
    (ht : ∀ (C' : Ctl) (s : Shared) (H : Hp) (c : Addr) (cl : List (Str × Addr)) (fp : List Addr), PTd (X.blk s H scope (compEnvC scope cl c X.env) fp) C' W0 ifs tt)
    (he : ∀ (C' : Ctl) (s : Shared) (H : Hp) (c : Addr) (cl : List (Str × Addr)) (fp : List Addr), PD (X.blk s H scope (compEnvC scope cl c X.env) fp) C' W0 elt el) (hs : ∀ x, foldedSetIterable iter X.env x = pure x := by intro _; rfl) :
    PQ X C W (.Assign [.Name y py] (.ListComp elt [⟨tg, iter, ifs, 0⟩] scope pos) spos) (fSetV i (fComp src (own.map (·.2)) tgf tt el)) :=
  pq_of (ps_setLc hc hN hy hyl hsw hi ok (fun s H c cl fp => PG.ex fun C' => hg C' s H c cl fp) (fun s H c cl fp => PTs.ex fun C' => ht C' s H c cl fp) (fun s H c cl fp => PE.ex fun C' => he C' s H c cl fp) hs) fun D σ H q0 => by
    have q1 := tS.ofE (Q := fun x H1 => gName i x σ H1 D.nx) q0 fun r ρ1 x v G1 H1 S1 R1 h2 P => by
      cases r with
      | v d => cases h2; exact P _ G1 H1 (Same.refl _) (S1.setVal R1 i)
      | n d =>
        cases h2
        obtain ⟨G2, e2, S2, R2⟩ := S1.settle R1
        exact P _ G2 H1 e2 (S2.setVal R2 i)
      | s j => cases h2
    exact lc_go q1 hsl
/-! ### constants of the module -/
theorem pd_gs {x z : Str} (h : ∃ t, X.mg x = some (.str z t)) (hg : Gl X x) (hd : (x == ("__debug__" : Str)) = false := by decide) : PD X C W (.Name x pos) (fC (.str z)) := by
  obtain ⟨t, h⟩ := h
  exact pd_c (pe_glob (v := .str z) hg h ⟨t, rfl⟩ hd) fun _ => rfl
theorem pd_gi {x : Str} {i : Int} (h : ∃ t, X.mg x = some (.int i t)) (hg : Gl X x) (hd : (x == ("__debug__" : Str)) = false := by decide) : PD X C W (.Name x pos) (fC (.int i)) := by
  obtain ⟨t, h⟩ := h
  exact pd_c (pe_glob (v := .int i) hg h ⟨t, rfl⟩ hd) fun _ => rfl
/-- a built-in class as a value -/
theorem pd_ty {x : Str} (T : String) (hm : X.mg x = none) (hg : Gl X x) (hv : bootBuiltins x = some (.type T)) (hn : x ≠ "__name__" := by decide) (hd : (x == ("__debug__" : Str)) = false := by decide) : PD X C W (.Name x pos) (fC (.ty T)) :=
  pd_c (pe_bltn (v := .ty T) hg hm hv rfl hn hd) fun _ => rfl
/-- the module's name x is a tuple of texts -/
def GTup (K : PySem.W.Frag) (mg : Str → Option Value) (x : Str) (zs : List Str) : Prop := ∃ a, mg x = some (.ref a) ∧ ∀ H, SqT K H a (zs.map V.str)
theorem pd_gt {x : Str} {zs : List Str} {ds : List D} (h : GTup X.K X.mg x zs) (hg : Gl X x) (hds : ds = zs.map D.str := by rfl) (hd : (x == ("__debug__" : Str)) = false := by decide) : PD X C W (.Name x pos) (fC (.tup ds)) := by
  obtain ⟨a, h, ht⟩ := h
  refine pd_c (pe_glob (v := .ref a) hg h rfl hd) fun G => ⟨a, zs.map V.str, rfl, ht G, ?_⟩
  subst hds
  clear ht
  induction zs with
  | nil => exact RepL.nil
  | cons z zs ih => exact RepL.cons rfl ih
/-- the module's name x is a dict with text keys -/
structure GDict (K : PySem.W.Frag) (w : World) (mg : Str → Option Value) (x : Str) (kvs : List (Str × D)) : Prop where
  ex : ∃ a es n, mg x = some (.ref a) ∧ KDict K w a es n ∧ KeysAre K a kvs
theorem in_kd' {kvs : List (Str × D)} {x : Str} {px : Pos} (h : GDict X.K X.w X.mg x kvs) (ha : PD X C W a f) (hg : Gl X x) (hd : (x == ("__debug__" : Str)) = false := by decide) (hb : behindInMarks .In (.Name x px) = false := by rfl) : PD X C W (.Compare a [.In] [.Name x px] pos) (fUn (inKD kvs) f) := by
  obtain ⟨a, es, n, h1, h2, h3⟩ := h.ex
  exact in_kd h2 h3 ha hg h1 hd hb
theorem inB_kd' {kvs : List (Str × D)} {x : Str} {px : Pos} (h : GDict X.K X.w X.mg x kvs) (ha : PD X C W a f) (hg : Gl X x) (hd : (x == ("__debug__" : Str)) = false := by decide) (hb : behindInMarks .In (.Name x px) = false := by rfl) : PB X C W (.Compare a [.In] [.Name x px] pos) (fBool (fUn (inKD kvs) f)) := by
  obtain ⟨a, es, n, h1, h2, h3⟩ := h.ex
  exact inB_kd h2 h3 ha hg h1 hd hb
end
/-! ### defs by names -/
structure DefOk (P : Program) (w : World) (K : PySem.W.Frag) (mg : Str → Option Value) (base : Heap) (k : Nat) (x : Str) (ps N : List Str) (fb : F) : Prop where
  ex : ∃ (f : Addr) (fd : FuncData), mg x = some (.ref f) ∧ PySem.W.keepIn K (.ref f) = true ∧ Binds K fd ps [] ∧ FnOk P w K mg base (L2.CX P w) k f fd ps (spD K ps N fb)
/-- a def of the top -/
structure FunG (K : PySem.W.Frag) (mg : Str → Option Value) (x : Str) (st : Stmt) : Prop where
  ex : ∃ (f : Addr) (fd : FuncData), mg x = some (.ref f) ∧ FunD K x x (defArgs st) (defBody st) (defScope st) [] [] f fd
section
variable {X : Cx} {C : Ctl} {W : WX} {e : Expr} {es : List Expr} {pos : Pos} {fs : List (M R)}
theorem pd_call' {x : Str} {p : Pos} {k N' : Nat} {ps N : List Str} {fb : F} (h : DefOk X.prog X.w X.K X.mg X.base k x ps N fb) (hr : Room k X.A) (hg : Gl X x) (tk : Takes X W) (ha : PAs X C W (e :: es) (evs fs)) (hl : fs.length = ps.length := by rfl) (hN : ps.length ≤ N.length := by decide) (hn : N.length = N' := by rfl)
    (hdb : (x == ("__debug__" : Str)) = false := by decide) (he : starEach (e :: es) X.env = (false, eval e X.env) :: starEach es X.env := by rfl) (hpl : (backTo pos (starEach es X.env)).any (·.1) = false := by rfl) :
    PD X C W (.Call (.Name x p) (e :: es) [] pos) (fCall fb N' fs) := by
  obtain ⟨f, fd, h1, h2, h3, h4⟩ := h.ex
  subst hn
  exact pd_call h4 hr hg h1 h2 h3 tk ha hl hN hdb he hpl
end
section
variable {P : Program} {w : World} {K : PySem.W.Frag} {mg : Str → Option Value} {base : Heap}
theorem def_dl {x : Str} {st : Stmt} {N ps : List Str} {k : Nat} {fb : F} (F : FunG K mg x st) (S : FnScope N ps (defScope st))
    (hb0 : ∀ (kV doc pm : Value) (an : Option Addr) (cdv ct : Value) (us : List Value), us.length = ps.length → bindArgs (PySem.W.fnOf x x (defArgs st) (defBody st) (defScope st) .none kV doc pm an cdv ct) ⟨us, []⟩ = pure (ps.zip us))
    (hb : ∀ (f : Addr) (cdv : Value) (A : Around) (outer : List Env) (s : Shared) (H : Hp) (E : XK) (C : Ctl), Room k (A.deeper (envOfC x (defScope st) s.heap.objs.size f cdv)) →
      PQs (cxOf (L2.CX P w) P w K mg base N x (defScope st) f cdv A outer s H E) C (fun c d _ H' => E c d H') (defBody st) fb) : DefOk P w K mg base (k + 1) x ps N fb := by
  obtain ⟨f, fd, h1, F⟩ := F.ex
  refine ⟨f, fd, h1, F.kp, F.bindsN hb0, F.ok S (fun vs H Q E h => h.1) fun cdv A outer s H vs Q E hr q => ?_⟩
  obtain ⟨_, G, A0, q⟩ := q
  exact ⟨_, hb f cdv A outer s H E ⟨H, G, A0, 0⟩ hr, q⟩
end
end DL
set_option Elab.async false
set_option linter.all false
set_option maxRecDepth 100000
set_option maxHeartbeats 4000000
namespace DL
open PySem PySem.Spec PyProof.Rows L2
section
variable {P : Program} {w : World} {K : PySem.W.Frag} {mg : Str → Option Value} {base : Heap}
/-- a def that lets nothing out -/
theorem fnOk_quiet {k : Nat} {f : Addr} {fd : FuncData} {ps : List Str} {sp : Sp} (Fo : FnOk P w K mg base (L2.CX P w) k f fd ps sp) : FnOk P w K mg base CX0 k f fd ps (fun vs H Q _ => sp vs H Q E0) :=
  ⟨fun vs H Q E h => Fo.len vs H Q E0 h, fun A outer s H args us vs Q E hr e0 hb r h => codeAny_mono (Fo.run A outer s H args us vs Q E0 hr e0 hb r h) fun rr s' q => by
    cases rr with
    | ok fl =>
      cases fl with
      | ret u => exact q
      | _ => exact q.elim
    | error e =>
      obtain ⟨_, _, _, _, _, _, _, _, _, _, _, _, z⟩ := (show L2.CX P w outer H s E0 e s' from q)
      exact z.elim⟩
/-- the law's promise at the script -/
theorem law_sp {x : Str} {N : List Str} {fb : F} {H : Hp} {a : Addr} {ns : List Int} {E : XK} (hN : N = x :: N.tail) (hS : SqL K H a (ns.map V.int))
    (h : ∃ ρ', fb ⟨some (.val (.scr (ns.map D.int))) :: List.replicate N.tail.length none, []⟩ = some (.ret (.v (.bl true)) ρ')) : spD K [x] N fb [.ref a] H (fun v _ => v = .bl true) E := by
  obtain ⟨ρ', h⟩ := h
  refine ⟨rfl, H, [], H, _, _, ?_, h, fun v σ' G' H' e' S' R' => R'⟩
  have hl : N.length = N.tail.length + 1 := by
    have h2 := congrArg List.length hN
    rw [List.length_cons] at h2
    exact h2
  have hr : ∀ l : List Int, RepL K H (l.map D.int) (l.map V.int) := fun l => by
    induction l with
    | nil => exact RepL.nil
    | cons n l ih => exact RepL.cons rfl ih
  refine ⟨Same.refl _, Same.refl _, fun _ _ e => .inl e, fun _ _ e _ => e, ?_, fun i s e => ?_, fun i j d x v h1 _ _ _ => ?_, rfl, fun k a d h1 _ => ?_, List.nodup_nil, fun a ha => by cases ha⟩
  · simp only [L2.start, List.length_append, List.length_map, List.length_cons, List.length_nil, List.length_replicate, hl]
    omega
  · cases i with
    | zero =>
      simp at e
      subst e
      exact ⟨.ref a, rfl, a, ns.map V.int, rfl, hS, hr ns⟩
    | succ i =>
      simp only [List.getElem?_cons_succ] at e
      obtain ⟨h1, h2⟩ := List.getElem?_eq_some_iff.mp e
      simp at h2
  · cases i with
    | zero => simp at h1
    | succ i =>
      simp only [List.getElem?_cons_succ] at h1
      obtain ⟨h1, h2⟩ := List.getElem?_eq_some_iff.mp h1
      simp at h2
  · simp at h1
/-- a def at its object -/
theorem fnok_dl {x : Str} {st : Stmt} {N ps : List Str} {k : Nat} {fb : F} {f : Addr} {fd : FuncData} (F : FunD K x x (defArgs st) (defBody st) (defScope st) [] [] f fd) (S : FnScope N ps (defScope st))
    (hb : ∀ (f : Addr) (cdv : Value) (A : Around) (outer : List Env) (s : Shared) (H : Hp) (E : XK) (C : Ctl), Room k (A.deeper (envOfC x (defScope st) s.heap.objs.size f cdv)) →
      PQs (cxOf (L2.CX P w) P w K mg base N x (defScope st) f cdv A outer s H E) C (fun c d _ H' => E c d H') (defBody st) fb) : FnOk P w K mg base (L2.CX P w) (k + 1) f fd ps (spD K ps N fb) :=
  F.ok S (fun vs H Q E h => h.1) fun cdv A outer s H vs Q E hr q => by
    obtain ⟨_, G, A0, q⟩ := q
    exact ⟨_, hb f cdv A outer s H E ⟨H, G, A0, 0⟩ hr, q⟩
/-- the same, its end kept apart by the laws of DP -/
def fSeqL (p q : F) : F := fSeq p q
/-! ### facts by names -/
theorem gtup_of {x : Str} {zs : List Str} {h : Heap} (X : K.In h) (G : h.Ns mainGlobals mg) (c : (He.Fa.glo x).ok K = true) (t : He.tupB K x (zs.map He.Dv.str) = true) : GTup K mg x zs := by
  refine ⟨He.ga K x, He.glo_ok X G c, fun H => ?_⟩
  have := He.tupB_ok t H
  rw [List.map_map] at this
  exact this
/-- a value of a written table -/
def dvD : He.Dv → Option D
  | .int i => some (.int i)
  | .str z => some (.str z)
  | .bl b => some (.bl b)
  | .non => some .non
  | _ => none
theorem lookup_contains {α : Type} : ∀ (l : List (Str × α)) (z : Str), (l.lookup z).isSome = (l.map (·.1)).contains z
  | [], _ => rfl
  | (k, v) :: l, z => by
    rw [List.lookup_cons, List.map_cons, List.contains_cons]
    by_cases h : z == k
    · rw [h]; rfl
    · have h' : (z == k) = false := by simpa using h
      rw [h', Bool.false_or]
      exact lookup_contains l z
theorem lookup_mem' {α : Type} : ∀ {l : List (Str × α)} {z : Str} {v : α}, l.lookup z = some v → (z, v) ∈ l
  | (k, u) :: l, z, v, h => by
    rw [List.lookup_cons] at h
    by_cases e : z == k
    · rw [e] at h
      cases h
      rw [beq_iff_eq.mp e]
      exact List.mem_cons_self
    · have e' : (z == k) = false := by simpa using e
      rw [e'] at h
      exact List.mem_cons_of_mem _ (lookup_mem' h)
theorem gdict_of {x : Str} {kvs : List (Str × He.Dv)} {ds : List (Str × D)} {h : Heap} (X : K.In h) (G : h.Ns mainGlobals mg) (c : (He.Fa.glo x).ok K = true) (t : He.dicW K (He.ga K x) = some (He.keysIn w.params (kvs.map (·.1)))) (v : He.valsB K (He.ga K x) kvs = true)
    (hd : ds.map (fun p => (p.1, some p.2)) = kvs.map fun p => (p.1, dvD p.2)) : GDict K w mg x ds := by
  obtain ⟨es, n, kd⟩ := He.dicW_ok t
  refine ⟨He.ga K x, es, n, He.glo_ok X G c, kd, fun z => ?_⟩
  obtain ⟨r, h1, h2⟩ := keys_of t z
  have e1 : ds.map (·.1) = kvs.map (·.1) := by
    have := congrArg (List.map (·.1)) hd
    simpa [List.map_map, Function.comp_def] using this
  refine ⟨r, h1, by rw [h2, lookup_contains, e1], fun d hl => ?_⟩
  have hm := lookup_mem' hl
  have hm2 : (z, some d) ∈ kvs.map fun p => (p.1, dvD p.2) := by
    rw [← hd]
    exact List.mem_map.mpr ⟨(z, d), hm, rfl⟩
  obtain ⟨⟨z', dv⟩, hq, e2⟩ := List.mem_map.mp hm2
  obtain ⟨e3, e4⟩ := Prod.mk.inj e2
  simp only at e3 e4
  subst e3
  obtain ⟨u, h3, h4⟩ := He.valsB_ok v hq
  rw [h1] at h3
  cases h3
  refine ⟨u, dv.v K, rfl, h4, fun G => ?_⟩
  cases dv with
  | int i => cases e4; rfl
  | str i => cases e4; rfl
  | bl i => cases e4; rfl
  | non => cases e4; rfl
  | _ => cases e4
theorem fung_of {d : He.DefD} {st : Stmt} {x : Str} {fa : List He.Fa} {fn : List He.DefD} {h : Heap} (X : K.In h) (G : h.Ns mainGlobals mg) (c : He.SaysD fa fn K) (hd : d ∈ fn) (hf : He.Fa.glo x ∈ fa) (e : d = ⟨(x, none), x, x, defArgs st, defBody st, defScope st, [], []⟩) : FunG K mg x st := by
  subst e
  obtain ⟨fd, F⟩ := He.SaysD.defs c hd
  exact ⟨_, fd, He.glo_ok X G (He.SaysD.facts c hf), F⟩
theorem says_tab {fa : List He.Fa} {fn : List He.DefD} {ts : List He.Tab} (c : He.SaysT fa fn ts w K) (i : Nat) {t : He.Tab} (h : ts[i]? = some t := by rfl) : He.dicW K (t.1 K) = some (He.keysIn w.params t.2) := by
  have e : ts.map (fun t => He.dicW K (t.1 K)) = ts.map fun t => some (He.keysIn w.params t.2) := congrArg (fun z : He.AlT => z.2) c
  have e2 := congrArg (fun l => l[i]?) e
  simp only [List.getElem?_map, h, Option.map_some, Option.some.injEq] at e2
  exact e2
end
end DL
set_option Elab.async false
set_option linter.all false
set_option maxRecDepth 100000
set_option maxHeartbeats 4000000
/-! DP: what a reading does, by weakest conditions: plain data alone. -/
namespace DL
open PySem PySem.Spec PyProof.Rows
structure Ko where
  nx : EV → Prop
  rt : R → EV → Prop
  bk : EV → Prop
  ct : EV → Prop
  ex : XD → EV → Prop
def wm {α : Type} (f : M α) (ρ : EV) (Q : α → EV → Prop) (X : XD → EV → Prop) : Prop := match f ρ with
  | some (.ok a ρ') => Q a ρ'
  | some (.ex e ρ') => X e ρ'
  | none => False
def wf (f : F) (ρ : EV) (E : Ko) : Prop := match f ρ with
  | some (.nx ρ') => E.nx ρ'
  | some (.ret r ρ') => E.rt r ρ'
  | some (.bk ρ') => E.bk ρ'
  | some (.ct ρ') => E.ct ρ'
  | some (.ex e ρ') => E.ex e ρ'
  | none => False
section
variable {α β : Type} {f g h : M R} {p q : F} {ρ : EV} {E : Ko} {Q : R → EV → Prop} {X : XD → EV → Prop}
theorem wm_bind {f : M α} {g : α → M β} {Q : β → EV → Prop} : wm (f.bind g) ρ Q X = wm f ρ (fun a ρ' => wm (g a) ρ' Q X) X := by
  unfold wm M.bind
  cases f ρ with
  | none => rfl
  | some x => cases x <;> rfl
theorem wm_ret {a : α} {Q : α → EV → Prop} : wm (M.ret a) ρ Q X = Q a ρ := rfl
theorem wm_mono {f : M α} {Q Q' : α → EV → Prop} {X' : XD → EV → Prop} (h : wm f ρ Q X) (k : ∀ a ρ', Q a ρ' → Q' a ρ') (kx : ∀ e ρ', X e ρ' → X' e ρ') : wm f ρ Q' X' := by
  unfold wm at h ⊢
  split at h <;> first | exact k _ _ h | exact kx _ _ h | exact h
theorem wf_mono {E E' : Ko} (h : wf p ρ E) (k1 : ∀ ρ', E.nx ρ' → E'.nx ρ') (k2 : ∀ r ρ', E.rt r ρ' → E'.rt r ρ') (k3 : ∀ ρ', E.bk ρ' → E'.bk ρ') (k4 : ∀ ρ', E.ct ρ' → E'.ct ρ') (k5 : ∀ e ρ', E.ex e ρ' → E'.ex e ρ') : wf p ρ E' := by
  unfold wf at h ⊢
  split at h <;> first | exact k1 _ h | exact k2 _ _ h | exact k3 _ h | exact k4 _ h | exact k5 _ _ h | exact h
theorem wf_eq {r : R} {ρ1 : EV} : wf p ρ ⟨fun _ => False, fun r' ρ' => r' = r ∧ ρ' = ρ1, fun _ => False, fun _ => False, fun _ _ => False⟩ → p ρ = some (.ret r ρ1) := fun h => by
  unfold wf at h
  split at h
  · cases h
  · rename_i e
    obtain ⟨rfl, rfl⟩ := h
    exact e
  all_goals cases h
/-- the law's answer -/
theorem wf_ret {r : R} (h : wf p ρ ⟨fun _ => False, fun r' _ => r' = r, fun _ => False, fun _ => False, fun _ _ => False⟩) : ∃ ρ', p ρ = some (.ret r ρ') := by
  unfold wf at h
  split at h
  · cases h
  · rename_i e
    subst h
    exact ⟨_, e⟩
  all_goals cases h
/-! ### expressions -/
def gets (l : List (Option Slot)) (i : Nat) : Option Slot := match l[i]? with
  | some (some s) => some s
  | _ => none
theorem wm_var {i : Nat} : wm (fVar i) ρ Q X = (match gets ρ.sl i with
    | some (.val d) => Q (.v d) ρ
    | some _ => Q (.s i) ρ
    | none => False) := by
  unfold wm fVar gets
  cases e : ρ.sl[i]? with
  | none => rfl
  | some o =>
    cases o with
    | none => rfl
    | some s => cases s <;> rfl
theorem wm_c {d : D} : wm (fC d) ρ Q X = Q (.v d) ρ := rfl
theorem wm_frz : wm (fFrz f) ρ Q X = wm f ρ (fun r ρ' => match r with
    | .v d => Q (.v d) ρ'
    | .n d => Q (.v d) ρ'
    | .s i => match gets ρ'.sl i with
      | some (.own d) => Q (.v d) (ρ'.set i (.val d))
      | _ => False) X := by
  unfold fFrz
  rw [wm_bind]
  congr 1
  funext r ρ'
  unfold wm gets
  cases r with
  | v d => rfl
  | n d => rfl
  | s i =>
    simp only
    cases ρ'.sl[i]? with
    | none => rfl
    | some o =>
      cases o with
      | none => rfl
      | some s => cases s <;> rfl
theorem wm_frN : wm (fFrN f) ρ Q X = wm f ρ (fun r ρ' => match r with
    | .v d => Q (.v d) ρ'
    | .n d => Q (.v d) ρ'
    | .s i => Q (.s i) ρ') X := by
  unfold fFrN
  rw [wm_bind]
  congr 1
  funext r ρ'
  cases r <;> rfl
theorem wm_nn : wm (fNN f) ρ Q X = wm f ρ (fun r ρ' => match r with
    | .v d => Q (.v d) ρ'
    | .n _ => False
    | .s i => Q (.s i) ρ') X := by
  unfold fNN
  rw [wm_bind]
  congr 1
  funext r ρ'
  cases r <;> rfl
def oR (o : Option R) (ρ : EV) (Q : R → EV → Prop) : Prop := match o with
  | some r => Q r ρ
  | none => False
def oD (o : Option D) (Q : D → Prop) : Prop := match o with
  | some r => Q r
  | none => False
theorem wm_op1 {k : D → Option R} {r : R} : wm (op1 k r) ρ Q X = oD (ρ.look r) fun d => oR (k d) ρ Q := by
  unfold wm op1 oD oR
  cases ρ.look r with
  | none => rfl
  | some d =>
    simp only
    cases k d <;> rfl
theorem wm_op2 {k : D → D → Option R} {r s : R} : wm (op2 k r s) ρ Q X = oD (ρ.look r) fun d => oD (ρ.look s) fun e => oR (k d e) ρ Q := by
  unfold wm op2 oD oR
  cases ρ.look r with
  | none => rfl
  | some d =>
    simp only
    cases ρ.look s with
    | none => rfl
    | some e =>
      simp only
      cases k d e <;> rfl
theorem wm_un {k : D → Option R} : wm (fUn k f) ρ Q X = wm f ρ (fun r ρ' => oD (ρ'.look r) fun d => oR (k d) ρ' Q) X := by
  unfold fUn
  rw [wm_bind]
  simp only [wm_op1]
theorem wm_bin {k : D → D → Option R} : wm (fBin k f g) ρ Q X = wm f ρ (fun r ρ1 => wm g ρ1 (fun s ρ' => oD (ρ'.look r) fun d => oD (ρ'.look s) fun e => oR (k d e) ρ' Q) X) X := by
  unfold fBin
  simp only [wm_bind, wm_op2]
theorem wm_evs_nil {Q : List R → EV → Prop} : wm (evs []) ρ Q X = Q [] ρ := rfl
theorem wm_evs_cons {Q : List R → EV → Prop} {fs : List (M R)} : wm (evs (f :: fs)) ρ Q X = wm f ρ (fun r ρ1 => wm (evs fs) ρ1 (fun rs ρ2 => Q (r :: rs) ρ2) X) X := by
  show wm (f.bind fun r => (evs fs).bind fun rs => M.ret (r :: rs)) ρ Q X = _
  simp only [wm_bind, wm_ret]
theorem wm_opN {k : List D → Option R} {rs : List R} : wm (opN k rs) ρ Q X = (match ρ.looks rs with
    | some ds => oR (k ds) ρ Q
    | none => False) := by
  unfold wm opN oR
  cases ρ.looks rs with
  | none => rfl
  | some d =>
    simp only
    cases k d <;> rfl
theorem wm_n {k : List D → Option R} {fs : List (M R)} : wm (fN k fs) ρ Q X = wm (evs fs) ρ (fun rs ρ' => match ρ'.looks rs with
    | some ds => oR (k ds) ρ' Q
    | none => False) X := by
  unfold fN
  simp only [wm_bind, wm_opN]
theorem wm_tup {fs : List (M R)} : wm (fTup fs) ρ Q X = wm (evs fs) ρ (fun rs ρ' => match settled rs with
    | some ds => szOk ds.length ∧ Q (.v (.tup ds)) ρ'
    | none => False) X := by
  unfold fTup
  rw [wm_bind]
  congr 1
  funext rs ρ'
  unfold wm mkTup
  cases settled rs with
  | none => rfl
  | some ds =>
    by_cases z : szOk ds.length
    · simp [z]
    · simp [z]
theorem wm_lst {fs : List (M R)} : wm (fLst fs) ρ Q X = wm (evs fs) ρ (fun rs ρ' => match settled rs with
    | some ds => szOk ds.length ∧ Q (.n (.lst ds)) ρ'
    | none => False) X := by
  unfold fLst
  rw [wm_bind]
  congr 1
  funext rs ρ'
  unfold wm mkLst
  cases settled rs with
  | none => rfl
  | some ds =>
    by_cases z : szOk ds.length
    · simp [z]
    · simp [z]
theorem wm_bool {Q : Bool → EV → Prop} : wm (fBool f) ρ Q X = wm f ρ (fun r ρ' => match r with
    | .v (.bl b) => Q b ρ'
    | _ => False) X := by
  unfold fBool
  rw [wm_bind]
  congr 1
  funext r ρ'
  cases r with
  | v d => cases d <;> rfl
  | _ => rfl
variable {t u : M Bool}
theorem wm_notB {Q : Bool → EV → Prop} : wm (fNotB t) ρ Q X = wm t ρ (fun b ρ' => Q (!b) ρ') X := by
  unfold fNotB
  simp only [wm_bind, wm_ret]
theorem wm_andB {Q : Bool → EV → Prop} : wm (fAndB t u) ρ Q X = wm t ρ (fun b ρ' => if b = true then wm u ρ' Q X else Q false ρ') X := by
  unfold fAndB
  rw [wm_bind]
  congr 1
  funext b ρ'
  cases b <;> rfl
theorem wm_orB {Q : Bool → EV → Prop} : wm (fOrB t u) ρ Q X = wm t ρ (fun b ρ' => if b = true then Q true ρ' else wm u ρ' Q X) X := by
  unfold fOrB
  rw [wm_bind]
  congr 1
  funext b ρ'
  cases b <;> rfl
theorem wm_and : wm (fAnd f g) ρ Q X = wm f ρ (fun r ρ' => match r with
    | .v (.bl b) => if b = true then wm g ρ' Q X else Q (.v (.bl false)) ρ'
    | _ => False) X := by
  unfold fAnd
  rw [wm_bind]
  congr 1
  funext r ρ'
  cases r with
  | v d =>
    cases d with
    | bl b => cases b <;> rfl
    | _ => rfl
  | _ => rfl
theorem wm_or : wm (fOr f g) ρ Q X = wm f ρ (fun r ρ' => match r with
    | .v (.bl b) => if b = true then Q (.v (.bl true)) ρ' else wm g ρ' Q X
    | _ => False) X := by
  unfold fOr
  rw [wm_bind]
  congr 1
  funext r ρ'
  cases r with
  | v d =>
    cases d with
    | bl b => cases b <;> rfl
    | _ => rfl
  | _ => rfl
theorem wm_if : wm (fIf t f g) ρ Q X = wm t ρ (fun b ρ' => if b = true then wm f ρ' Q X else wm g ρ' Q X) X := by
  unfold fIf
  rw [wm_bind]
  congr 1
  funext b ρ'
  cases b <;> rfl
theorem wm_chain {k k' : D → D → Option R} : wm (fChain k k' f g h) ρ Q X = wm f ρ (fun r1 ρ1 => wm g ρ1 (fun r2 ρ2 => oD (ρ2.look r1) fun d1 => oD (ρ2.look r2) fun d2 => oR (k d1 d2) ρ2 fun r ρ3 => match r with
    | .v (.bl b) => if b = true then wm h ρ3 (fun r3 ρ4 => oD (ρ4.look r2) fun d2 => oD (ρ4.look r3) fun d3 => oR (k' d2 d3) ρ4 Q) X else Q (.v (.bl false)) ρ3
    | _ => False) X) X := by
  unfold fChain
  rw [wm_bind]
  congr 1
  funext r1 ρ1
  rw [wm_bind]
  congr 1
  funext r2 ρ2
  rw [wm_bind, wm_op2]
  congr 1
  funext d1
  congr 1
  funext d2
  congr 1
  funext r ρ3
  cases r with
  | v d =>
    cases d with
    | bl b =>
      cases b with
      | true =>
        simp only [if_true]
        rw [wm_bind]
        simp only [wm_op2]
      | false => rfl
    | _ => rfl
  | _ => rfl
theorem wm_asInt {Q : Option Int → EV → Prop} : wm (asInt f) ρ Q X = wm f ρ (fun r ρ' => match r with
    | .v (.int i) => Q (some i) ρ'
    | _ => False) X := by
  unfold asInt
  rw [wm_bind]
  congr 1
  funext r ρ'
  cases r with
  | v d => cases d <;> rfl
  | _ => rfl
theorem wm_noInt {Q : Option Int → EV → Prop} : wm noInt ρ Q X = Q none ρ := rfl
theorem wm_sl {lo hi : M (Option Int)} : wm (fSl f lo hi) ρ Q X = wm f ρ (fun r ρ1 => wm lo ρ1 (fun l ρ2 => wm hi ρ2 (fun u ρ' => oD (ρ'.look r) fun d => oR (slD l u d) ρ' Q) X) X) X := by
  unfold fSl
  simp only [wm_bind, wm_op1]
theorem wm_srcD {Q : List D → EV → Prop} : wm (srcD f) ρ Q X = wm f ρ (fun r ρ' => match r with
    | .v d => (match itemsD d with
      | some ds => Q ds ρ'
      | none => False)
    | _ => False) X := by
  unfold srcD
  rw [wm_bind]
  congr 1
  funext r ρ'
  unfold wm
  cases r with
  | v d =>
    simp only
    cases itemsD d <;> rfl
  | _ => rfl
theorem wm_srcN {k : List D → Option (List D)} {fs : List (M R)} {Q : List D → EV → Prop} : wm (srcN k fs) ρ Q X = wm (evs fs) ρ (fun rs ρ' => match settled rs with
    | some ds => (match k ds with
      | some xs => Q xs ρ'
      | none => False)
    | none => False) X := by
  unfold srcN
  rw [wm_bind]
  congr 1
  funext rs ρ'
  unfold wm
  cases settled rs with
  | none => rfl
  | some ds =>
    simp only
    cases k ds <;> rfl
theorem wm_fmt : wm (fFmt f) ρ Q X = wm f ρ (fun r ρ' => match r with
    | .v (.str y) => szOk y.length ∧ Q (.v (.str y)) ρ'
    | .v (.int i) => i.natAbs.log2 < 1920 ∧ Q (.v (.str (toString i))) ρ'
    | _ => False) X := by
  unfold fFmt
  rw [wm_bind]
  congr 1
  funext r ρ'
  unfold wm
  cases r with
  | v d =>
    cases d with
    | str y =>
      by_cases z : szOk y.length
      · simp [z]
      · simp [z]
    | int i =>
      by_cases z : i.natAbs.log2 < 1920
      · simp [z]
      · simp [z]
    | _ => rfl
  | _ => rfl
theorem wm_js_nil {acc : Str} : wm (fJs [] acc) ρ Q X = Q (.v (.str acc)) ρ := rfl
theorem wm_js_cons {fs : List (M R)} {acc : Str} : wm (fJs (f :: fs) acc) ρ Q X = wm f ρ (fun r ρ' => match r with
    | .v (.str y) => szOk (acc ++ y).length ∧ wm (fJs fs (acc ++ y)) ρ' Q X
    | _ => False) X := by
  show wm (f.bind _) ρ Q X = _
  rw [wm_bind]
  congr 1
  funext r ρ'
  unfold wm
  cases r with
  | v d =>
    cases d with
    | str y =>
      by_cases z : szOk (acc ++ y).length
      · simp [z]
      · simp [z]
    | _ => rfl
  | _ => rfl
theorem wm_tru {Q : Bool → EV → Prop} : wm (fTru f) ρ Q X = wm f ρ (fun r ρ' => oD (ρ'.look r) fun d => match truD d with
    | some b => Q b ρ'
    | none => False) X := by
  unfold fTru
  rw [wm_bind]
  congr 1
  funext r ρ'
  unfold wm oD
  simp only
  cases e : ρ'.look r with
  | none => rfl
  | some d =>
    simp only
    cases truD d <;> rfl
theorem wm_strM {k : Str → D → Option R} : wm (fStrM k f g) ρ Q X = wm f ρ (fun r ρ1 => match r with
    | .v (.str a) => wm g ρ1 (fun s ρ' => oD (ρ'.look s) fun d => oR (k a d) ρ' Q) X
    | _ => False) X := by
  unfold fStrM
  rw [wm_bind]
  congr 1
  funext r ρ'
  cases r with
  | v d =>
    cases d with
    | str a =>
      simp only
      rw [wm_bind]
      simp only [wm_op1]
    | _ => rfl
  | _ => rfl
theorem wm_mutL {m : D → List D → Option (D × D)} {i : Nat} {fs : List (M R)} : wm (fMutL m i fs) ρ Q X = (match ρ.obj i with
    | some (.lst _) => wm (evs fs) ρ (fun rs ρ' => match ρ'.obj i with
      | some d => (match settled rs with
        | some ds => (match m d ds with
          | some (d', q) => Q (.v q) (ρ'.put i d')
          | none => False)
        | none => False)
      | none => False) X
    | _ => False) := by
  have h : ∀ rs ρ', wm (mutR m i rs) ρ' Q X = (match ρ'.obj i with
      | some d => (match settled rs with
        | some ds => (match m d ds with
          | some (d', q) => Q (.v q) (ρ'.put i d')
          | none => False)
        | none => False)
      | none => False) := fun rs ρ' => by
    unfold wm mutR
    cases ρ'.obj i with
    | none => rfl
    | some d =>
      simp only
      cases settled rs with
      | none => rfl
      | some ds =>
        simp only
        cases m d ds with
        | none => rfl
        | some x => rfl
  have h2 : wm (fMut m i fs) ρ Q X = wm (evs fs) ρ (fun rs ρ' => match ρ'.obj i with
      | some d => (match settled rs with
        | some ds => (match m d ds with
          | some (d', q) => Q (.v q) (ρ'.put i d')
          | none => False)
        | none => False)
      | none => False) X := by
    unfold fMut
    rw [wm_bind]
    congr 1
    funext rs ρ'
    exact h rs ρ'
  rw [← h2]
  unfold wm fMutL hasObj
  cases ρ.obj i with
  | none => rfl
  | some d => cases d <;> rfl
/-! ### calls -/
def wc (fb : F) (N : Nat) (rs : List R) (ρ : EV) (Q : R → EV → Prop) (X : XD → EV → Prop) : Prop := match ρ.objs (argIx rs) with
  | some ds => ((argIx rs).map ρ.key).Nodup ∧ wf fb ⟨argSl rs 0 ++ List.replicate (N - rs.length) none, ds⟩ ⟨fun ρ' => Q (.v .non) (ρ.puts (argIx rs) ρ'.ps), fun r ρ' => (match r with
    | .v d => Q (.v d) (ρ.puts (argIx rs) ρ'.ps)
    | .n d => Q (.n d) (ρ.puts (argIx rs) ρ'.ps)
    | .s _ => False), fun _ => False, fun _ => False, fun e ρ' => X e (ρ.puts (argIx rs) ρ'.ps)⟩
  | none => False
theorem wm_callR {fb : F} {N : Nat} {rs : List R} : wm (callR fb N rs) ρ Q X = wc fb N rs ρ Q X := by
  unfold wm callR wc wf
  cases ρ.objs (argIx rs) with
  | none => rfl
  | some ds =>
    by_cases z : ((argIx rs).map ρ.key).Nodup
    · simp only [z, if_true, true_and]
      cases fb ⟨argSl rs 0 ++ List.replicate (N - rs.length) none, ds⟩ with
      | none => rfl
      | some x =>
        cases x with
        | ret r ρ' => cases r <;> rfl
        | _ => rfl
    · simp [z]
theorem wm_call {fb : F} {N : Nat} {fs : List (M R)} : wm (fCall fb N fs) ρ Q X = wm (evs fs) ρ (fun rs ρ' => wc fb N rs ρ' Q X) X := by
  unfold fCall
  simp only [wm_bind, wm_callR]
/-! ### statements -/
theorem wf_skip : wf fSkip ρ E = E.nx ρ := rfl
theorem wf_seq : wf (fSeq p q) ρ E = wf p ρ ⟨fun ρ' => wf q ρ' E, E.rt, E.bk, E.ct, E.ex⟩ := by
  unfold wf fSeq
  cases p ρ with
  | none => rfl
  | some x => cases x <;> rfl
/-- what is left to do -/
def later (q : F) (E : Ko) : EV → Prop := fun ρ => wf q ρ E
theorem wf_seqL : wf (fSeqL p q) ρ E = wf p ρ ⟨later q E, E.rt, E.bk, E.ct, E.ex⟩ := wf_seq
theorem later_eq : later q E ρ = wf q ρ E := rfl
theorem wf_kill {ks : List Nat} : wf (fKill ks p) ρ E = wf p ρ ⟨fun ρ' => E.nx (ρ'.kills ks), E.rt, E.bk, E.ct, E.ex⟩ := by
  unfold wf fKill
  cases p ρ with
  | none => rfl
  | some x => cases x <;> rfl
theorem wf_ofM {f : M α} {k : α → EV → Option Flow} : wf (ofM f k) ρ E = wm f ρ (fun a ρ' => wf (k a) ρ' E) E.ex := by
  unfold wf wm ofM
  cases f ρ with
  | none => rfl
  | some x => cases x <;> rfl
theorem wf_expr : wf (fExpr f) ρ E = wm f ρ (fun _ ρ' => E.nx ρ') E.ex := wf_ofM
theorem wf_fret : wf (fRet f) ρ E = wm f ρ (fun r ρ' => match r with
    | .v d => E.rt (.v d) ρ'
    | .n d => E.rt (.n d) ρ'
    | .s i => match gets ρ'.sl i with
      | some (.own d) => E.rt (.n d) (ρ'.kill i)
      | _ => False) E.ex := by
  unfold fRet
  rw [wf_ofM]
  congr 1
  funext r ρ'
  unfold wf gets
  cases r with
  | v d => rfl
  | n d => rfl
  | s i =>
    simp only
    cases ρ'.sl[i]? with
    | none => rfl
    | some o =>
      cases o with
      | none => rfl
      | some s => cases s <;> rfl
theorem wf_retN : wf fRetN ρ E = E.rt (.v .non) ρ := rfl
theorem wf_ifS : wf (fIfS t p q) ρ E = wm t ρ (fun b ρ' => if b = true then wf p ρ' E else wf q ρ' E) E.ex := by
  unfold fIfS
  rw [wf_ofM]
  congr 1
  funext b ρ'
  cases b <;> rfl
theorem wf_setN {i : Nat} : wf (fSetN i f) ρ E = wm f ρ (fun r ρ' => match r with
    | .v d => E.nx (ρ'.set i (.val d))
    | .n d => E.nx (ρ'.set i (.own d))
    | .s _ => False) E.ex := by
  unfold fSetN
  rw [wf_ofM]
  congr 1
  funext r ρ'
  cases r <;> rfl
theorem wf_setV {i : Nat} : wf (fSetV i f) ρ E = wm f ρ (fun r ρ' => match r with
    | .v d => E.nx (ρ'.set i (.val d))
    | .n d => E.nx (ρ'.set i (.val d))
    | .s _ => False) E.ex := by
  unfold fSetV
  rw [wf_ofM]
  congr 1
  funext r ρ'
  cases r <;> rfl
theorem wf_setT {t : Tg} : wf (fSetT t f) ρ E = wm f ρ (fun r ρ' => match r with
    | .v d => (match t d ρ' with
      | some ρ1 => E.nx ρ1
      | none => False)
    | _ => False) E.ex := by
  unfold fSetT
  rw [wf_ofM]
  congr 1
  funext r ρ'
  unfold wf
  cases r with
  | v d => simp only; cases t d ρ' <;> rfl
  | _ => rfl
theorem wf_par {is : List Nat} {fs : List (M R)} : wf (fPar is fs) ρ E = wm (evs fs) ρ (fun rs ρ' => match settled rs with
    | some ds => is.length = ds.length ∧ E.nx ((is.zip ds).foldl (fun ρ p => ρ.set p.1 (.val p.2)) ρ')
    | none => False) E.ex := by
  unfold fPar
  rw [wf_ofM]
  congr 1
  funext rs ρ'
  unfold wf parV
  cases settled rs with
  | none => rfl
  | some ds =>
    by_cases z : is.length = ds.length
    · simp [z]
    · simp [z]
theorem wf_ofM_aug {i : Nat} {z : Int → Int} : wf (ofM f fun r ρ1 => match r with
    | .v (.int y) => some (.nx (ρ1.set i (.val (.int (z y)))))
    | _ => none) ρ E = wm f ρ (fun r ρ' => match r with
      | .v (.int y) => E.nx (ρ'.set i (.val (.int (z y))))
      | _ => False) E.ex := by
  rw [wf_ofM]
  congr 1
  funext r ρ'
  cases r with
  | v d => cases d <;> rfl
  | _ => rfl
theorem wf_augI {i : Nat} {k : Int → Int → Int} : wf (fAugI i k f) ρ E = (match gets ρ.sl i with
    | some (.val (.int x)) => wm f ρ (fun r ρ' => match r with
      | .v (.int y) => E.nx (ρ'.set i (.val (.int (k x y))))
      | _ => False) E.ex
    | _ => False) := by
  unfold fAugI gets
  cases e : ρ.sl[i]? with
  | none => simp only [wf, e]
  | some o =>
    cases o with
    | none => simp only [wf, e]
    | some s =>
      cases s with
      | val d =>
        cases d with
        | int x =>
          simp only
          rw [← wf_ofM_aug]
          simp only [wf, e] <;> rfl
        | _ => simp only [wf, e]
      | _ => simp only [wf, e]
theorem wf_break : wf fBreak ρ E = E.bk ρ := rfl
theorem wf_cont : wf fCont ρ E = E.ct ρ := rfl
theorem wf_thru : wf (fThru p) ρ E = wf p ρ ⟨E.nx, E.rt, E.bk, E.ct, fun _ _ => False⟩ := by
  unfold wf fThru
  cases p ρ with
  | none => rfl
  | some x => cases x <;> rfl
theorem wf_forL_nil {tg : Tg} {ks : List Nat} : wf (forL tg p ks []) ρ E = E.nx ρ := rfl
theorem wf_forL_cons {tg : Tg} {ks : List Nat} {d : D} {ds : List D} : wf (forL tg p ks (d :: ds)) ρ E = (match tg d ρ with
    | some ρ1 => wf p ρ1 ⟨fun ρ2 => wf (forL tg p ks ds) (ρ2.kills ks) E, E.rt, E.nx, fun ρ2 => wf (forL tg p ks ds) (ρ2.kills ks) E, E.ex⟩
    | none => False) := by
  have h : forL tg p ks (d :: ds) ρ = (match tg d ρ with
    | none => none
    | some ρ1 => (match p ρ1 with
      | some (.nx ρ2) => forL tg p ks ds (ρ2.kills ks)
      | some (.ct ρ2) => forL tg p ks ds (ρ2.kills ks)
      | some (.bk ρ2) => some (.nx ρ2)
      | o => o)) := rfl
  unfold wf
  rw [h]
  cases tg d ρ with
  | none => rfl
  | some ρ1 =>
    simp only
    cases p ρ1 with
    | none => rfl
    | some x => cases x <;> rfl
theorem wf_for {src : M (List D)} {tg : Tg} {ks : List Nat} : wf (fFor src tg p ks) ρ E = wm src ρ (fun ds ρ' => wf (forL tg p ks ds) ρ' E) E.ex := wf_ofM
/-- behind a loop: known names -/
theorem wf_forK {src : M (List D)} {tg : Tg} {ks : List Nat} : wf (fFor src tg p ks) ρ E = wm src ρ (fun ds ρ' => wf (forL tg p ks ds) ρ' E) E.ex := wf_ofM
/-- a loop by what holds ahead of each pass -/
theorem wf_forL {tg : Tg} {ks : List Nat} (I : List D → EV → Prop) (hs : ∀ d ds ρ, I (d :: ds) ρ → ∃ ρ1, tg d ρ = some ρ1 ∧ wf p ρ1 ⟨fun ρ2 => I ds (ρ2.kills ks), E.rt, E.nx, fun ρ2 => I ds (ρ2.kills ks), E.ex⟩) (he : ∀ ρ, I [] ρ → E.nx ρ) :
    ∀ (ds : List D) (ρ : EV), I ds ρ → wf (forL tg p ks ds) ρ E
  | [], ρ, h => he ρ h
  | d :: ds, ρ, h => by
    rw [wf_forL_cons]
    obtain ⟨ρ1, e, q⟩ := hs d ds ρ h
    rw [e]
    exact wf_mono q (fun ρ2 z => wf_forL I hs he ds _ z) (fun _ _ z => z) (fun _ z => z) (fun ρ2 z => wf_forL I hs he ds _ z) (fun _ _ z => z)
/-- while, by a measure -/
theorem wf_while {ks : List Nat} (I : Nat → EV → Prop) (hs : ∀ n ρ, I n ρ → wm t ρ (fun b ρ1 => if b = true then ∃ m, m < n ∧ wf p ρ1 ⟨fun ρ2 => I m (ρ2.kills ks), E.rt, E.nx, fun ρ2 => I m (ρ2.kills ks), E.ex⟩ else E.nx ρ1) E.ex) :
    ∀ (n fu : Nat) (ρ : EV), n < fu → I n ρ → wf (fWhile t p ks fu) ρ E
  | n, 0, ρ, h, _ => absurd h (Nat.not_lt_zero _)
  | n, fu + 1, ρ, h, hi => by
    have q := hs n ρ hi
    have rec_ : ∀ m ρ2, m < n → I m ρ2 → wf (fWhile t p ks fu) ρ2 E := fun m ρ2 hm him => wf_while I hs m fu ρ2 (by omega) him
    unfold wm at q
    have hw : fWhile t p ks (fu + 1) ρ = (match t ρ with
      | some (.ok true ρ1) => (match p ρ1 with
        | some (.nx ρ2) => fWhile t p ks fu (ρ2.kills ks)
        | some (.ct ρ2) => fWhile t p ks fu (ρ2.kills ks)
        | some (.bk ρ2) => some (.nx ρ2)
        | o => o)
      | some (.ok false ρ1) => some (.nx ρ1)
      | some (.ex e ρ') => some (.ex e ρ')
      | none => none) := rfl
    unfold wf
    rw [hw]
    cases et : t ρ with
    | none => rw [et] at q; exact q.elim
    | some x =>
      rw [et] at q
      cases x with
      | ex e ρ' => exact q
      | ok b ρ1 =>
        cases b with
        | false => exact q
        | true =>
          simp only [if_true] at q
          obtain ⟨m, hm, q⟩ := q
          unfold wf at q
          simp only
          cases ep : p ρ1 with
          | none => rw [ep] at q; exact q.elim
          | some y =>
            rw [ep] at q
            cases y with
            | nx ρ2 => exact rec_ m _ hm q
            | ct ρ2 => exact rec_ m _ hm q
            | _ => exact q
/-! ### comprehensions -/
theorem wm_comp {src : M (List D)} {vs : List Nat} {tg : Tg} {tt : M Bool} {el : M R} : wm (fComp src vs tg tt el) ρ Q X = wm src ρ (fun ds ρ' => wm (compL vs tg tt el ds []) (ρ'.kills vs) (fun acc ρ2 => Q (.n (.lst acc)) ρ2) (fun _ _ => False)) X := by
  unfold fComp
  rw [wm_bind]
  congr 1
  funext ds ρ'
  unfold wm
  simp only
  cases compL vs tg tt el ds [] (ρ'.kills vs) with
  | none => rfl
  | some x => cases x <;> rfl
theorem wm_compL_nil {vs : List Nat} {tg : Tg} {tt : M Bool} {el : M R} {acc : List D} {Q : List D → EV → Prop} : wm (compL vs tg tt el [] acc) ρ Q X = Q acc ρ := rfl
/-- each element's value, its room unchanged -/
theorem wm_compL {vs : List Nat} {tg : Tg} {tt : M Bool} {el : M R} {Q : List D → EV → Prop} (I : EV → Prop) (k : D → Option D) {ds : List D}
    (hs : ∀ d ∈ ds, ∀ ρ, I ρ → ∃ ρ1, tg d ρ = some ρ1 ∧ wm tt ρ1 (fun b ρ2 => if b = true then wm el ρ2 (fun r ρ3 => ∃ y, r = .v y ∧ k d = some y ∧ I (ρ3.kills vs)) (fun _ _ => False) else k d = none ∧ I (ρ2.kills vs)) (fun _ _ => False)) :
    ∀ (acc : List D) (ρ : EV), I ρ → szOk (acc.length + ds.length) → (∀ ρ', I ρ' → Q (acc ++ ds.filterMap k) ρ') → wm (compL vs tg tt el ds acc) ρ Q X := by
  induction ds with
  | nil => intro acc ρ h _ hQ; have := hQ ρ h; rw [List.filterMap_nil, List.append_nil] at this; exact this
  | cons d ds ih =>
    intro acc ρ h hz hQ
    have hsd : ∀ d' ∈ ds, ∀ ρ, I ρ → _ := fun d' hd => hs d' (List.mem_cons_of_mem _ hd)
    obtain ⟨ρ1, e, q⟩ := hs d List.mem_cons_self ρ h
    have hc : compL vs tg tt el (d :: ds) acc ρ = (match tt ρ1 with
      | some (.ok true ρ2) => (match el ρ2 with
        | some (.ok (.v y) ρ3) => if szOk (acc.length + 1) then compL vs tg tt el ds (acc ++ [y]) (ρ3.kills vs) else none
        | _ => none)
      | some (.ok false ρ2) => compL vs tg tt el ds acc (ρ2.kills vs)
      | _ => none) := by
      show (match tg d ρ with
        | none => none
        | some ρ1 => (match tt ρ1 with
          | some (.ok true ρ2) => (match el ρ2 with
            | some (.ok (.v y) ρ3) => if szOk (acc.length + 1) then compL vs tg tt el ds (acc ++ [y]) (ρ3.kills vs) else none
            | _ => none)
          | some (.ok false ρ2) => compL vs tg tt el ds acc (ρ2.kills vs)
          | _ => none)) = _
      rw [e]
    unfold wm
    rw [hc]
    unfold wm at q
    cases et : tt ρ1 with
    | none => rw [et] at q; exact q.elim
    | some x =>
      rw [et] at q
      cases x with
      | ex e ρ' => exact q.elim
      | ok b ρ2 =>
        cases b with
        | false =>
          obtain ⟨hk, hi⟩ := (show k d = none ∧ I (ρ2.kills vs) from q)
          have := ih hsd acc _ hi (by unfold szOk at hz ⊢; rw [List.length_cons] at hz; omega) (fun ρ' z => by
            have := hQ ρ' z
            rw [List.filterMap_cons_none hk] at this
            exact this)
          exact this
        | true =>
          have q2 : wm el ρ2 (fun r ρ3 => ∃ y, r = .v y ∧ k d = some y ∧ I (ρ3.kills vs)) (fun _ _ => False) := q
          unfold wm at q2
          simp only
          cases ee : el ρ2 with
          | none => rw [ee] at q2; exact q2.elim
          | some x =>
            rw [ee] at q2
            cases x with
            | ex e ρ' => exact q2.elim
            | ok r ρ3 =>
              obtain ⟨y, rfl, hk, hi⟩ := q2
              have hz1 : szOk (acc.length + 1) := by unfold szOk at hz ⊢; rw [List.length_cons] at hz; omega
              simp only [hz1, if_true]
              exact ih hsd (acc ++ [y]) _ hi (by unfold szOk at hz ⊢; rw [List.length_append, List.length_cons, List.length_nil]; rw [List.length_cons] at hz; omega) (fun ρ' z => by
                have := hQ ρ' z
                rw [List.filterMap_cons_some hk] at this
                rw [List.append_assoc]
                exact this)
end
end DL
set_option Elab.async false
set_option linter.all false
set_option maxRecDepth 100000
set_option maxHeartbeats 4000000
/-! DQ: plain facts of data: equality, slices, texts. -/
namespace DL
open PySem PySem.Spec
open L2 (atI ixN)
theorem wf_seqZ {p q : F} {ρ : EV} {E : Ko} : wf (fSeq p q) ρ E = wf p ρ ⟨later q E, E.rt, E.bk, E.ct, E.ex⟩ := wf_seq
def laterM {α : Type} (f : M α) (Q : α → EV → Prop) (X : XD → EV → Prop) : EV → Prop := fun ρ => wm f ρ Q X
theorem laterM_eq {α : Type} {f : M α} {Q : α → EV → Prop} {X : XD → EV → Prop} {ρ : EV} : laterM f Q X ρ = wm f ρ Q X := rfl
theorem wm_orBZ {t u : M Bool} {ρ : EV} {Q : Bool → EV → Prop} {X : XD → EV → Prop} : wm (fOrB t u) ρ Q X = wm t ρ (fun b ρ' => if b = true then Q true ρ' else laterM u Q X ρ') X := wm_orB
theorem wm_andBZ {t u : M Bool} {ρ : EV} {Q : Bool → EV → Prop} {X : XD → EV → Prop} : wm (fAndB t u) ρ Q X = wm t ρ (fun b ρ' => if b = true then laterM u Q X ρ' else Q false ρ') X := wm_andB
/-! ### equality -/
def Dp (n : Nat) (d : D) : Prop := (py d).canLay0 = true ∧ (py d).depth ≤ n
def Dps (n : Nat) (ds : List D) : Prop := PyData.canLayAll0 (pys ds) = true ∧ PyData.depthAll (pys ds) ≤ n
theorem Dp.str {n : Nat} {s : Str} (h : PyData.strOk s = true := by decide) : Dp (n + 1) (.str s) := ⟨by simp [py, PyData.canLay0, h], by simp [py, PyData.depth]⟩
theorem Dp.int {n : Nat} {s : Int} : Dp (n + 1) (.int s) := ⟨by simp [py, PyData.canLay0], by simp [py, PyData.depth]⟩
theorem Dp.bl {n : Nat} {s : Bool} : Dp (n + 1) (.bl s) := ⟨by simp [py, PyData.canLay0], by simp [py, PyData.depth]⟩
theorem Dp.non {n : Nat} : Dp (n + 1) .non := ⟨by simp [py, PyData.canLay0], by simp [py, PyData.depth]⟩
theorem Dps.of {n : Nat} : ∀ {ds : List D}, (∀ d ∈ ds, Dp n d) → Dps n ds
  | [], _ => ⟨rfl, by simp [pys, PyData.depthAll]⟩
  | d :: ds, h => by
    obtain ⟨a1, a2⟩ := h d List.mem_cons_self
    obtain ⟨b1, b2⟩ := Dps.of fun d hd => h d (List.mem_cons_of_mem _ hd)
    refine ⟨?_, ?_⟩
    · simp only [pys, PyData.canLayAll0, a1, b1, Bool.and_self]
    · simp only [pys, PyData.depthAll]
      omega
theorem Dp.tup {n : Nat} {ds : List D} (h : ∀ d ∈ ds, Dp n d) : Dp (n + 1) (.tup ds) := by
  obtain ⟨a, b⟩ := Dps.of h
  refine ⟨?_, ?_⟩
  · simp only [py, PyData.canLay0, a]
  · simp only [py, PyData.depth]
    omega
theorem Dp.lst {n : Nat} {ds : List D} (h : ∀ d ∈ ds, Dp n d) : Dp (n + 1) (.lst ds) := by
  obtain ⟨a, b⟩ := Dps.of h
  refine ⟨?_, ?_⟩
  · simp only [py, PyData.canLay0, a]
  · simp only [py, PyData.depth]
    omega
theorem Dp.ok {n : Nat} {d : D} (h : Dp n d) (hn : n ≤ 64) : okD d = true := by
  unfold okD SeqAt.shaped
  rw [h.1, Bool.true_and, decide_eq_true_eq]
  exact Nat.le_trans h.2 hn
theorem eqB_self {n : Nat} {d : D} (h : Dp n d) : eqB d d = true := SeqAt.eqv_refl _ h.1
theorem neD_self {n : Nat} {d : D} (h : Dp n d) (hn : n ≤ 64) : neD d d = some (.v (.bl false)) := by
  have e1 := h.ok hn
  have e2 := eqB_self h
  cases d <;> simp only [neD, e1, e2, Bool.and_self, if_true, Bool.not_true, decide_true]
theorem eqD_self {n : Nat} {d : D} (h : Dp n d) (hn : n ≤ 64) : eqD d d = some (.v (.bl true)) := by
  have e1 := h.ok hn
  have e2 := eqB_self h
  cases d <;> simp only [eqD, e1, e2, Bool.and_self, if_true, decide_true]
theorem eqD_one {a b : Str} (ha : PyData.strOk a = true) (hb : PyData.strOk b = true := by decide) : eqD (.lst [.str a]) (.lst [.str b]) = some (.v (.bl (a == b))) := by
  have h1 : okD (.lst [.str a]) = true := (Dp.lst (n := 1) fun d hd => by rw [List.mem_singleton] at hd; subst hd; exact Dp.str ha).ok (by decide)
  have h2 : okD (.lst [.str b]) = true := (Dp.lst (n := 1) fun d hd => by rw [List.mem_singleton] at hd; subst hd; exact Dp.str hb).ok (by decide)
  simp only [eqD, h1, h2, Bool.and_self, if_true]
  unfold eqB
  simp only [py, pys, PyData.eqv, PyData.eqvAll, Bool.and_true]
/-! ### slices -/
theorem sIx_pos {n d : Nat} {i : Int} (h : 0 ≤ i) : HT.sIx n d (some i) = min i.toNat n := by
  obtain ⟨k, rfl⟩ := Int.eq_ofNat_of_zero_le h
  exact HT.sIx_nat n d k
theorem cut_from {α : Type} (xs : List α) {i : Int} (h : 0 ≤ i) : cutD xs (some i) none = xs.drop i.toNat := by
  unfold cutD
  rw [sIx_pos h, HT.sIx_none]
  rw [List.take_of_length_le (by rw [List.length_drop]; omega)]
  by_cases z : i.toNat ≤ xs.length
  · rw [Nat.min_eq_left z]
  · rw [Nat.min_eq_right (by omega), List.drop_length, List.drop_eq_nil_of_le (by omega)]
theorem cut_to {α : Type} (xs : List α) {i : Int} (h : 0 ≤ i) : cutD xs none (some i) = xs.take i.toNat := by
  unfold cutD
  rw [sIx_pos h, HT.sIx_none, List.drop_zero, Nat.sub_zero]
  by_cases z : i.toNat ≤ xs.length
  · rw [Nat.min_eq_left z]
  · rw [Nat.min_eq_right (by omega), List.take_length, List.take_of_length_le (by omega)]
theorem cut_mid {α : Type} (xs : List α) {i j : Int} (h : 0 ≤ i) (hj : i ≤ j) : cutD xs (some i) (some j) = (xs.drop i.toNat).take (j.toNat - i.toNat) := by
  unfold cutD
  rw [sIx_pos h, sIx_pos (by omega)]
  by_cases z : i.toNat ≤ xs.length
  · rw [Nat.min_eq_left z]
    by_cases z2 : j.toNat ≤ xs.length
    · rw [Nat.min_eq_left z2]
    · rw [Nat.min_eq_right (by omega), List.take_of_length_le (by rw [List.length_drop]; omega), List.take_of_length_le (by rw [List.length_drop]; omega)]
  · have e : min i.toNat xs.length = xs.length := by omega
    rw [e, Nat.min_eq_right (by omega), List.drop_length, List.drop_eq_nil_of_le (by omega), List.take_nil, List.take_nil]
theorem cut_neg {α : Type} (xs : List α) {i k : Int} (h : 0 ≤ i) (hk : 0 < k) (hi : i + k ≤ xs.length) : cutD xs (some i) (some (-k)) = (xs.drop i.toNat).take (xs.length - k.toNat - i.toNat) := by
  unfold cutD
  rw [sIx_pos h]
  have e : HT.sIx xs.length xs.length (some (-k)) = xs.length - k.toNat := by
    show (if -k < 0 then (-k + (xs.length : Int)).toNat else min (-k).toNat xs.length) = _
    rw [if_pos (by omega)]
    omega
  rw [e, Nat.min_eq_left (by omega)]
/-! ### texts -/
theorem strL_map : ∀ l : List Str, strL (l.map D.str) = some l
  | [] => rfl
  | x :: l => by
    show (match strL (l.map D.str) with | some bs => some (x :: bs) | none => none) = _
    rw [strL_map l]
def lens8 (ws : List Str) : Prop := ∀ w ∈ ws, w.length ≤ 8
theorem sum8 : ∀ {ws : List Str}, lens8 ws → (ws.map (·.length)).sum ≤ 8 * ws.length
  | [], _ => Nat.le_refl _
  | w :: ws, h => by
    have h1 := h w List.mem_cons_self
    have h2 := sum8 (ws := ws) fun w hw => h w (List.mem_cons_of_mem _ hw)
    rw [List.map_cons, List.sum_cons, List.length_cons]
    omega
theorem join_ok {a : Str} {ws : List Str} (h : szOk ((ws.map (·.length)).sum + ws.length * a.length)) : joinL a (ws.map D.str) = some (.v (.str (Txt.join a ws))) := by
  unfold joinL
  rw [strL_map]
  simp only [h, if_true]
theorem tl_txt (a : Str) (ws : List Str) : TL.tl (Txt.join a ws) = TL.joinL (TL.tl a) (ws.map TL.tl) := by
  rw [TL.join_eq, TL.tl_join]
theorem j_cons {s : List Nat} {x : List Nat} : ∀ {b : List (List Nat)}, b ≠ [] → TL.joinL s (x :: b) = x ++ (s ++ TL.joinL s b)
  | [], h => absurd rfl h
  | _ :: _, _ => rfl
theorem j_app {s : List Nat} : ∀ {a b : List (List Nat)}, a ≠ [] → b ≠ [] → TL.joinL s (a ++ b) = TL.joinL s a ++ (s ++ TL.joinL s b)
  | [], _, h, _ => absurd rfl h
  | [x], b, _, h => by
    show TL.joinL s (x :: b) = x ++ _
    exact j_cons h
  | x :: y :: a, b, _, h => by
    show TL.joinL s (x :: (y :: a ++ b)) = TL.joinL s (x :: y :: a) ++ _
    rw [j_cons (by simp), j_cons (by simp), j_app (by simp) h, List.append_assoc, List.append_assoc]
theorem j_len {s : List Nat} : ∀ (ws : List (List Nat)), (TL.joinL s ws).length ≤ (ws.map List.length).sum + ws.length * s.length
  | [] => Nat.zero_le _
  | [x] => by simp [TL.joinL]
  | x :: y :: r => by
    have := j_len (s := s) (y :: r)
    rw [j_cons (by simp)]
    simp only [List.length_append, List.map_cons, List.sum_cons, List.length_cons] at this ⊢
    have e : (r.length + 1 + 1) * s.length = (r.length + 1) * s.length + s.length := by rw [Nat.succ_mul]
    omega
theorem txt_len (a : Str) (ws : List Str) : (Txt.join a ws).length ≤ (ws.map (·.length)).sum + ws.length * a.length := by
  have h := j_len (s := TL.tl a) (ws.map TL.tl)
  rw [← tl_txt] at h
  rw [TL.len_tl]
  refine Nat.le_trans h ?_
  have e : (ws.map TL.tl).map List.length = ws.map (·.length) := by
    rw [List.map_map]
    exact List.map_congr_left fun w _ => (TL.len_tl w).symm
  rw [e, List.length_map, ← TL.len_tl]
  exact Nat.le_refl _
/-! ### comprehensions over written lists -/
section
variable {ρ : EV} {X : XD → EV → Prop}
theorem wm_compM {ι : Type} {vs : List Nat} {tg : Tg} {tt : M Bool} {el : M R} {Q : List D → EV → Prop} (I : EV → Prop) (f g : ι → D) {l : List ι}
    (hs : ∀ c ∈ l, ∀ ρ, I ρ → ∃ ρ1, tg (f c) ρ = some ρ1 ∧ wm tt ρ1 (fun b ρ2 => b = true ∧ wm el ρ2 (fun r ρ3 => r = .v (g c) ∧ I (ρ3.kills vs)) (fun _ _ => False)) (fun _ _ => False)) :
    ∀ (acc : List D) (ρ : EV), I ρ → szOk (acc.length + l.length) → (∀ ρ', I ρ' → Q (acc ++ l.map g) ρ') → wm (compL vs tg tt el (l.map f) acc) ρ Q X := by
  induction l with
  | nil => intro acc ρ h _ hQ; have := hQ ρ h; rw [List.map_nil, List.append_nil] at this; exact this
  | cons c l ih =>
    intro acc ρ h hz hQ
    obtain ⟨ρ1, e, q⟩ := hs c List.mem_cons_self ρ h
    rw [List.map_cons]
    have hc : compL vs tg tt el (f c :: l.map f) acc ρ = (match tt ρ1 with
      | some (.ok true ρ2) => (match el ρ2 with
        | some (.ok (.v y) ρ3) => if szOk (acc.length + 1) then compL vs tg tt el (l.map f) (acc ++ [y]) (ρ3.kills vs) else none
        | _ => none)
      | some (.ok false ρ2) => compL vs tg tt el (l.map f) acc (ρ2.kills vs)
      | _ => none) := by
      show (match tg (f c) ρ with
        | none => none
        | some ρ1 => (match tt ρ1 with
          | some (.ok true ρ2) => (match el ρ2 with
            | some (.ok (.v y) ρ3) => if szOk (acc.length + 1) then compL vs tg tt el (l.map f) (acc ++ [y]) (ρ3.kills vs) else none
            | _ => none)
          | some (.ok false ρ2) => compL vs tg tt el (l.map f) acc (ρ2.kills vs)
          | _ => none)) = _
      rw [e]
    unfold wm
    rw [hc]
    unfold wm at q
    cases et : tt ρ1 with
    | none => rw [et] at q; exact q.elim
    | some x =>
      rw [et] at q
      cases x with
      | ex e ρ' => exact q.elim
      | ok b ρ2 =>
        obtain ⟨hb, q2⟩ := q
        subst hb
        simp only
        cases ee : el ρ2 with
        | none => rw [ee] at q2; exact q2.elim
        | some x =>
          rw [ee] at q2
          cases x with
          | ex e ρ' => exact q2.elim
          | ok r ρ3 =>
            obtain ⟨rfl, hi⟩ := q2
            have hz1 : szOk (acc.length + 1) := by unfold szOk at hz ⊢; rw [List.length_cons] at hz; omega
            simp only [hz1, if_true]
            exact ih (fun c hc => hs c (List.mem_cons_of_mem _ hc)) (acc ++ [g c]) _ hi (by unfold szOk at hz ⊢; rw [List.length_append, List.length_cons, List.length_nil]; rw [List.length_cons] at hz; omega) (fun ρ' z => by
              have := hQ ρ' z
              rw [List.map_cons] at this
              rw [List.append_assoc]
              exact this)
end
end DL
set_option Elab.async false
set_option linter.all false
set_option maxRecDepth 100000
set_option maxHeartbeats 4000000
/-! DLs: an own exception's __init__ that says super().__init__(..) over ValueError, then sets fields. -/
namespace DL
open PySem PySem.Spec PyProof.Rows L2
open NdefX
section
variable {prog : Program} {w : World} {A : Around} {E : Value → Shared → Prop} {h : Heap} {g : Array GenState} {d : Drawn} {t : Nat} {os : OsState}
variable {nm q : Str} {C N : Addr} {bs bm : List Value} {hdct : Bool} {sn : List Str} {sub : List Value} {ab : Bool} {col : Option Bool} {dd : Option Addr} {k0 k1 k2 k3 k5 : Option Value}
theorem call_mw {u e t0 : Addr} {rest : List Value} {Q : Value → Shared → Prop}
    (hC : h.get? C = some (excClassObj nm q C N bs bm hdct sn sub ab col dd k0 k1 k2 k3 k5 "ValueError.__new__")) (he : h.get? e = some (PySem.HandSPX.excO C t0)) (hu : h.get? u = some (PySem.W.kxs_mw "ValueError.__init__" e)) (hrest : rest.length ≤ sizeLine)
    (hq : ∀ h' t1, (∀ b o, b ≠ e → h.get? b = some o → h'.get? b = some o) → h'.get? e = some (PySem.HandSPX.excO C t1) → Q .none ⟨h', g, d, t, os⟩) :
    wpAny (model prog w) A (call (.ref u) rest) Q E ⟨h, g, d, t, os⟩ := by
  refine wpAny_call (codeAny_of_tree ?_)
  show wpAny _ A.in1 (callAny (.ref u) ⟨rest, []⟩) _ _ _
  simp only [callAny]
  refine wpAny_bind (wpAny_load hu ?_)
  simp only [PySem.W.kxs_mw, show (Value.type "method-wrapper" == Value.type "method" || Value.type "method-wrapper" == Value.type "builtin_function_or_method" || Value.type "method-wrapper" == Value.type "method-wrapper") = true by decide, if_true]
  refine PySem.W.KFB.if_so (by decide) ?_
  refine wpAny_bind (PySem.ESX.check_bound F.excBase_ValueError hC he rfl ?_)
  refine wpAny_bind (wpAny_pure (wpAny_pure ?_))
  refine ⟨Code.quiet_builtin _ (by decide +kernel), codeAny_builtin F.excBase_ValueError.initEntry ?_⟩
  rw [Around.under_plainId F.excBase_ValueError.init.plain _]
  wp_walk
  refine hq _ h.objs.size (fun b o hb ho => ?_) ?_
  · rw [Heap.get?_update_other _ _ (Ne.symm hb)]
    exact Heap.get?_push_of_some _ ho
  · rw [Heap.get?_update_self _ (Heap.get?_push_of_some _ he) rfl]
    rfl
end
theorem one_look {α : Type} {k y : Str} {v c : α} (e : [(k, v)].lookup y = some c) : y = k ∧ c = v := by
  rw [List.lookup_cons] at e
  by_cases z : y == k
  · rw [z] at e
    cases e
    exact ⟨beq_iff_eq.mp z, rfl⟩
  · have z' : (y == k) = false := by simpa using z
    rw [z'] at e
    cases e
/-- what the written part says of such a class -/
structure SupC (P : Program) (K : PySem.W.Frag) (C : Addr) : Prop where
  oex : OexC K C
  sup : PySem.W.ks_superIn K C C "__init__" = some (some (.builtin "ValueError.__init__"))
  sub : PySem.W.subIn K (.ref C) (.type "ValueError") = some true
  mro : PySem.W.mroIn K C (.ref C) = some true
  opq : PySem.W.nsIn K cStatics "thirdparty.any" = some none
  top : (P.main.scope.names.lookup ("super" : Str)).isSome = false
section
variable {CX : CXT} {P : Program} {w : World} {K : PySem.W.Frag} {mg : Str → Option Value} {base : Heap} {N ps : List Str} {F : NF} {fI cc C : Addr} {k : Nat} {sp : Sp}
  {p0 p1 p2 p3 p4 p5 : Pos} {z : Str} {kd : Nat} {rest : List Stmt} {od : Option Addr} {sl : Array (Option Value)} {doc pm ctv : Value} {ar : Arg} {oc cl : Value} {cdd cld : Option Addr} {vs0 : Array Value} {ccs csl : Array (Option Value)} {file : Str} {tf : Tok}
theorem fn_super (T : SupC P K C) (hm : mg "super" = none) (lk : K.lookup fI = some ⟨.type "function", od, .func (F.fd doc pm ctv), sl⟩) (hcd : PySem.W.codeIn K (.ref F.c) F.qual = true) (S : NScope N ps ["__class__"] F.scope)
    (hcl : F.cl = [(("__class__" : Str), cc)]) (hcc : K.lookup cc = some ⟨cl, cld, .cell (some (.ref C)), csl⟩) (hco : K.lookup F.c = some ⟨oc, cdd, .fields vs0, ccs⟩) (hvs : vs0[2]? = some (.str file tf)) (hfile : ((P.main.file : Str) == file) = true)
    (hp : (F.params.posonlyargs ++ F.params.args).head? = some ar) (hps : ps.head? = some ar.arg) (hks : F.scope.names.lookup ("super" : Str) = some .globalImplicit)
    (hbody : F.body = .Expr (.Call (.Attribute (.Call (.Name "super" p0) [] [] p1) "__init__" p2) [.Constant (.str z) kd p3] [] p4) p5 :: rest)
    {pl : Sem Bool} (hev : ∀ env : Env, eval (.Call (.Attribute (.Call (.Name "super" p0) [] [] p1) "__init__" p2) [.Constant (.str z) kd p3] [] p4) env = (do
      let ov ← attributeBase (.Call (.Name "super" p0) [] [] p1) "__init__" env (eval (.Call (.Name "super" p0) [] [] p1) env)
      standAt p2.atName
      let (f, first) ← holding [ov] (getMethod ov "__init__" pl)
      callWith p4 f first (backTo p4 (starEach [.Constant (.str z) kd p3] env)) []))
    (hi : ∀ L, interactive (envF F fI L) = false)
    (len : ∀ vs H Q E, sp vs H Q E → vs.length = ps.length)
    (hrest : ∀ (A : Around) (outer : List Env) (s : Shared) (H : Hp) (vs : List V) (Q : VK) (E : XK), Room k (A.deeper (envF F fI s.heap.objs.size)) → sp vs H Q E → ∃ a, vs.head? = some (.ref a) ∧ H a = some (exo a C none) ∧
      ∃ t, PSs (ncx CX P w K mg base N F fI A outer s H E) rest t ∧ t { nx := fun _ H' => Q .non H', rt := Q } (startF N vs [some (.ref C)]) H) :
    FnOk P w K mg base CX (k + 1) fI (F.fd doc pm ctv) ps sp := by
  refine ⟨len, fun A outer s H args us vs Q E hr e0 hb r hsp => ?_⟩
  have hl := len _ _ _ _ hsp
  have KX : K.In s.heap := e0.mod.kin.keeps fun b o e => (e0.bs b o e).1
  have lim : s.heap.NoLimit := e0.mod.nolimit.keeps fun b o e => (e0.bs b o e).1
  have kb : ∀ b o, K.lookup b = some o → H b = none := fun b o e => (e0.bs b o (e0.mod.kin b o e)).2
  have cells : CellsAt F.cl ["__class__"] [some (V.ref C)] s.heap H := by
    rw [hcl]
    have hcell : s.heap.IsCell cc (some (.ref C)) := ⟨_, KX _ _ hcc, rfl⟩
    refine ⟨rfl, fun y c e => ?_, fun x y c e1 e2 => ?_, fun i y e => ?_⟩
    · obtain ⟨rfl, rfl⟩ := one_look e
      exact ⟨kb _ _ hcc, _, hcell⟩
    · rw [(one_look e1).1, (one_look e2).1]
    · cases i with
      | zero =>
        simp at e
        subst e
        refine ⟨cc, by rw [List.lookup_cons, beq_self_eq_true], fun v hv => ?_⟩
        simp at hv
        subst hv
        exact ⟨_, rfl, hcell⟩
      | succ i => simp at e
  obtain ⟨a, ha, hH, t, ht, hq⟩ := hrest A outer s H vs Q E (hr.deeper _) hsp
  refine ks_codeAny_call_defAt (fd := F.fd doc pm ctv) (body := F.body) (binds := ps.zip us) hr.depth (KX _ _ lk) rfl lim (PySem.W.codeRec_of KX hcd) rfl hb S.nocell (fun ⟨n, _⟩ hy => S.par n (List.of_mem_zip hy).1) (fun h₁ hns kp => ?_) S.co S.gen S.kind
  have I : Inv (ncx CX P w K mg base N F fI A outer s H E) [] (startF N vs [some (V.ref C)]) H { s with heap := h₁, toks := s.toks + (ps.zip us).length } := inv_startN S hr.hd e0 hl r cells hns kp
  have key : _root_.PySem.wpAt (model P w) (A.deeper (envF F fI s.heap.objs.size)) (.func F.body (envF F fI s.heap.objs.size)) (execs F.body (envF F fI s.heap.objs.size)) (fun f s' => CR CX outer P w H s Q E (.ok (.ret (match f with | .ret v => v | _ => .none))) s')
      (ncx CX P w K mg base N F fI A outer s H E).xe { s with heap := h₁, toks := s.toks + (ps.zip us).length } := by
    obtain ⟨nm, q, N0, bs, bm, sn, sub, ab, col, dd, k0, k1, k2, k3, k5, hC, hbm⟩ := T.oex.cls
    have hcd0 : PySem.W.clsIn K C = some { name := nm, bases := bs, mro := .ref C :: bm, ns := N0, qualname := q, hasDict := true, slotNames := sn, subclasses := sub, abstract := ab, collection := col, hasDel := false } := by unfold PySem.W.clsIn; rw [hC] <;> rfl
    have K1 : K.In h₁ := KX.keeps kp
    have hC1 := K1 _ _ hC
    rw [hbody]
    refine ks_wpAt_execs_cons (ks_wpAt_Expr_any (ks_wpAt_MethodCall (pl := pl) ?_ (hev _)) (hi _))
    refine ks_wpAt_super_base (env := envF F fI s.heap.objs.size) (ar := ar) hks (S.frk _ List.mem_cons_self) (by decide) rfl (K1 _ _ lk) rfl hp rfl (K1 _ _ hco) rfl hvs hfile T.top ?_
    obtain ⟨mb, hb1, hb2⟩ := e0.mod.blt
    have bk : ∀ b o, base.get? b = some o → h₁.get? b = some o := fun b o e => kp _ _ (e0.bs b o e).1
    refine PySem.W.ks_loadName_global (env := envF F fI s.heap.objs.size) S.kind hks (Calls.loadGlobal_builtin (env := envF F fI s.heap.objs.size) (e0.mod.glob.keeps bk) hm (hb1.keeps bk) ((hb2 "super" (by decide)).trans PyProof.Rows.Boot.«super») ⟨rfl, ?_⟩)
    refine wpAny_loadName_free (env := envF F fI s.heap.objs.size) (c := cc) (v := .ref C) S.kind (S.frk _ List.mem_cons_self) (by show F.cl.lookup _ = _; rw [hcl]; rfl) ⟨_, K1 _ _ hcc, rfl⟩ ?_
    have hps0 : ps[0]? = some ar.arg := by rw [← List.head?_eq_getElem?]; exact hps
    have hu0 : us[0]? = some (.ref a) := by
      cases r with
      | nil => cases ha
      | @cons v u vs' us' rv rr =>
        have e : some v = some (V.ref a) := ha
        cases e
        have e2 : u = .ref a := rv
        rw [e2]
        rfl
    have ndP : ps.Nodup := by
      have q := S.nd.sublist (List.take_sublist (ps.length + [("__class__" : Str)].length) N)
      rw [S.pre] at q
      exact (List.nodup_append.mp q).1
    refine wpAny_loadName_local (env := envF F fI s.heap.objs.size) S.kind (S.par _ (List.mem_of_getElem? hps0)) hns (zip_look ndP hps0 hu0) ?_
    refine PySem.ks_wpAny_isType_cls hC1 rfl ⟨rfl, ?_⟩
    obtain ⟨t1, ho⟩ := exo_at I.hok hH
    refine PySem.ks_wpAny_call_super hC1 rfl ho rfl (fun c e => by cases e) (PySem.W.looks_mroIn K1 T.mro) (fun h' e k => ?_)
    have I2 := I.kept (t' := s.toks + (ps.zip us).length) (h' := h') k
    have K2 : K.In h' := K1.keeps k
    have hne : a ≠ C := fun z => by
      have := kb _ _ hC
      rw [← z, hH] at this
      cases this
    have ho2 := k _ _ ho
    have inst : PySem.W.InstAt h' a (PySem.HandSPX.excO C t1) C none := ⟨ho2, rfl, rfl, trivial⟩
    have hsup : PySem.W.alongIn K "__init__" (((Value.ref C :: bm).dropWhile (· != .ref C)).drop 1) = some (some (.builtin "ValueError.__init__")) := by
      have := T.sup
      unfold PySem.W.ks_superIn at this
      rw [hcd0] at this
      exact this
    refine PySem.W.kxs_getMethod PySem.W.kxs_ValueError e (PySem.W.looks_opaque K2 T.opq) (l₀ := .ref C :: bm) (fun A Q E s k q => wpAny_bind ((PySem.W.looks_clsIn K2 hcd0) A _ E s k (wpAny_pure q))) rfl K2 hsup (inst.type.andThen (PySem.W.looks_subIn K2 T.sub)) hne (by decide) ?_
    have hmw : (h'.push (PySem.W.kxs_mw "ValueError.__init__" a)).get? h'.objs.size = some (PySem.W.kxs_mw "ValueError.__init__" a) := Heap.get?_push_at rfl rfl
    have k3 : ∀ b o, h'.get? b = some o → (h'.push (PySem.W.kxs_mw "ValueError.__init__" a)).get? b = some o := fun b o e => Heap.get?_push_of_some _ e
    have I3 := I2.kept (t' := s.toks + (ps.zip us).length + 1) (h' := h'.push (PySem.W.kxs_mw "ValueError.__init__" a)) k3
    have I4 : L2.Inv (ncx CX P w K mg base N F fI A outer s H E) [(h'.objs.size, PySem.W.kxs_mw "ValueError.__init__" a)] _ _ _ := I3.pins_of fun p hp => by
      rw [List.mem_singleton] at hp
      subst hp
      exact ⟨hmw, I2.hok.fresh (Nat.le_refl _), Nat.ne_of_gt I2.lt, I2.nofs (Nat.le_refl _), fun v z => by cases z⟩
    have he : starEach [.Constant (.str z) kd p3] (envF F fI s.heap.objs.size) = (false, eval (.Constant (.str z) kd p3) (envF F fI s.heap.objs.size)) :: starEach [] (envF F fI s.heap.objs.size) := rfl
    show wpAny _ _ (callWith p4 (.ref h'.objs.size) [] (backTo p4 (starEach [.Constant (.str z) kd p3] (envF F fI s.heap.objs.size))) []) _ _ _
    refine PySem.W.kxs_callWith (i := "ValueError.__init__") (x := a) (by rw [he]; rfl) ?_
    have pa : PA (ncx CX P w K mg base N F fI A outer s H E) [.Constant (.str z) kd p3] _ := pa_cons pe_str pa_nil
    have ev := pa.run p4 _ _ _ H (fun vs H' => H' = H ∧ vs.length = 1) I4 ⟨rfl, rfl⟩
    rw [show (ncx CX P w K mg base N F fI A outer s H E).env = envF F fI s.heap.objs.size from rfl, he] at ev
    rw [he]
    refine Calls.evalArgs_plain (wpAny_mono ev (fun us1 s1 ⟨vs1, H1, J, r1, e1, l1⟩ => ?_) fun _ _ z => z)
    subst e1
    have hu1 : s1.heap.get? h'.objs.size = some (PySem.W.kxs_mw "ValueError.__init__" a) := (J.pin _ (List.mem_append_right _ List.mem_cons_self)).1
    refine ⟨hu1, ?_⟩
    have J0 : L2.Inv (ncx CX P w K mg base N F fI A outer s H1 E) [] _ H1 s1 := J.pins_of fun p hp => by cases hp
    obtain ⟨t5, ho5⟩ := exo_at J0.hok hH
    have hC5 := J0.kIn _ _ hC
    obtain ⟨hp5, g5, d5, t50, os5⟩ := s1
    refine call_mw hC5 ho5 hu1 (by show us1.length ≤ sizeLine; rw [← Paired.length r1, l1]; decide +kernel) fun h6 t6 k6 hx6 => ?_
    have J6 := J0.write (t' := t50) (x := a) (e := a) (o := exo a C none) (by rw [hH]; exact True.intro) (.inl rfl) k6 ⟨_, hx6⟩ (exo_ok hx6)
    have eu : upd H1 a (exo a C none) = H1 := by
      funext b
      by_cases hb : b = a
      · rw [hb, upd_same, hH]
      · rw [upd_ne hb]
    rw [eu] at J6
    refine wpAt_of_wpAny (wpAny_mono (ht.run [] _ _ H1 _ J6 hq) (fun fl s' hs => ?_) fun e s' hs => hs)
    have fin : ∀ {σ' : L2.St} {H' : Hp} {v : V} {u : Value}, L2.Inv (ncx CX P w K mg base N F fI A outer s H1 E) [] σ' H' s' → L2.RelV v u → Q v H' → CE outer P w H1 s Q u s' :=
      fun {σ' H' v u} J rv q => ⟨v, H', J.os, J.bare, J.base, J.hok, rv, q⟩
    cases fl with
    | ret u =>
      obtain ⟨v, σ', H', J, rv, q⟩ := hs
      exact fin J rv q
    | next =>
      obtain ⟨σ', H', J, q⟩ := hs
      exact fin (v := V.non) (u := Value.none) J rfl q
    | brk =>
      obtain ⟨_, _, _, q⟩ := hs
      exact False.elim q
    | cont =>
      obtain ⟨_, _, _, q⟩ := hs
      exact False.elim q
  exact key
end
end DL
set_option Elab.async false
set_option linter.all false
set_option maxRecDepth 100000
set_option maxHeartbeats 4000000
/-! DLt: own errors raised, caught, looked at. -/
namespace DL
open PySem PySem.Spec PyProof.Rows L2
open NdefX
/-- the promise of an error's __init__(self, p): it sets one field -/
def spI (C : Addr) (f : Str) : Sp := fun vs H Q _ => ∃ a v, vs = [.ref a, v] ∧ H a = some (exo a C none) ∧ ∀ dx, H dx = none → dx ≠ a → Q .non (upd (upd H dx (exd dx [(f, v)])) a (exo a C (some dx)))
/-- all that a raise of x(e) asks; f: its one field -/
structure ErrOk (P : Program) (w : World) (K : PySem.W.Frag) (mg : Str → Option Value) (base : Heap) (x f : Str) : Prop where
  g : mg x = some (.ref (He.ga K x))
  sup : SupC P K (He.ga K x)
  init : ∃ (fI : Addr) (fd : FuncData) (p : Str), PySem.W.findIn K (.ref (He.ga K x)) "__init__" = some (some (.ref fI)) ∧ PySem.W.typeIn K (.ref fI) = some (.type "function") ∧ FnOk P w K mg base CX0 1 fI fd ["self", p] (spI (He.ga K x) f) ∧ Binds K fd ["self", p] []
section
variable {X : Cx} {C : Ctl} {W : WX} {e a b c o tg : Expr} {es rest : List Expr} {pos pos' : Pos} {f g h : M R} {fs : List (M R)} {t : M Bool} {st : Stmt} {sts sts2 body : List Stmt} {p q : F}
def fRaise (x fl : Str) (fs : List (M R)) : F := ofM (evs fs) fun rs ρ => match settled rs with
  | some [d] => some (.ex ⟨x, [(fl, d)]⟩ ρ)
  | _ => none
theorem sett1 {K : PySem.W.Frag} {G H : Hp} {σ : L2.St} {ρ : EV} {rs : List R} {vs : List V} {d : D} (r : RepRs K C G H σ ρ rs vs) (h : settled rs = some [d]) : ∃ v, vs = [v] ∧ Rep K G d v := by
  cases r with
  | nil => cases h
  | @cons r v rs vs n1 r1 rr =>
    cases r with
    | v d' =>
      unfold settled at h
      cases rr with
      | nil =>
        have h : some [d'] = some [d] := h
        cases h
        exact ⟨v, rfl, r1⟩
      | @cons r2 v2 rs2 vs2 n2 rr2 rrr =>
        exfalso
        cases e : settled (r2 :: rs2) with
        | none => rw [e] at h; cases h
        | some ds =>
          rw [e] at h
          cases h
          cases r2 with
          | v d2 =>
            unfold settled at e
            cases e2 : settled rs2 with
            | none => rw [e2] at e; cases e
            | some ds2 => rw [e2] at e; cases e
          | _ => cases e
    | _ => cases h
theorem pq_raise {x fl : Str} {px : Pos} {k : Nat} (hk : ErrOk X.prog X.w X.K X.mg X.base x fl) (hc : X.calm = true) (tk : Takes X W) (hr : Room (k + 2) X.A) (hg : Gl X x) (ha : PAs X C W [e] (evs fs))
    (hdb : (x == ("__debug__" : Str)) = false := by decide) (he : starEach [e] X.env = (false, eval e X.env) :: starEach [] X.env := by rfl) (hpl : (backTo pos (starEach [] X.env)).any (·.1) = false := by rfl) :
    PQ X C W (.Raise (some (.Call (.Name x px) [e] [] pos)) none pos') (fRaise x fl fs) := by
  obtain ⟨fI, fd, p, h1, h2, h3, h4⟩ := hk.init
  have F2 : FnOk X.prog X.w X.K X.mg X.base CX0 (k + 1) fI fd ["self", p] (spI (He.ga X.K x) fl) := h3.mono (by omega)
  refine pq_of (ps_raise hc tk (pmk_oex (p := px) (k := k + 1) hk.sup.oex h1 h2 F2 (hr.mono (by omega)) h4 (.nil) (fun _ _ _ _ _ _ _ z => z.elim) hg hk.g ha hdb he hpl)) fun D σ H q0 => ?_
  refine tS.ofA q0 fun rs ρ1 y vs G1 H1 S1 R1 hy P1 => ?_
  cases es : settled rs with
  | none => simp only [es] at hy; cases hy
  | some ds =>
    simp only [es] at hy
    match ds, hy with
    | [d], hy =>
      cases hy
      obtain ⟨v, rfl, rv⟩ := sett1 R1 es
      refine ⟨by simp, fun a hn => ⟨a, v, rfl, upd_same, fun dx hd ne => ⟨rfl, dx, [(fl, v)], upd_same, ?_, ?_, ?_⟩⟩⟩
      · rw [upd_ne ne, upd_same]
      · rw [upd_ne ne] at hd
        exact hd
      · rw [upd_ne ne] at hd
        obtain ⟨e1, S2⟩ := S1.layG hd (.xd [(fl, v)])
        have eq : upd (del (upd (upd (upd H1 a (exo a (He.ga X.K x) none)) dx (exd dx [(fl, v)])) a (exo a (He.ga X.K x) (some dx))) a) dx (.xd [(fl, v)]) = upd H1 dx (.xd [(fl, v)]) := by
          funext b
          by_cases hb : b = dx
          · rw [hb, upd_same, upd_same]
          · rw [upd_ne hb, upd_ne hb]
            by_cases hb2 : b = a
            · rw [hb2, del_same, hn]
            · rw [del_ne hb2, upd_ne hb2, upd_ne hb, upd_ne hb2]
        rw [eq]
        refine P1 _ _ σ _ _ e1 S2 ⟨rfl, .inr ⟨dx, _, rfl, upd_same, fun f z hz => ?_⟩⟩
        obtain ⟨rfl, rfl⟩ := one_look hz
        exact ⟨v, by rw [List.lookup_cons, beq_self_eq_true], rv.mono e1⟩
/-! ### caught -/
def noXn (ρ : EV) : Bool := ρ.sl.all fun o => match o with
  | some .xn => false
  | _ => true
theorem noXn_at {ρ : EV} (h : noXn ρ = true) {j : Nat} (e : ρ.sl[j]? = some (some .xn)) : False := by
  unfold noXn at h
  have := List.all_eq_true.mp h _ (List.mem_of_getElem? e)
  cases this
abbrev Ctl.exc (C : Ctl) (G : Hp) (a : Addr) : Ctl := ⟨C.H0, G, C.A0, a⟩
theorem Sta.toX {K : PySem.W.Frag} {C : Ctl} {G H : Hp} {σ : L2.St} {ρ : EV} (S : Sta K C G H σ ρ) (hn : noXn ρ = true) (i : Nat) (a : Addr) : Sta K (C.exc G a) G H (σ.set i (some (.ref a))) (ρ.set i .xn) where
  sub := S.sub
  old := Same.refl _
  new := fun a o e => .inl e
  base := S.base
  len := by simp [EV.set, S.len]
  slot := fun j s e => by
    by_cases hj : i = j
    · subst hj
      have hi : i < ρ.sl.length := by
        have := (List.getElem?_eq_some_iff.mp e).1
        simpa [EV.set] using this
      simp only [EV.set, List.getElem?_set_self hi] at e
      cases e
      exact ⟨.ref a, List.getElem?_set_self (by rw [S.len]; exact hi), rfl⟩
    · simp only [EV.set, List.getElem?_set_ne hj] at e
      obtain ⟨v, h1, h2⟩ := S.slot j s e
      refine ⟨v, by rw [List.getElem?_set_ne hj]; exact h1, ?_⟩
      cases s with
      | val d => exact h2
      | own d => exact h2
      | par k => exact h2
      | xn => exact (noXn_at hn e).elim
  dist := fun j k d e v h1 h2 h3 h4 => by
    have ne : ∀ {j : Nat} {d : D}, (ρ.set i .xn).sl[j]? = some (some (.own d)) → i ≠ j ∧ ρ.sl[j]? = some (some (.own d)) := fun {j d} h => by
      by_cases hj : i = j
      · subst hj
        have hi : i < ρ.sl.length := by
          have := (List.getElem?_eq_some_iff.mp h).1
          simpa [EV.set] using this
        simp only [EV.set, List.getElem?_set_self hi] at h
        cases h
      · simp only [EV.set, List.getElem?_set_ne hj] at h
        exact ⟨hj, h⟩
    obtain ⟨n1, h1⟩ := ne h1
    obtain ⟨n2, h2⟩ := ne h2
    rw [List.getElem?_set_ne n1] at h3
    rw [List.getElem?_set_ne n2] at h4
    exact S.dist j k d e v h1 h2 h3 h4
  plen := S.plen
  par := S.par
  pnd := S.pnd
  pin := S.pin
theorem Sta.ofX {K : PySem.W.Frag} {C : Ctl} {G H G2 H2 : Hp} {σ σ2 : L2.St} {ρ ρ2 : EV} {i : Nat} {a : Addr} (S : Sta K C G H σ ρ) (S2 : Sta K (C.exc G a) G2 H2 σ2 ρ2) (hn : noXn (ρ2.kill i) = true) : Sta K C G2 H2 (σ2.set i none) (ρ2.kill i) where
  sub := S2.sub
  old := fun b o e => S2.old b o (S.old b o e)
  new := fun b o e => by
    rcases S2.new b o e with h | h
    · exact S.new b o h
    · exact .inr h
  base := S2.base
  len := by simp [EV.kill, S2.len]
  slot := fun j s e => by
    have hj : i ≠ j := fun z => by
      subst z
      have hi : i < ρ2.sl.length := by
        have := (List.getElem?_eq_some_iff.mp e).1
        simpa [EV.kill] using this
      simp only [EV.kill, List.getElem?_set_self hi] at e
      cases e
    have e0 := e
    simp only [EV.kill, List.getElem?_set_ne hj] at e
    obtain ⟨v, h1, h2⟩ := S2.slot j s e
    refine ⟨v, by rw [List.getElem?_set_ne hj]; exact h1, ?_⟩
    cases s with
    | val d => exact h2
    | own d => exact h2
    | par k => exact h2
    | xn => exact (noXn_at hn e0).elim
  dist := fun j k d e v h1 h2 h3 h4 => by
    have ne : ∀ {j : Nat} {d : D}, (ρ2.kill i).sl[j]? = some (some (.own d)) → i ≠ j ∧ ρ2.sl[j]? = some (some (.own d)) := fun {j d} h => by
      by_cases hj : i = j
      · subst hj
        have hi : i < ρ2.sl.length := by
          have := (List.getElem?_eq_some_iff.mp h).1
          simpa [EV.kill] using this
        simp only [EV.kill, List.getElem?_set_self hi] at h
        cases h
      · simp only [EV.kill, List.getElem?_set_ne hj] at h
        exact ⟨hj, h⟩
    obtain ⟨n1, h1⟩ := ne h1
    obtain ⟨n2, h2⟩ := ne h2
    rw [List.getElem?_set_ne n1] at h3
    rw [List.getElem?_set_ne n2] at h4
    exact S2.dist j k d e v h1 h2 h3 h4
  plen := S2.plen
  par := S2.par
  pnd := S2.pnd
  pin := S2.pin
/-- try: body, except x as n: suite; the suite comes to its end -/
def fTryAs (i : Nat) (hit : Str → Option Bool) (p : F) (fs : XD → F) : F := fun ρ => match p ρ with
  | some (.ex e ρ1) => (match hit e.C with
    | some true => if noXn ρ1 = true then (match fs e (ρ1.set i .xn) with
      | some (.nx ρ2) => if noXn (ρ2.kill i) = true then some (.nx (ρ2.kill i)) else none
      | _ => none) else none
    | some false => some (.ex e ρ1)
    | none => none)
  | o => o
theorem ExR.mono {K : PySem.W.Frag} {G G' : Hp} {e : XD} {c : Value} {d : Option Addr} (h : ExR G K e c d) (s : Same G G') : ExR G' K e c d := by
  obtain ⟨h1, h2⟩ := h
  refine ⟨h1, ?_⟩
  rcases h2 with h2 | ⟨dd, fv, e1, e2, e3⟩
  · exact .inl h2
  · refine .inr ⟨dd, fv, e1, s _ _ e2, fun f x hx => ?_⟩
    obtain ⟨v, l, r⟩ := e3 f x hx
    exact ⟨v, l, r.mono s⟩
theorem pq_tryAs {x n : Str} {c0 : Value} {i : Nat} {suite : List Stmt} {b₀ : Stmt} {np p2 : Pos} {hit : Str → Option Bool} {fs : XD → F} (hs : X.stack = X.env :: X.outer) (hf : X.env.frame = some X.env.locals) (hN : X.N.Nodup) (hi : X.N[i]? = some n) (hln : X.env.kindOf n = some .local) (hc : Names X x c0) (tk : Takes X W)
    (hhit : ∀ y b, hit y = some b → PySem.W.exmOne X.K (.ref (He.ga X.K y)) c0 = some b)
    (hb : ∀ (W : WX) (pn : List (Addr × Obj)) (xe : Value → Shared → Prop), Takes (X.tr pn xe) W → PassesOwn (model X.prog X.w) X.A X.env xe → PQs (X.tr pn xe) C W body p)
    (hsu : ∀ (C' : Ctl) (e : XD) (a : Addr) (oe : Obj) (d : Option Addr) (pn : List (Addr × Obj)), C'.xa = a → ExR C'.G0 X.K e (.ref (He.ga X.K e.C)) d → Zc (.ref (He.ga X.K e.C)) d oe → (∃ vs, oe.data = .fields vs) → PQs (X.suite a ((a, oe) :: pn)) C' W0 (b₀ :: suite) (fs e)) :
    PQ X C W (.Try body [.ExceptHandler (some (.Name x np)) (some n) (b₀ :: suite) p2] [] [] pos) (fTryAs i hit p fs) := by
  refine pq_of (ps_try_as (ts := fun a cls d D σ H => ∃ C' e, C'.xa = a ∧ ExR C'.G0 X.K e cls d ∧ tS X.K C' W0 (fs e) D σ H) (tb := fun W => tS X.K C W p) hs hf hN hi hln hc tk hb (fun a oe cls d pn hz hv => ⟨fun pins s σ H D I ⟨C', e, hxa, hx, q⟩ => ?_⟩)) fun D σ H ⟨G, ρ, y, S, hy, P⟩ => ?_
  · have e1 := hx.1
    subst e1
    exact (hsu C' e a oe d pn hxa hx hz hv).run pins s σ H D I q
  · unfold fTryAs at hy
    cases e1 : p ρ with
    | none => rw [e1] at hy; cases hy
    | some z =>
      rw [e1] at hy
      refine ⟨G, ρ, z, S, e1, ?_⟩
      cases z with
      | nx ρ1 => cases hy; exact P
      | ret r ρ1 => cases hy; exact P
      | bk ρ1 => cases hy; exact P
      | ct ρ1 => cases hy; exact P
      | ex e ρ1 =>
        intro c d σ1 G1 H1 s1 S1 R1
        simp only at hy
        cases eh : hit e.C with
        | none => rw [eh] at hy; cases hy
        | some b =>
          rw [eh] at hy
          have ec := R1.1
          refine ⟨b, by rw [ec]; exact hhit _ _ eh, fun hb1 a hna => ?_, fun hb1 => ?_⟩
          · subst hb1
            simp only at hy
            split at hy
            · rename_i hnx
              cases e2 : fs e (ρ1.set i .xn) with
              | none => rw [e2] at hy; cases hy
              | some u =>
                rw [e2] at hy
                cases u with
                | nx ρ2 =>
                  simp only at hy
                  split at hy
                  · rename_i hnx2
                    cases hy
                    refine ⟨C.exc G1 a, e, rfl, R1, G1, ρ1.set i .xn, _, S1.toX hnx i a, e2, fun σ2 G2 H2 s2 S2 => ?_⟩
                    exact P (σ2.set i none) G2 H2 (s1.trans s2) (S1.ofX S2 hnx2)
                  · cases hy
                | _ => cases hy
            · cases hy
          · subst hb1
            cases hy
            exact P c d σ1 G1 H1 s1 S1 R1
/-! ### looked at -/
def fXf (i : Nat) (e : XD) (ok : Str → Bool) (fld : Str) : M R := fun ρ => match ρ.sl[i]? with
  | some (some .xn) => if ok e.C = true then (match e.fs.lookup fld with
    | some d => some (.ok (.v d) ρ)
    | none => none) else none
  | _ => none
def fIs (i : Nat) (e : XD) (kin : Str → Option Bool) : M R := fun ρ => match ρ.sl[i]? with
  | some (some .xn) => (match kin e.C with
    | some b => if e.fs.isEmpty = false then some (.ok (.v (.bl b)) ρ) else none
    | none => none)
  | _ => none
theorem pd_xf {C' : Ctl} {xd : XD} {a : Addr} {oe : Obj} {d : Option Addr} {pn : List (Addr × Obj)} {n fld : Str} {p1 : Pos} {i : Nat} {ok : Str → Bool} (hxa : C'.xa = a) (hx : ExR C'.G0 X.K xd (.ref (He.ga X.K xd.C)) d) (hz : Zc (.ref (He.ga X.K xd.C)) d oe) (hv : ∃ vs, oe.data = .fields vs)
    (T : ∀ y, ok y = true → XfC X.K (He.ga X.K y) ∧ PySem.W.findIn X.K (.ref (He.ga X.K y)) fld = some none) (he : PE (X.suite a ((a, oe) :: pn)) (.Name n p1) (tVar i)) (hb : attributeBase (.Name n p1) fld X.env (eval (.Name n p1) X.env) = eval (.Name n p1) X.env := by rfl) :
    PD (X.suite a ((a, oe) :: pn)) C' W (.Attribute (.Name n p1) fld pos) (fXf i xd ok fld) := by
  by_cases hok : ok xd.C = true
  · obtain ⟨T1, T2⟩ := T _ hok
    refine PE.of (pe_xf T1 T2 hz hv he hb) fun σ H Q ⟨G, ρ, y, S, hf, P⟩ => ?_
    unfold fXf at hf
    split at hf
    · rename_i hs
      rw [if_pos hok] at hf
      obtain ⟨v0, h1, h2⟩ := S.slot i _ hs
      have h2 : v0 = .ref C'.xa := h2
      rw [hxa] at h2
      subst h2
      cases el : xd.fs.lookup fld with
      | none => rw [el] at hf; cases hf
      | some z =>
        rw [el] at hf
        cases hf
        rcases hx.2 with h | ⟨dd, fv, e1, e2, e3⟩
        · rw [h] at el; cases el
        · obtain ⟨v, l, r⟩ := e3 _ _ el
          have e2' := S.old _ _ e2
          exact ⟨_, h1, rfl, rfl, dd, fv, v, e1, S.sub _ _ e2', l, P v G H (Same.refl _) S (r.mono S.old)⟩
    · cases hf
  · refine ⟨fun pins s σ H Q I ⟨G, ρ, y, S, hf, P⟩ => ?_⟩
    unfold fXf at hf
    split at hf
    · rw [if_neg hok] at hf; cases hf
    · cases hf
theorem call_isD {D a : Addr} {oe : Obj} {d : Option Addr} {pn : List (Addr × Obj)} (T : ExcC X.K D) (hz : Zc (.ref D) d oe) (hf : ∃ vs, oe.data = .fields vs) :
    CallR (X.suite a ((a, oe) :: pn)) (.builtin "isinstance") (fun xs H Q => (d = none ∨ ∃ dd fs, d = some dd ∧ H dd = some (.xd fs)) ∧ rIsE X.K D a xs H Q) := by
  intro pins s σ H xs us Q I r ⟨hd, h⟩
  obtain ⟨c, cv, b, rfl, hcv, e, q⟩ := h
  cases r with
  | cons rx rr =>
    cases rr with
    | cons rt rr =>
      cases rr
      cases rx
      have ec := hcv _ rt
      subst ec
      obtain ⟨hget, _⟩ := I.pin (a, oe) (List.mem_append.mpr (.inl List.mem_cons_self))
      obtain ⟨vs, hv⟩ := hf
      have J : ∃ od, PySem.W.InstAt s.heap a oe D od := by
        rcases hd with rfl | ⟨dd, fs, rfl, ea⟩
        · obtain ⟨oc, od, oda, osl⟩ := oe
          obtain ⟨h1, h2⟩ := hz
          dsimp only at h1 h2 hv
          subst h1 h2 hv
          exact ⟨none, hget, rfl, rfl, trivial⟩
        · have hx : ObjOk X.prog X.w H s.heap dd (.xd fs) := I.hok dd _ ea
          obtain ⟨mA, hns, hr⟩ := hx
          obtain ⟨od, ho, hl⟩ := lookIn_ns hns
          exact ⟨some od, hget, hz.1, by unfold PySem.W.notCls; rw [hv] <;> rfl, by rw [hz.2]; exact ho⟩
      obtain ⟨od, J⟩ := J
      exact PySem.W.kia_one (PySem.W.kitx_exc (od := od) (by obtain ⟨cd, hc, _⟩ := PySem.W.any_some T.hd; rw [hc]; rfl) T.hg T.hk T.hs T.ha T.hn T.ht T.hm) I.kIn J e (fun z => nomatch z) fun tk => ⟨.bl b, H, I.kept (t' := tk) fun _ _ z => z, rfl, q⟩
theorem pd_isE {C' : Ctl} {xd : XD} {a0 : Addr} {oe : Obj} {d : Option Addr} {pn : List (Addr × Obj)} {n : Str} {p1 p2 : Pos} {i : Nat} {kin : Str → Option Bool} {te : Expr} {cV : V} {cv : Value} (hxa : C'.xa = a0) (hx : ExR C'.G0 X.K xd (.ref (He.ga X.K xd.C)) d) (hz : Zc (.ref (He.ga X.K xd.C)) d oe) (hv : ∃ vs, oe.data = .fields vs)
    (T : ∀ y b, kin y = some b → ExcC X.K (He.ga X.K y) ∧ PySem.W.kitOne X.K (.ref (He.ga X.K y)) cv = some b) (he : PE (X.suite a0 ((a0, oe) :: pn)) (.Name n p1) (tVar i)) (ht : PE (X.suite a0 ((a0, oe) :: pn)) te (tC cV)) (hcv : ∀ u, RelV cV u → u = cv)
    (hg : Gl X "isinstance") (hm : X.mg "isinstance" = none) (hsE : starEach [.Name n p1, te] X.env = (false, eval (.Name n p1) X.env) :: starEach [te] X.env := by rfl) (hs2 : starEach [te] X.env = (false, eval te X.env) :: starEach [] X.env := by rfl) (hpl : (backTo pos (starEach [te] X.env)).any (·.1) = false := by rfl) :
    PD (X.suite a0 ((a0, oe) :: pn)) C' W (.Call (.Name "isinstance" p2) [.Name n p1, te] [] pos) (fIs i xd kin) := by
  cases hk : kin xd.C with
  | none =>
    refine ⟨fun pins s σ H Q I ⟨G, ρ, y, S, hf, P⟩ => ?_⟩
    unfold fIs at hf
    rw [hk] at hf
    split at hf <;> cases hf
  | some b =>
    obtain ⟨T1, T2⟩ := T _ _ hk
    refine PE.of (pe_callB (call_isD T1 hz hv) hg hm PyProof.Rows.Boot.isinstance (pa_cons he (pa_cons ht pa_nil hs2) hsE) (by decide) (by decide) hsE hpl) fun σ H Q ⟨G, ρ, y, S, hf, P⟩ => ?_
    unfold fIs at hf
    rw [hk] at hf
    split at hf
    · rename_i hs
      simp only at hf
      split at hf
      rename_i hne
      cases hf
      obtain ⟨v0, h1, h2⟩ := S.slot i _ hs
      have h2 : v0 = .ref C'.xa := h2
      rw [hxa] at h2
      subst h2
      refine ⟨_, h1, ?_, _, cv, b, rfl, hcv, T2, P (.bl b) G H (Same.refl _) S rfl⟩
      rcases hx.2 with h | ⟨dd, fv, e1, e2, e3⟩
      · rw [h] at hne; cases hne
      · exact .inr ⟨dd, fv, e1, S.sub _ _ (S.old _ _ e2)⟩
      · cases hf
    · cases hf
end
end DL
set_option Elab.async false
set_option linter.all false
set_option maxRecDepth 100000
set_option maxHeartbeats 4000000
/-! DLu: the head's facts with own errors. -/
namespace DL
open PySem PySem.Spec PyProof.Rows L2
open NdefX
abbrev FnC : Type := Option (Str × Str × Arguments × FuncBody × Scope × Addr × List Str × Addr)
/-- an own error: its class, its field, its __init__'s row -/
structure IniD where
  cls : Str
  fld : Str
  st : Stmt
  qual : Str
def iniA (K : PySem.W.Frag) (d : IniD) : Addr := He.ma K (He.ga K d.cls) "__init__"
def fnC (K : PySem.W.Frag) (d : IniD) : FnC := match K.lookup (iniA K d) with
  | some ⟨_, _, .func fd, _⟩ => some (fd.name, fd.qualname, fd.params, fd.body, fd.scope, fd.globals, fd.closure.map (·.1), fd.builtins)
  | _ => none
def IniD.val (d : IniD) : FnC := some ("__init__", d.qual, defArgs d.st, .stmts (defBody d.st), defScope d.st, mainGlobals, ["__class__"], builtinsNs)
/-- the class object -/
def clsB (K : PySem.W.Frag) (C : Addr) : Bool := match K.lookup C with
  | some ⟨.type t, _, .cls cd, sl⟩ => (match cd.mro, sl.toList with
    | .ref C' :: bm, [_, _, _, _, some (.builtin n), _] => decide (t = "type") && (decide (C' = C) && (decide (n = "ValueError.__new__") && (!cd.hasDel && (cd.hasDict && PySem.HandSPX.refsVE bm))))
    | _, _ => false)
  | _ => false
/-- the __init__ object -/
def iniB (file : Str) (K : PySem.W.Frag) (C f : Addr) (qual : Str) : Bool := match K.lookup f with
  | some ⟨.type t, _, .func fd, _⟩ => decide (t = "function") && (decide (fd.defaults = .none) && (decide (fd.kwdefaults = .none) && (decide (fd.annotations = none) && (PySem.W.codeIn K fd.code qual && (match fd.closure, fd.code with
    | [(_, cc)], .ref cda => (match K.lookup cc with
      | some ⟨_, _, .cell (some (.ref D)), _⟩ => decide (D = C)
      | _ => false) && (match K.lookup cda with
      | some ⟨_, _, .fields vs, _⟩ => (match vs[2]? with
        | some (Value.str fl _) => file == fl
        | _ => false)
      | _ => false)
    | _, _ => false)))))
  | _ => false
def errB (file : Str) (K : PySem.W.Frag) (d : IniD) : Bool :=
  clsB K (He.ga K d.cls) && (decide (PySem.W.findIn K (.ref (He.ga K d.cls)) "__setattr__" = some (some (.builtin "object.__setattr__"))) && (decide (PySem.W.subIn K (.ref (He.ga K d.cls)) (.type "BaseException") = some true) && (decide (PySem.W.typeIn K (.ref (He.ga K d.cls)) = some (.type "type")) && (PySem.W.keepIn K (.ref (He.ga K d.cls)) &&
  (decide (PySem.W.ks_superIn K (He.ga K d.cls) (He.ga K d.cls) "__init__" = some (some (.builtin "ValueError.__init__"))) && (decide (PySem.W.subIn K (.ref (He.ga K d.cls)) (.type "ValueError") = some true) && (decide (PySem.W.mroIn K (He.ga K d.cls) (.ref (He.ga K d.cls)) = some true) && (decide (PySem.W.nsIn K cStatics "thirdparty.any" = some none) &&
  (decide (PySem.W.findIn K (.ref (He.ga K d.cls)) "__init__" = some (some (.ref (iniA K d)))) && (decide (PySem.W.typeIn K (.ref (iniA K d)) = some (.type "function")) && (decide (PySem.W.findIn K (.ref (He.ga K d.cls)) d.fld = some none) && iniB file K (He.ga K d.cls) (iniA K d) d.qual)))))))))))
theorem clsB_ok {K : PySem.W.Frag} {C : Addr} (h : clsB K C = true) : ∃ nm q N bs bm sn sub ab col dd k0 k1 k2 k3 k5, K.lookup C = some (excClassObj nm q C N bs bm true sn sub ab col dd k0 k1 k2 k3 k5 "ValueError.__new__") ∧ PySem.HandSPX.refsVE bm = true := by
  unfold clsB at h
  split at h
  · rename_i t dd cd sl lk
    split at h
    · rename_i C' bm k0 k1 k2 k3 n k5 hm hs
      simp only [Bool.and_eq_true, decide_eq_true_eq, Bool.not_eq_true'] at h
      obtain ⟨rfl, rfl, rfl, h1, h2, h3⟩ := h
      obtain ⟨nm, bs, mro, ns, qn, hd, sn, sub, ab, col, del⟩ := cd
      dsimp only at hm h1 h2
      subst hm h1 h2
      have hsl : sl = #[k0, k1, k2, k3, some (.builtin "ValueError.__new__"), k5] := by
        obtain ⟨l⟩ := sl
        simp only at hs
        rw [hs]
      subst hsl
      exact ⟨nm, qn, ns, bs, bm, sn, sub, ab, col, dd, k0, k1, k2, k3, k5, lk, h3⟩
    · cases h
  · cases h
section
variable {P : Program} {w : World} {K : PySem.W.Frag} {mg : Str → Option Value} {base h : Heap}
theorem errOk_of {d : IniD} {file p z : Str} {kd : Nat} {p0 p1 p2 p3 p4 p5 q0 q1 q2 q3 : Pos} {pl : Sem Bool} {ar : Arg} (X : K.In h) (G : h.Ns mainGlobals mg) (c : (He.Fa.glo d.cls).ok K = true) (hm : mg "super" = none) (b : errB file K d = true) (v : fnC K d = d.val)
    (top : (P.main.scope.names.lookup ("super" : Str)).isSome = false) (hfile : P.main.file = file)
    (hbody : defBody d.st = [.Expr (.Call (.Attribute (.Call (.Name "super" p0) [] [] p1) "__init__" p2) [.Constant (.str z) kd p3] [] p4) p5, .Assign [.Attribute (.Name "self" q0) d.fld q1] (.Name p q2) q3])
    (S : NScope ["self", p, "__class__"] ["self", p] ["__class__"] (defScope d.st)) (hks : (defScope d.st).names.lookup ("super" : Str) = some .globalImplicit)
    (hp : ((defArgs d.st).posonlyargs ++ (defArgs d.st).args).head? = some ar) (har : ar.arg = "self")
    (hev : ∀ env : Env, eval (.Call (.Attribute (.Call (.Name "super" p0) [] [] p1) "__init__" p2) [.Constant (.str z) kd p3] [] p4) env = (do
      let ov ← attributeBase (.Call (.Name "super" p0) [] [] p1) "__init__" env (eval (.Call (.Name "super" p0) [] [] p1) env)
      standAt p2.atName
      let (f, first) ← holding [ov] (getMethod ov "__init__" pl)
      callWith p4 f first (backTo p4 (starEach [.Constant (.str z) kd p3] env)) []))
    (hi : ∀ (f L c : Addr) cl, interactive (PySem.W.envX d.qual (defScope d.st) L f (.ref c) cl) = false)
    (hb : ∀ (cl : List (Str × Addr)) (doc pm cdv ct : Value) (us : List Value), us.length = 2 → bindArgs (PySem.W.fnX "__init__" d.qual (defArgs d.st) (defBody d.st) (defScope d.st) cl .none .none doc pm none cdv ct) ⟨us, []⟩ = pure ((["self", p] : List Str).zip us))
    (hself : ∀ (F : NF) (f : Addr) A outer s H E, F.scope = defScope d.st → PE (ncx CX0 P w K mg base ["self", p, "__class__"] F f A outer s H E) (.Name "self" q0) (tVar 0))
    (hpar : ∀ (F : NF) (f : Addr) A outer s H E, F.scope = defScope d.st → PE (ncx CX0 P w K mg base ["self", p, "__class__"] F f A outer s H E) (.Name p q2) (tVar 1))
    (hsw : ∀ (env : Env), swapsWith (.Name p q2) (some (.Attribute (.Name "self" q0) d.fld q1)) q3.line env = pure false) : ErrOk P w K mg base d.cls d.fld := by
  unfold errB at b
  simp only [Bool.and_eq_true, decide_eq_true_eq] at b
  obtain ⟨b1, b2, b3, b4, b5, b6, b7, b8, b9, b10, b11, b12, b13⟩ := b
  have T : SupC P K (He.ga K d.cls) := ⟨⟨clsB_ok b1, b2, b3, b4, b5⟩, b6, b7, b8, b9, top⟩
  refine ⟨He.glo_ok X G c, T, ?_⟩
  unfold iniB at b13
  unfold fnC at v
  cases lk : K.lookup (iniA K d) with
  | none => rw [lk] at b13; cases b13
  | some o =>
    obtain ⟨oc, od, dt, osl⟩ := o
    rw [lk] at b13 v
    cases dt with
    | func fd =>
      cases oc with
      | type t =>
        obtain ⟨n1, n2, n3, n4, n5, n6, n7, n8, n9, n10, n11, n12, n13, n14, n15⟩ := fd
        have v2 : (some (n1, n2, n3, n4, n5, n6, n7.map (·.1), n15) : FnC) = (some (("__init__" : Str), d.qual, defArgs d.st, FuncBody.stmts (defBody d.st), defScope d.st, mainGlobals, [("__class__" : Str)], builtinsNs) : FnC) := v
        simp only [Option.some.injEq, Prod.mk.injEq] at v2
        obtain ⟨h1, h2, h3, h4, h5, h6, h7, h8⟩ := v2
        subst h1 h2 h3 h4 h5 h6 h8
        simp only [Bool.and_eq_true, decide_eq_true_eq] at b13
        obtain ⟨rfl, rfl, rfl, rfl, hcd, hcl⟩ := b13
        match n7, h7, hcl with
        | [(y, cc)], h7, hcl =>
          have ey : y = "__class__" := by simpa using h7
          subst ey
          cases n13 with
          | ref cda =>
            simp only [Bool.and_eq_true] at hcl
            obtain ⟨hc1, hc2⟩ := hcl
            cases lcc : K.lookup cc with
            | none => rw [lcc] at hc1; cases hc1
            | some o2 =>
              rw [lcc] at hc1
              cases lcd : K.lookup cda with
              | none => rw [lcd] at hc2; cases hc2
              | some o3 =>
                rw [lcd] at hc2
                split at hc1
                · rename_i oc2 od2 D sl2 e2
                  cases e2
                  have hD : D = He.ga K d.cls := of_decide_eq_true hc1
                  subst hD
                  split at hc2
                  · rename_i oc3 od3 vs sl3 e3
                    cases e3
                    split at hc2
                    · rename_i fl tf e4
                      refine ⟨iniA K d, PySem.W.fnX "__init__" d.qual (defArgs d.st) (defBody d.st) (defScope d.st) [(("__class__" : Str), cc)] .none .none n10 n11 none (.ref cda) n14, p, b10, b11, ?_, Binds.all fun us hl => hb _ _ _ _ _ us hl⟩
                      let F : NF := ⟨"__init__", d.qual, defArgs d.st, defBody d.st, defScope d.st, [(("__class__" : Str), cc)], cda⟩
                      exact fn_super (F := F) (k := 0) (ar := ar) (pl := pl) T hm lk hcd S rfl lcc lcd e4 (by rw [hfile]; exact hc2) hp (by rw [har]; rfl) hks hbody hev (fun L => hi _ _ _ _) (fun vs H Q E ⟨a, v, e, _⟩ => by rw [e]; rfl)
                        (fun A outer s H vs Q E hr ⟨a, v, e, hH, hq⟩ => by
                          subst e
                          refine ⟨a, rfl, hH, _, pss_one (ps_ost (hself F _ A outer s H E rfl) (hpar F _ A outer s H E rfl) (hsw _)), ?_⟩
                          exact ⟨v, rfl, _, rfl, a, He.ga K d.cls, rfl, T.oex, b12, .inl ⟨hH, fun dx n ne => hq dx n ne⟩⟩)
                    · cases hc2
                  · cases hc2
                · cases hc1
          | _ => cases hcl
      | _ => cases b13
    | _ => cases v
/-! ### the Hook -/
abbrev AlZ : Type := He.AlT × (Bool × List FnC)
def frZ (g : Addr → Option Obj) (n : Nat) : PySem.W.Frag := He.frT g (cStatics :: He.asD g n)
def obsZ (n : Nat) (fa : List He.Fa) (fn : List He.DefD) (ts : List He.Tab) (ex : PySem.W.Frag → Bool) (ini : List IniD) (g : Addr → Option Obj) : AlZ := (He.obsT fa fn ts (frZ g n), (ex (frZ g n), ini.map (fnC (frZ g n))))
def valZ (fn : List He.DefD) (ts : List He.Tab) (ini : List IniD) (w : World) : AlZ := (He.valT fn ts w, (true, ini.map IniD.val))
structure SaysZ (fa : List He.Fa) (fn : List He.DefD) (ts : List He.Tab) (ex : PySem.W.Frag → Bool) (ini : List IniD) (w : World) (K : PySem.W.Frag) : Prop where
  t : He.SaysT fa fn ts w K
  more : ex K = true
  ini : ini.map (fnC K) = ini.map IniD.val
def hookZ (n : Nat) (fa : List He.Fa) (fn : List He.DefD) (ts : List He.Tab) (ex : PySem.W.Frag → Bool) (ini : List IniD) : PySem.W.Hook where
  α := AlZ
  obs := fun s => obsZ n fa fn ts ex ini s.heap.get?
  val := fun w => valZ fn ts ini w
  says := fun w h => ∃ K : PySem.W.Frag, K.In h ∧ SaysZ fa fn ts ex ini w K
  of := fun w s e => ⟨frZ s.heap.get? n, He.frT_in, ⟨congrArg (fun z : AlZ => z.1) e, congrArg (fun z : AlZ => z.2.1) e, congrArg (fun z : AlZ => z.2.2) e⟩⟩
  keeps := fun _ _ _ ⟨K, hK, c⟩ k => ⟨K, PySem.W.Frag.In.keeps hK k, c⟩
theorem obsZ_eq {n : Nat} {fa : List He.Fa} {fn : List He.DefD} {ts : List He.Tab} {ex : PySem.W.Frag → Bool} {ini : List IniD} {g : Addr → Option Obj} {s : Shared} (h : ∀ a, g a = s.heap.get? a) : obsZ n fa fn ts ex ini g = (hookZ n fa fn ts ex ini).obs s := by
  have e : g = s.heap.get? := funext h
  rw [e] <;> rfl
theorem says_ini {fa : List He.Fa} {fn : List He.DefD} {ts : List He.Tab} {ex : PySem.W.Frag → Bool} {ini : List IniD} (c : SaysZ fa fn ts ex ini w K) (i : Nat) {d : IniD} (e : ini[i]? = some d) : fnC K d = d.val := by
  have h := congrArg (fun l => l[i]?) c.ini
  simp only [List.getElem?_map, e, Option.map_some, Option.some.injEq] at h
  exact h
end
end DL
set_option Elab.async false
set_option linter.all false
set_option maxRecDepth 100000
set_option maxHeartbeats 4000000
/-! DLv: errors by names. -/
namespace DL
open PySem PySem.Spec PyProof.Rows L2
def excB (K : PySem.W.Frag) (D : Addr) : Bool :=
  decide (PySem.W.findIn K (.ref D) "__getattribute__" = some (some (.builtin "BaseException.__getattribute__"))) && (decide (PySem.W.findIn K (.ref D) "__getattr__" = some none) && (decide (PySem.W.subIn K (.ref D) (.type "BaseException") = some true) && (PySem.W.hasDictIn K D && (decide (PySem.W.findIn K (.ref D) "__class__" = some (some (.builtin "object.__class__"))) &&
  (decide (PySem.W.specialIn K (.builtin "object.__class__") "__get__" = some (some (.builtin "getset_descriptor.__get__"))) && (decide (PySem.W.takesIn K (.builtin "object.__class__") = some true) && decide (PySem.W.mroIn K D (.type "object") = some true)))))))
theorem excB_ok {K : PySem.W.Frag} {D : Addr} (h : excB K D = true) : ExcC K D := by
  unfold excB at h
  simp only [Bool.and_eq_true, decide_eq_true_eq] at h
  obtain ⟨h1, h2, h3, h4, h5, h6, h7, h8⟩ := h
  exact ⟨h1, h2, h3, h4, h5, h6, h7, h8⟩
theorem exc_xf {K : PySem.W.Frag} {D : Addr} (h : ExcC K D) : XfC K D := ⟨h.hg, h.hk, h.hs, h.hd⟩
/-- an own error with one field -/
structure ErrF (P : Program) (w : World) (K : PySem.W.Frag) (mg : Str → Option Value) (base : Heap) (x f : Str) : Prop where
  ok : ErrOk P w K mg base x f
  no : PySem.W.findIn K (.ref (He.ga K x)) f = some none
  ex : ExcC K (He.ga K x)
theorem errB_no {file : Str} {K : PySem.W.Frag} {d : IniD} (b : errB file K d = true) : PySem.W.findIn K (.ref (He.ga K d.cls)) d.fld = some none := by
  unfold errB at b
  simp only [Bool.and_eq_true, decide_eq_true_eq] at b
  exact b.2.2.2.2.2.2.2.2.2.2.2.1
def exmB (K : PySem.W.Frag) (x y : Str) (b : Bool) : Bool := decide (PySem.W.exmOne K (.ref (He.ga K x)) (.ref (He.ga K y)) = some b)
def kitU (K : PySem.W.Frag) (x y : Str) (b : Bool) : Bool := decide (PySem.W.kitOne K (.ref (He.ga K x)) (.ref (He.ga K y)) = some b)
def kitT (K : PySem.W.Frag) (x : Str) (T : String) (b : Bool) : Bool := decide (PySem.W.kitOne K (.ref (He.ga K x)) (.type T) = some b)
def lk (l : List (Str × Bool)) : Str → Option Bool := fun y => l.lookup y
def inL (l : List Str) : Str → Bool := fun y => l.contains y
theorem al_nil {α : Type} {P : α → Prop} : ∀ x ∈ ([] : List α), P x := fun _ h => by cases h
theorem al_cons {α : Type} {P : α → Prop} {a : α} {l : List α} (h : P a) (t : ∀ x ∈ l, P x) : ∀ x ∈ a :: l, P x := fun x hx => by
  rcases List.mem_cons.mp hx with rfl | hx
  · exact h
  · exact t x hx
section
variable {X : Cx} {C : Ctl} {W : WX} {pos : Pos} {body : List Stmt} {p : F}
theorem pq_try {x n : Str} {i : Nat} {suite : List Stmt} {b₀ : Stmt} {np p2 : Pos} {l : List (Str × Bool)} {fs : XD → F} (hN : X.N.Nodup) (tk : Takes X W) (hg : Gl X x) (hm : X.mg x = some (.ref (He.ga X.K x)))
    (hh : ∀ q ∈ l, PySem.W.exmOne X.K (.ref (He.ga X.K q.1)) (.ref (He.ga X.K x)) = some q.2)
    (hb : ∀ (W : WX) (pn : List (Addr × Obj)) (xe : Value → Shared → Prop), Takes (X.tr pn xe) W → PassesOwn (model X.prog X.w) X.A X.env xe → PQs (X.tr pn xe) C W body p)
    (hsu : ∀ (C' : Ctl) (e : XD) (a : Addr) (oe : Obj) (d : Option Addr) (pn : List (Addr × Obj)), C'.xa = a → ExR C'.G0 X.K e (.ref (He.ga X.K e.C)) d → Zc (.ref (He.ga X.K e.C)) d oe → (∃ vs, oe.data = .fields vs) → PQs (X.suite a ((a, oe) :: pn)) C' W0 (b₀ :: suite) (fs e))
    (hs : X.stack = X.env :: X.outer := by rfl) (hf : X.env.frame = some X.env.locals := by rfl) (hi : X.N[i]? = some n := by rfl) (hln : X.env.kindOf n = some .local := by rfl) (hd : (x == ("__debug__" : Str)) = false := by decide) :
    PQ X C W (.Try body [.ExceptHandler (some (.Name x np)) (some n) (b₀ :: suite) p2] [] [] pos) (fTryAs i (lk l) p fs) :=
  pq_tryAs hs hf hN hi hln ⟨hg, hd, .inl hm⟩ tk (fun y b e => hh (y, b) (lookup_mem' e)) hb hsu
theorem pd_fld {C' : Ctl} {xd : XD} {a : Addr} {oe : Obj} {d : Option Addr} {pn : List (Addr × Obj)} {n fld : Str} {p1 : Pos} {i : Nat} {l : List Str} (hxa : C'.xa = a) (hx : ExR C'.G0 X.K xd (.ref (He.ga X.K xd.C)) d) (hz : Zc (.ref (He.ga X.K xd.C)) d oe) (hv : ∃ vs, oe.data = .fields vs)
    (T : ∀ y ∈ l, XfC X.K (He.ga X.K y) ∧ PySem.W.findIn X.K (.ref (He.ga X.K y)) fld = some none) (he : PE (X.suite a ((a, oe) :: pn)) (.Name n p1) (tVar i)) (hb : attributeBase (.Name n p1) fld X.env (eval (.Name n p1) X.env) = eval (.Name n p1) X.env := by rfl) :
    PD (X.suite a ((a, oe) :: pn)) C' W (.Attribute (.Name n p1) fld pos) (fXf i xd (inL l) fld) :=
  pd_xf hxa hx hz hv (fun y e => T y (by simpa [inL] using e)) he hb
theorem pd_isU {C' : Ctl} {xd : XD} {a0 : Addr} {oe : Obj} {d : Option Addr} {pn : List (Addr × Obj)} {n y : Str} {p1 p2 p3 : Pos} {i : Nat} {l : List (Str × Bool)} (hxa : C'.xa = a0) (hx : ExR C'.G0 X.K xd (.ref (He.ga X.K xd.C)) d) (hz : Zc (.ref (He.ga X.K xd.C)) d oe) (hv : ∃ vs, oe.data = .fields vs)
    (T : ∀ q ∈ l, ExcC X.K (He.ga X.K q.1) ∧ PySem.W.kitOne X.K (.ref (He.ga X.K q.1)) (.ref (He.ga X.K y)) = some q.2) (hy : X.mg y = some (.ref (He.ga X.K y))) (hgy : Gl X y) (hm : X.mg "isinstance" = none) (hg : Gl X "isinstance") (he : PE (X.suite a0 ((a0, oe) :: pn)) (.Name n p1) (tVar i))
    (hd : (y == ("__debug__" : Str)) = false := by decide) (hsE : starEach [.Name n p1, .Name y p3] X.env = (false, eval (.Name n p1) X.env) :: starEach [.Name y p3] X.env := by rfl) (hs2 : starEach [.Name y p3] X.env = (false, eval (.Name y p3) X.env) :: starEach [] X.env := by rfl) (hpl : (backTo pos (starEach [.Name y p3] X.env)).any (·.1) = false := by rfl) :
    PD (X.suite a0 ((a0, oe) :: pn)) C' W (.Call (.Name "isinstance" p2) [.Name n p1, .Name y p3] [] pos) (fIs i xd (lk l)) :=
  pd_isE (cV := .ref (He.ga X.K y)) hxa hx hz hv (fun z b e => T (z, b) (lookup_mem' e)) he (pe_glob (X := X.suite a0 ((a0, oe) :: pn)) (v := .ref (He.ga X.K y)) hgy hy rfl hd) (fun u r => r) hg hm hsE hs2 hpl
theorem pd_isV {C' : Ctl} {xd : XD} {a0 : Addr} {oe : Obj} {d : Option Addr} {pn : List (Addr × Obj)} {n y : Str} {T0 : String} {p1 p2 p3 : Pos} {i : Nat} {l : List (Str × Bool)} (hxa : C'.xa = a0) (hx : ExR C'.G0 X.K xd (.ref (He.ga X.K xd.C)) d) (hz : Zc (.ref (He.ga X.K xd.C)) d oe) (hv : ∃ vs, oe.data = .fields vs)
    (T : ∀ q ∈ l, ExcC X.K (He.ga X.K q.1) ∧ PySem.W.kitOne X.K (.ref (He.ga X.K q.1)) (.type T0) = some q.2) (hy : X.mg y = none) (hb0 : bootBuiltins y = some (.type T0)) (hgy : Gl X y) (hm : X.mg "isinstance" = none) (hg : Gl X "isinstance") (he : PE (X.suite a0 ((a0, oe) :: pn)) (.Name n p1) (tVar i))
    (hn : y ≠ "__name__" := by decide) (hd : (y == ("__debug__" : Str)) = false := by decide) (hsE : starEach [.Name n p1, .Name y p3] X.env = (false, eval (.Name n p1) X.env) :: starEach [.Name y p3] X.env := by rfl) (hs2 : starEach [.Name y p3] X.env = (false, eval (.Name y p3) X.env) :: starEach [] X.env := by rfl) (hpl : (backTo pos (starEach [.Name y p3] X.env)).any (·.1) = false := by rfl) :
    PD (X.suite a0 ((a0, oe) :: pn)) C' W (.Call (.Name "isinstance" p2) [.Name n p1, .Name y p3] [] pos) (fIs i xd (lk l)) :=
  pd_isE (cV := .ty T0) hxa hx hz hv (fun z b e => T (z, b) (lookup_mem' e)) he (pe_bltn (X := X.suite a0 ((a0, oe) :: pn)) (v := .ty T0) hgy hy hb0 rfl hn hd) (fun u r => r) hg hm hsE hs2 hpl
end
end DL
set_option Elab.async false
set_option linter.all false
set_option maxRecDepth 100000
set_option maxHeartbeats 4000000
/-! DR: errors by weakest conditions. -/
namespace DL
open PySem PySem.Spec
section
variable {f g h : M R} {p q : F} {ρ : EV} {E : Ko} {Q : R → EV → Prop} {X : XD → EV → Prop}
theorem wf_raise {x fl : Str} {fs : List (M R)} : wf (fRaise x fl fs) ρ E = wm (evs fs) ρ (fun rs ρ' => match settled rs with
    | some [d] => E.ex ⟨x, [(fl, d)]⟩ ρ'
    | _ => False) E.ex := by
  unfold fRaise
  rw [wf_ofM]
  congr 1
  funext rs ρ'
  unfold wf
  cases settled rs with
  | none => rfl
  | some ds =>
    match ds with
    | [] => rfl
    | [d] => rfl
    | _ :: _ :: _ => rfl
theorem wf_tryAs {i : Nat} {hit : Str → Option Bool} {fs : XD → F} : wf (fTryAs i hit p fs) ρ E = wf p ρ ⟨E.nx, E.rt, E.bk, E.ct, fun e ρ1 => match hit e.C with
    | some true => noXn ρ1 = true ∧ wf (fs e) (ρ1.set i .xn) ⟨fun ρ2 => noXn (ρ2.kill i) = true ∧ E.nx (ρ2.kill i), fun _ _ => False, fun _ => False, fun _ => False, fun _ _ => False⟩
    | some false => E.ex e ρ1
    | none => False⟩ := by
  unfold wf fTryAs
  cases p ρ with
  | none => rfl
  | some x =>
    cases x with
    | ex e ρ1 =>
      simp only
      cases hit e.C with
      | none => rfl
      | some b =>
        cases b with
        | false => rfl
        | true =>
          simp only
          by_cases z : noXn ρ1 = true
          · simp only [z, if_true, true_and]
            cases fs e (ρ1.set i .xn) with
            | none => rfl
            | some y =>
              cases y with
              | nx ρ2 =>
                simp only
                by_cases z2 : noXn (ρ2.kill i) = true
                · simp [z2]
                · simp [z2]
              | _ => rfl
          · simp [z]
    | _ => rfl
theorem wm_xf {i : Nat} {e : XD} {ok : Str → Bool} {fl : Str} : wm (fXf i e ok fl) ρ Q X = (match gets ρ.sl i with
    | some .xn => ok e.C = true ∧ (match e.fs.lookup fl with
      | some d => Q (.v d) ρ
      | none => False)
    | _ => False) := by
  unfold wm fXf gets
  cases ρ.sl[i]? with
  | none => rfl
  | some o =>
    cases o with
    | none => rfl
    | some s =>
      cases s with
      | xn =>
        simp only
        by_cases z : ok e.C = true
        · simp only [z, if_true, true_and]
          cases e.fs.lookup fl <;> rfl
        · simp [z]
      | _ => rfl
theorem wm_is {i : Nat} {e : XD} {kin : Str → Option Bool} : wm (fIs i e kin) ρ Q X = (match gets ρ.sl i with
    | some .xn => (match kin e.C with
      | some b => e.fs.isEmpty = false ∧ Q (.v (.bl b)) ρ
      | none => False)
    | _ => False) := by
  unfold wm fIs gets
  cases ρ.sl[i]? with
  | none => rfl
  | some o =>
    cases o with
    | none => rfl
    | some s =>
      cases s with
      | xn =>
        simp only
        cases kin e.C with
        | none => rfl
        | some b =>
          simp only
          by_cases z : e.fs.isEmpty = false
          · simp [z]
          · simp [z]
      | _ => rfl
end
end DL
set_option Elab.async false
set_option linter.all false
set_option maxRecDepth 100000
set_option maxHeartbeats 4000000
namespace K08
open PySem PySem.Spec PyProof.Rows L2 DL
def kd_PARTS : List (Str × D) := [("kind", .int 0), ("hall", .int 1), ("make", .int 2)]
/-- _law_draws. slots: 0:_law_script 1:_law_draws_here 2:_law_k 3:_law_number 4:_law_side 5:_law_turn 6:_law_mixed -/
def lb__law_draws_2 : F :=
  (fIfS (fBool (fBin geD (fVar 3) (fC (.int 1000))))
  (fSeq (fExpr (fMutL appendM 1 [fNN (fBin modD (fN intD [fNN (fVar 3)]) (fC (.int 1000)))]))
  (fSetN 3 (fBin fdivD (fVar 3) (fC (.int 1000)))))
  fSkip)
def lb__law_draws_3 : F :=
  (fSeq (fSetN 6 (fBin modD (fN intD [fNN (fBin mulD (fVar 6) (fC (.int 69621)))]) (fC (.int 2147483647))))
  (fExpr (fMutL appendM 1 [fNN (fBin modD (fBin modD (fN intD [fNN (fFrN (fBin mulD (fVar 6) (fVar 6)))]) (fC (.int 2147483629))) (fC (.int 1000)))])))
def rb__law_draws_1 : F :=
  (fKill [3, 5, 6] (fIfS (fBool (fBin geD (fVar 3) (fBin powD (fC (.int 10)) (fC (.int 18)))))
  (fKill [3, 5] (fFor (srcN rangeD1 [fNN (fC (.int 40))]) (tgN 5) lb__law_draws_2 [5]))
  (fSeq (fSetN 6 (fBin modD (fN intD [fNN (fBin mulD (fBin addD (fBin mulD (fC (.int 2)) (fVar 3)) (fVar 4)) (fBin addD (fC (.int 48271)) (fBin mulD (fC (.int 34)) (fVar 2))))]) (fC (.int 2147483647))))
  (fKill [5, 6] (fFor (srcN rangeD1 [fNN (fC (.int 6))]) (tgN 5) lb__law_draws_3 [5])))))
def lb__law_draws_1 : F :=
  (fSeq (fSetN 3 (fBin ixD (fVar 0) (fVar 2)))
  (fSeq (fSetN 4 (fC (.int 0)))
  (fSeqL (fIfS (fBool (fBin ltD (fVar 3) (fC (.int 0))))
  (fSeq (fSetN 3 (fUn negD (fVar 3)))
  (fSetN 4 (fC (.int 1))))
  fSkip)
  rb__law_draws_1)))
def rb__law_draws_2 : F :=
  (fSeq (fExpr (fMutL reverseM 1 []))
  (fRet (fVar 1)))
def fb__law_draws : F :=
  (fSeq (fSetN 1 (fLst []))
  (fSeqL (fKill [2, 3, 4, 5, 6] (fFor (srcN rangeD1 [fNN (fN min2D [fNN (fN lenD [fNN (fVar 0)]), fNN (fC (.int 63))])]) (tgN 2) lb__law_draws_1 [2, 3, 4, 5, 6]))
  rb__law_draws_2))
/-- _law_draw. slots: 0:_law_draws_here 1:_law_many -/
def fb__law_draw : F :=
  (fSeq (fIfS (fBool (fBin eqD (fN lenD [fNN (fVar 0)]) (fC (.int 0))))
  (fRet (fC (.int 0)))
  fSkip)
  (fRet (fBin modD (fN intD [fNN (fFrN (fMutL popM 0 []))]) (fVar 1))))
/-- _law_word. slots: 0:_law_draws_here 1:_law_menu 2:_law_cell 3:_law_letters 4:_law_word_here 5:_law_k -/
def lb__law_word_1 : F :=
  (fSetN 4 (fBin addD (fVar 4) (fBin ixD (fVar 3) (fCall fb__law_draw 2 [fNN (fVar 0), fNN (fC (.int 26))]))))
def rb__law_word_1 : F :=
  (fRet (fVar 4))
def rb__law_word_2 : F :=
  (fSeq (fIfS (fBool (fBin ltD (fVar 2) (fC (.int 15))))
  (fRet (fBin ixD (fVar 1) (fVar 2)))
  fSkip)
  (fSeq (fSetN 3 (fC (.str "abcdefghijklmnopqrstuvwxyz")))
  (fSeq (fSetN 4 (fC (.str "")))
  (fSeqL (fKill [5] (fFor (srcN rangeD1 [fNN (fBin addD (fC (.int 1)) (fBin modD (fN intD [fNN (fVar 2)]) (fC (.int 8))))]) (tgN 5) lb__law_word_1 [5]))
  rb__law_word_1))))
def fb__law_word : F :=
  (fSeq (fSetN 1 (fFrz (fLst [fNN (fC (.str "kind")), fNN (fC (.str "hall")), fNN (fC (.str "make")), fNN (fC (.str "weight")), fNN (fC (.str "any")), fNN (fC (.str "own")), fNN (fC (.str "if")), fNN (fC (.str "and")), fNN (fC (.str "take")), fNN (fC (.str "pass")), fNN (fC (.str "taken")), fNN (fC (.str "seen")), fNN (fC (.str "at")), fNN (fC (.str "z")), fNN (fC (.str "aa"))])))
  (fSeqL (fSetN 2 (fCall fb__law_draw 2 [fNN (fVar 0), fNN (fC (.int 60))]))
  rb__law_word_2))
/-- is_name. slots: 0:word 1:letter -/
def fb_is_name : F :=
  (fRet (fAnd (fChain leD leD (fC (.int 1)) (fN lenD [fNN (fVar 0)]) (fC (.int 8))) (fN allD [fNN (fFrN (fComp (srcD (fFrz (fVar 0))) (List.map (·.2) ([("letter", 1)] : List (Str × Nat))) (tgN 1) mYes (fBin inD (fVar 1) (fC (.str "abcdefghijklmnopqrstuvwxyz")))))])))
/-- tally_size. slots: 0:words -/
def rb_tally_size_1 : F :=
  (fRet (fC (.int 0)))
def fb_tally_size : F :=
  (fSeq (fIfS (fBool (fBin eqD (fFrN (fSl (fVar 0) noInt (asInt (fC (.int 1))))) (fFrN (fLst [fNN (fC (.str "any"))]))))
  (fRet (fC (.int 1)))
  fSkip)
  (fSeq (fIfS (fBool (fBin ltD (fN lenD [fNN (fVar 0)]) (fC (.int 2))))
  (fRet (fC (.int 0)))
  fSkip)
  (fSeq (fIfS (fAndB (fBool (fBin eqD (fBin ixD (fVar 0) (fC (.int 0))) (fC (.str "own")))) (fBool (fUn (inKD kd_PARTS) (fBin ixD (fVar 0) (fC (.int 1))))))
  (fRet (fC (.int 2)))
  fSkip)
  (fSeqL (fIfS (fAndB (fBool (fUn (inKD kd_PARTS) (fBin ixD (fVar 0) (fC (.int 0))))) (fBool (fFrN (fCall fb_is_name 2 [fNN (fBin ixD (fVar 0) (fC (.int 1)))]))))
  (fRet (fC (.int 2)))
  fSkip)
  rb_tally_size_1))))
/-- read_conditions. slots: 0:words 1:conditions 2:joint 3:size 4:condition 5:mode 6:sign 7:number -/
def rb_read_conditions_1 : F :=
  (fSeq (fSetN 4 (fFrz (fSl (fVar 0) (asInt (fC (.int 1))) (asInt (fBin addD (fVar 3) (fC (.int 4)))))))
  (fSeq (fIfS (fOrB (fBool (fBin neD (fBin ixD (fVar 0) (fC (.int 0))) (fVar 2))) (fOrB (fBool (fBin eqD (fVar 3) (fC (.int 0)))) (fBool (fBin neD (fN lenD [fNN (fVar 4)]) (fBin addD (fVar 3) (fC (.int 3)))))))
  (fRet (fC .non))
  fSkip)
  (fSeq (fPar [5, 6, 7] [fNN (fBin ixD (fVar 4) (fC (.int 0))), fNN (fBin ixD (fVar 4) (fUn negD (fC (.int 2)))), fNN (fBin ixD (fVar 4) (fUn negD (fC (.int 1))))])
  (fSeq (fIfS (fOrB (fBool (fBin notInD (fVar 5) (fC (.tup [.str "taken", .str "seen"])))) (fOrB (fBool (fBin notInD (fVar 6) (fC (.tup [.str "<", .str ">="])))) (fBool (fBin notInD (fVar 7) (fC (.tup [.str "1", .str "2", .str "3", .str "4"]))))))
  (fRet (fC .non))
  fSkip)
  (fSeq (fExpr (fMutL appendM 1 [fNN (fTup [fNN (fVar 5), fNN (fFrz (fN tupleD [fNN (fFrN (fSl (fVar 4) (asInt (fC (.int 1))) (asInt (fUn negD (fC (.int 2))))))])), fNN (fVar 6), fNN (fN intD [fNN (fVar 7)])])]))
  (fSeq (fSetN 0 (fFrz (fSl (fVar 0) (asInt (fBin addD (fVar 3) (fC (.int 4)))) noInt)))
  (fSetN 2 (fC (.str "and")))))))))
def lb_read_conditions_1 : F :=
  (fSeqL (fSetN 3 (fFrz (fCall fb_tally_size 1 [fNN (fFrN (fSl (fVar 0) (asInt (fC (.int 2))) noInt))])))
  rb_read_conditions_1)
def rb_read_conditions_2 : F :=
  (fSeq (fIfS (fBool (fBin gtD (fN lenD [fNN (fVar 1)]) (fC (.int 6))))
  (fRet (fC .non))
  fSkip)
  (fRet (fN tupleD [fNN (fVar 1)])))
def fb_read_conditions : F :=
  (fSeq (fSetN 1 (fLst []))
  (fSeq (fSetN 2 (fC (.str "if")))
  (fSeqL (fKill [0, 2, 3, 4, 5, 6, 7] (fWhile (fTru (fVar 0)) lb_read_conditions_1 [3, 4, 5, 6, 7] fuel))
  rb_read_conditions_2)))
/-- read_rule. slots: 0:line 1:words 2:size 3:conditions -/
def rb_read_rule_1 : F :=
  (fSeq (fIfS (fBool (fBin isND (fVar 3) (fC .non)))
  (fRaise "BadRule" "line" [fNN (fFrz (fVar 0))])
  fSkip)
  (fRet (fTup [fNN (fBin ixD (fVar 1) (fC (.int 0))), fNN (fFrz (fN tupleD [fNN (fFrN (fSl (fVar 1) (asInt (fC (.int 1))) (asInt (fBin addD (fVar 2) (fC (.int 1))))))])), fNN (fVar 3)])))
def rb_read_rule_2 : F :=
  (fSeq (fIfS (fOrB (fBool (fBin notInD (fBin ixD (fVar 1) (fC (.int 0))) (fTup [fNN (fC (.str "take")), fNN (fC (.str "pass"))]))) (fOrB (fBool (fBin eqD (fVar 2) (fC (.int 0)))) (fBool (fBin eqD (fBin ixD (fVar 1) (fC (.int 1))) (fC (.str "own"))))))
  (fRaise "BadRule" "line" [fNN (fFrz (fVar 0))])
  fSkip)
  (fSeqL (fSetN 3 (fFrz (fCall fb_read_conditions 8 [fNN (fFrN (fSl (fVar 1) (asInt (fBin addD (fVar 2) (fC (.int 1)))) noInt))])))
  rb_read_rule_1))
def fb_read_rule : F :=
  (fSeq (fSetN 1 (fFrz (fStrM splitD (fVar 0) (fC (.str " ")))))
  (fSeqL (fSetN 2 (fFrz (fCall fb_tally_size 1 [fNN (fFrN (fSl (fVar 1) (asInt (fC (.int 1))) noInt))])))
  rb_read_rule_2))
/-- write_tally. slots: 0:tally -/
def fb_write_tally : F :=
  (fRet (fStrM joinD (fC (.str " ")) (fVar 0)))
/-- write_rule. slots: 0:rule 1:act 2:who 3:conditions 4:texts 5:joined 6:mode 7:tally 8:sign 9:number -/
def rb_write_rule_1 : F :=
  (fSeq (fSetN 5 (fStrM joinD (fC (.str " and ")) (fVar 4)))
  (fRet (fJs [(fFmt (fVar 1)), (fC (.str " ")), (fFmt (fFrN (fCall fb_write_tally 1 [fNN (fVar 2)]))), (fC (.str " if ")), (fFmt (fVar 5))] Str.empty)))
def rb_write_rule_2 : F :=
  (fSeqL (fIfS (fNotB (fTru (fVar 4)))
  (fRet (fJs [(fFmt (fVar 1)), (fC (.str " ")), (fFmt (fFrN (fCall fb_write_tally 1 [fNN (fVar 2)])))] Str.empty))
  fSkip)
  rb_write_rule_1)
def fb_write_rule : F :=
  (fSeq (fSetT (tgT [(tgN 1), (tgN 2), (tgN 3)]) (fFrz (fVar 0)))
  (fSeqL (fSetV 4 (fComp (srcD (fVar 3)) (List.map (·.2) ([("mode", 6), ("tally", 7), ("sign", 8), ("number", 9)] : List (Str × Nat))) (tgT [(tgN 6), (tgN 7), (tgN 8), (tgN 9)]) mYes (fJs [(fFmt (fVar 6)), (fC (.str " ")), (fFmt (fFrN (fCall fb_write_tally 1 [fNN (fVar 7)]))), (fC (.str " ")), (fFmt (fVar 8)), (fC (.str " ")), (fFmt (fVar 9))] Str.empty)))
  rb_write_rule_2))
/-- _law_good_bare. slots: 0:_law_rule 1:_law_line 2:_law_told 3:_law_text -/
def rb__law_good_bare_1 : F :=
  (fRet (fAnd (fN isiD [fNN (fVar 3), fNN (fC (.ty "str"))]) (fBin eqD (fVar 3) (fVar 1))))
def rb__law_good_bare_2 : F :=
  (fSeq (fIfS (fOrB (fNotB (fBool (fN isiD [fNN (fVar 2), fNN (fC (.ty "tuple"))]))) (fBool (fBin neD (fVar 2) (fVar 0))))
  (fRet (fC (.bl false)))
  fSkip)
  (fSeqL (fSetN 3 (fFrz (fCall fb_write_rule 10 [fNN (fVar 0)])))
  rb__law_good_bare_1))
def fb__law_good_bare : F :=
  (fSeqL (fSetN 2 (fFrz (fCall fb_read_rule 4 [fNN (fVar 1)])))
  rb__law_good_bare_2)
/-- _law_bad_bare. slots: 0:_law_line 1:_law_found 2:e -/
def rb__law_bad_bare_1 : F :=
  (fRet (fAnd (fN isiD [fNN (fVar 1), fNN (fC (.ty "str"))]) (fBin eqD (fVar 1) (fVar 0))))
def fb__law_bad_bare : F :=
  (fSeq (fSetN 1 (fC .non))
  (fSeqL (fTryAs 2 (lk [("BadRule", true)]) (fExpr (fCall fb_read_rule 4 [fNN (fVar 0)])) fun xd => (fSetN 1 (fXf 2 xd (inL ["BadRule"]) "line")))
  rb__law_bad_bare_1))
/-- _law_kin_bare. slots: 0:_law_line 1:_law_kin 2:e -/
def rb__law_kin_bare_1 : F :=
  (fRet (fVar 1))
def fb__law_kin_bare : F :=
  (fSeq (fSetN 1 (fC .non))
  (fSeqL (fTryAs 2 (lk [("BadRule", true)]) (fExpr (fCall fb_read_rule 4 [fNN (fVar 0)])) fun xd => (fSetN 1 (fFrz (fLst [fNN (fIs 2 xd (lk [("BadRule", true)])), fNN (fIs 2 xd (lk [("BadRule", true)])), fNN (fIs 2 xd (lk [("BadRule", false)])), fNN (fIs 2 xd (lk [("BadRule", false)]))]))))
  rb__law_kin_bare_1))
/-- law. slots: 0:_law_script 1:_law_draws_here 2:_law_w 3:_law_act 4:_law_who 5:_law_bad 6:_law_line -/
def lb_law_2 : F :=
  (fIfS (fNotB (fBool (fFrN (fCall fb__law_good_bare 4 [fNN (fTup [fNN (fVar 3), fNN (fVar 4), fNN (fTup [])]), fNN (fBin addD (fBin addD (fVar 3) (fC (.str " "))) (fStrM joinD (fC (.str " ")) (fFrN (fN listD [fNN (fVar 4)]))))]))))
  (fRet (fC (.bl false)))
  fSkip)
def lb_law_1 : F :=
  (fKill [4] (fFor (srcD (fFrz (fLst [fNN (fTup [fNN (fC (.str "any"))]), fNN (fTup [fNN (fC (.str "kind")), fNN (fVar 2)]), fNN (fTup [fNN (fC (.str "hall")), fNN (fVar 2)]), fNN (fTup [fNN (fC (.str "make")), fNN (fVar 2)])]))) (tgN 4) lb_law_2 [4]))
def lb_law_3 : F :=
  (fIfS (fOrB (fNotB (fBool (fFrN (fCall fb__law_bad_bare 3 [fNN (fVar 6)])))) (fBool (fBin neD (fFrN (fCall fb__law_kin_bare 3 [fNN (fVar 6)])) (fFrN (fLst [fNN (fC (.bl true)), fNN (fC (.bl true)), fNN (fC (.bl false)), fNN (fC (.bl false))])))))
  (fRet (fC (.bl false)))
  fSkip)
def rb_law_1 : F :=
  (fRet (fCall fb__law_good_bare 4 [fNN (fTup [fNN (fC (.str "pass")), fNN (fTup [fNN (fC (.str "hall")), fNN (fVar 2)]), fNN (fTup [])]), fNN (fBin addD (fC (.str "pass hall ")) (fVar 2))]))
def rb_law_2 : F :=
  (fSeq (fSetN 5 (fFrz (fLst [fNN (fC (.str "")), fNN (fC (.str "take")), fNN (fC (.str "pass")), fNN (fC (.str "any")), fNN (fC (.str "take any ")), fNN (fC (.str " take any")), fNN (fC (.str "take  any")), fNN (fC (.str "Take any")), fNN (fC (.str "takes any")), fNN (fC (.str "take own kind"))])))
  (fSeq (fSetN 5 (fFrz (fBin addD (fVar 5) (fFrN (fLst [fNN (fC (.str "pass own hall")), fNN (fC (.str "take own")), fNN (fC (.str "take kind")), fNN (fC (.str "take kind ")), fNN (fC (.str "take any if")), fNN (fC (.str "take any any")), fNN (fC (.str "pass any and"))])))))
  (fSeq (fSetN 5 (fFrz (fBin addD (fVar 5) (fFrN (fLst [fNN (fBin addD (fBin addD (fC (.str "take kind ")) (fVar 2)) (fC (.str " if"))), fNN (fBin addD (fBin addD (fBin addD (fC (.str "take kind ")) (fVar 2)) (fC (.str " "))) (fVar 2)), fNN (fBin addD (fBin addD (fC (.str "take hall ")) (fVar 2)) (fC (.str "A")))])))))
  (fSeq (fSetN 5 (fFrz (fBin addD (fVar 5) (fFrN (fLst [fNN (fBin addD (fBin addD (fC (.str "pass make ")) (fVar 2)) (fC (.str "aaaaaaaa"))), fNN (fC (.str "take any\n")), fNN (fC (.str "\ntake any")), fNN (fBin addD (fBin addD (fC (.str "take kind ")) (fVar 2)) (fC (.str "\n")))])))))
  (fSeqL (fKill [6] (fFor (srcD (fVar 5)) (tgN 6) lb_law_3 [6]))
  rb_law_1)))))
def rb_law_3 : F :=
  (fSeqL (fKill [3, 4] (fFor (srcD (fFrz (fLst [fNN (fC (.str "take")), fNN (fC (.str "pass"))]))) (tgN 3) lb_law_1 [3, 4]))
  rb_law_2)
def rb_law_4 : F :=
  (fSeqL (fSetN 2 (fFrz (fCall fb__law_word 6 [fNN (fVar 1)])))
  rb_law_3)
def fb_law : F :=
  (fSeqL (fSetN 1 (fCall fb__law_draws 7 [fNN (fVar 0)]))
  rb_law_4)
end K08
set_option Elab.async false
set_option linter.all false
set_option maxRecDepth 100000
set_option maxHeartbeats 4000000
namespace K08
open PySem PySem.Spec PyProof.Rows L2 DL
def top (i : Nat) : Stmt := PySem.Challenge.pw_keysstayput_k08_rule_without_conditions.main.body.getD i (.Pass ⟨0, 0, 0, 0⟩)
structure Bf (P : Program) (w : World) (K : PySem.W.Frag) (mg : Str → Option Value) (base : Heap) : Prop where
  list_ : mg "list" = none
  len_ : mg "len" = none
  min_ : mg "min" = none
  range_ : mg "range" = none
  int_ : mg "int" = none
  tuple_ : mg "tuple" = none
  isinstance_ : mg "isinstance" = none
  str_ : mg "str" = none
  all_ : mg "all" = none
  ValueError_ : mg "ValueError" = none
  LETTERS_ : ∃ t, mg "LETTERS" = some (.str "abcdefghijklmnopqrstuvwxyz" t)
  MOST_CONDITIONS_ : ∃ t, mg "MOST_CONDITIONS" = some (.int 6 t)
  MODES_ : GTup K mg "MODES" ["taken", "seen"]
  SIGNS_ : GTup K mg "SIGNS" ["<", ">="]
  NUMBERS_ : GTup K mg "NUMBERS" ["1", "2", "3", "4"]
  PARTS_ : GDict K w mg "PARTS" kd_PARTS
  err_BadRule : ErrF P w K mg base "BadRule" "line"
  cls_BadRule : mg "BadRule" = some (.ref (He.ga K "BadRule"))
  cls_BadLine : mg "BadLine" = some (.ref (He.ga K "BadLine"))
  cls_UnknownName : mg "UnknownName" = some (.ref (He.ga K "UnknownName"))
  cls_PlacementError : mg "PlacementError" = some (.ref (He.ga K "PlacementError"))
  exm_BadRule_BadRule : PySem.W.exmOne K (.ref (He.ga K "BadRule")) (.ref (He.ga K "BadRule")) = some true
  exm_BadRule_PlacementError : PySem.W.exmOne K (.ref (He.ga K "BadRule")) (.ref (He.ga K "PlacementError")) = some true
  kit_BadRule_ValueError : PySem.W.kitOne K (.ref (He.ga K "BadRule")) (.type "ValueError") = some true
  kit_BadRule_BadRule : PySem.W.kitOne K (.ref (He.ga K "BadRule")) (.ref (He.ga K "BadRule")) = some true
  kit_BadRule_BadLine : PySem.W.kitOne K (.ref (He.ga K "BadRule")) (.ref (He.ga K "BadLine")) = some false
  kit_BadRule_UnknownName : PySem.W.kitOne K (.ref (He.ga K "BadRule")) (.ref (He.ga K "UnknownName")) = some false
section
variable {P : Program} {w : World} {K : PySem.W.Frag} {mg : Str → Option Value} {base : Heap}
abbrev s__law_draws : Stmt := top 20
theorem sc__law_draws : FnScope ["_law_script", "_law_draws_here", "_law_k", "_law_number", "_law_side", "_law_turn", "_law_mixed"] ["_law_script"] (defScope s__law_draws) := ⟨rfl, rfl, rfl, by decide +kernel, rfl, by decide +kernel, by decide +kernel⟩
theorem ok__law_draws (B : Bf P w K mg base)  (F : FunG K mg "_law_draws" s__law_draws) : DefOk P w K mg base 1 "_law_draws" ["_law_script"] ["_law_script", "_law_draws_here", "_law_k", "_law_number", "_law_side", "_law_turn", "_law_mixed"] fb__law_draws := by
  refine def_dl F sc__law_draws (fun _ _ _ _ _ _ us hl => match us, hl with | [_], _ => rfl) fun f cdv A outer s H E C hr => ?_
  exact (pqs_cons (pq_set 1 sc__law_draws.nd (pd_lst pa_dnil))
  (pqs_cons (pq_kill (pq_for (passes_of rfl) rfl (pid_range1 (by rfl) B.range_ (pa_dcons (pd_callB (min2_ok rfl) (by rfl) B.min_ (by decide +kernel) (pa_dcons (pd_callB len_ok (by rfl) B.len_ PySem.boot_len (pa_dcons (pd_var 0) pa_dnil)) (pa_dcons pd_int pa_dnil))) pa_dnil)) (pgd_name 2 sc__law_draws.nd)
  (pqs_cons (pq_set 3 sc__law_draws.nd (pd_ix (pd_var 0) (pd_var 2)))
  (pqs_cons (pq_set 4 sc__law_draws.nd pd_int)
  (pqs_cons (pq_if (pb_cmp lt_ok (pd_var 3) pd_int (nomark _))
  (pqs_cons (pq_set 3 sc__law_draws.nd (pd_neg (pd_var 3)))
  (pqs_one (pq_set 4 sc__law_draws.nd pd_int)))
  pqs_nil)
  (pqs_one (pq_kill (pq_if (pb_cmp ge_ok (pd_var 3) (pd_bin pow_ok pd_int pd_int) (nomark _))
  (pqs_one (pq_kill (pq_for (passes_of rfl) rfl (pid_range1 (by rfl) B.range_ (pa_dcons pd_int pa_dnil)) (pgd_name 5 sc__law_draws.nd)
  (pqs_one (pq_if (pb_cmp ge_ok (pd_var 3) pd_int (nomark _))
  (pqs_cons (pq_expr (pd_append (pv 1) (pa_dcons (pd_bin mod_ok (pd_callTy int_ok (by rfl) B.int_ (by decide +kernel) (pa_dcons (pd_var 3) pa_dnil)) pd_int) pa_dnil)))
  (pqs_one (pq_set 3 sc__law_draws.nd (pd_bin fdiv_ok (pd_var 3) pd_int))))
  pqs_nil)) (by intro _; rfl) [5]) [3, 5]))
  (pqs_cons (pq_set 6 sc__law_draws.nd (pd_bin mod_ok (pd_callTy int_ok (by rfl) B.int_ (by decide +kernel) (pa_dcons (pd_bin mul_ok (pd_bin add_ok (pd_bin mul_ok pd_int (pd_var 3)) (pd_var 4)) (pd_bin add_ok pd_int (pd_bin mul_ok pd_int (pd_var 2)))) pa_dnil)) pd_int))
  (pqs_one (pq_kill (pq_for (passes_of rfl) rfl (pid_range1 (by rfl) B.range_ (pa_dcons pd_int pa_dnil)) (pgd_name 5 sc__law_draws.nd)
  (pqs_cons (pq_set 6 sc__law_draws.nd (pd_bin mod_ok (pd_callTy int_ok (by rfl) B.int_ (by decide +kernel) (pa_dcons (pd_bin mul_ok (pd_var 6) pd_int) pa_dnil)) pd_int))
  (pqs_one (pq_expr (pd_append (pv 1) (pa_dcons (pd_bin mod_ok (pd_bin mod_ok (pd_callTy int_ok (by rfl) B.int_ (by decide +kernel) (pa_dcons (pd_frN (pd_bin mul_ok (pd_var 6) (pd_var 6))) pa_dnil)) pd_int) pd_int) pa_dnil))))) (by intro _; rfl) [5]) [5, 6])))) [3, 5, 6]))))) (by intro _; rfl) [2, 3, 4, 5, 6]) [2, 3, 4, 5, 6])
  (pqs_cons (pq_expr (pd_reverse (pv 1)))
  (pqs_one (pq_ret (pd_var 1))))))
abbrev s__law_draw : Stmt := top 21
theorem sc__law_draw : FnScope ["_law_draws_here", "_law_many"] ["_law_draws_here", "_law_many"] (defScope s__law_draw) := ⟨rfl, rfl, rfl, by decide +kernel, rfl, by decide +kernel, by decide +kernel⟩
theorem ok__law_draw (B : Bf P w K mg base)  (F : FunG K mg "_law_draw" s__law_draw) : DefOk P w K mg base 1 "_law_draw" ["_law_draws_here", "_law_many"] ["_law_draws_here", "_law_many"] fb__law_draw := by
  refine def_dl F sc__law_draw (fun _ _ _ _ _ _ us hl => match us, hl with | [_, _], _ => rfl) fun f cdv A outer s H E C hr => ?_
  exact (pqs_cons (pq_if (pb_cmp (eq_ok hr.units) (pd_callB len_ok (by rfl) B.len_ PySem.boot_len (pa_dcons (pd_var 0) pa_dnil)) pd_int (nomark _))
  (pqs_one (pq_ret pd_int))
  pqs_nil)
  (pqs_one (pq_ret (pd_bin mod_ok (pd_callTy int_ok (by rfl) B.int_ (by decide +kernel) (pa_dcons (pd_frN (pd_pop (pv 0))) pa_dnil)) (pd_var 1)))))
abbrev s__law_word : Stmt := top 22
theorem sc__law_word : FnScope ["_law_draws_here", "_law_menu", "_law_cell", "_law_letters", "_law_word_here", "_law_k"] ["_law_draws_here"] (defScope s__law_word) := ⟨rfl, rfl, rfl, by decide +kernel, rfl, by decide +kernel, by decide +kernel⟩
theorem ok__law_word (B : Bf P w K mg base) (h__law_draw : DefOk P w K mg base 1 "_law_draw" ["_law_draws_here", "_law_many"] ["_law_draws_here", "_law_many"] fb__law_draw) (F : FunG K mg "_law_word" s__law_word) : DefOk P w K mg base 2 "_law_word" ["_law_draws_here"] ["_law_draws_here", "_law_menu", "_law_cell", "_law_letters", "_law_word_here", "_law_k"] fb__law_word := by
  refine def_dl F sc__law_word (fun _ _ _ _ _ _ us hl => match us, hl with | [_], _ => rfl) fun f cdv A outer s H E C hr => ?_
  exact (pqs_cons (pq_set 1 sc__law_word.nd (pd_frz (pd_lst (pa_dcons pd_str (pa_dcons pd_str (pa_dcons pd_str (pa_dcons pd_str (pa_dcons pd_str (pa_dcons pd_str (pa_dcons pd_str (pa_dcons pd_str (pa_dcons pd_str (pa_dcons pd_str (pa_dcons pd_str (pa_dcons pd_str (pa_dcons pd_str (pa_dcons pd_str (pa_dcons pd_str pa_dnil))))))))))))))))))
  (pqs_cons (pq_set 2 sc__law_word.nd (pd_call' h__law_draw (hr.mono (by decide)) (by rfl) (takes_of rfl rfl rfl rfl) (pa_dcons (pd_var 0) (pa_dcons pd_int pa_dnil))))
  (pqs_cons (pq_if (pb_cmp lt_ok (pd_var 2) pd_int (nomark _))
  (pqs_one (pq_ret (pd_ix (pd_var 1) (pd_var 2))))
  pqs_nil)
  (pqs_cons (pq_set 3 sc__law_word.nd pd_str)
  (pqs_cons (pq_set 4 sc__law_word.nd pd_str)
  (pqs_cons (pq_kill (pq_for (passes_of rfl) rfl (pid_range1 (by rfl) B.range_ (pa_dcons (pd_bin add_ok pd_int (pd_bin mod_ok (pd_callTy int_ok (by rfl) B.int_ (by decide +kernel) (pa_dcons (pd_var 2) pa_dnil)) pd_int)) pa_dnil)) (pgd_name 5 sc__law_word.nd)
  (pqs_one (pq_set 4 sc__law_word.nd (pd_bin add_ok (pd_var 4) (pd_ix (pd_var 3) (pd_call' h__law_draw (hr.mono (by decide)) (by rfl) (takes_of rfl rfl rfl rfl) (pa_dcons (pd_var 0) (pa_dcons pd_int pa_dnil))))))) (by intro _; rfl) [5]) [5])
  (pqs_one (pq_ret (pd_var 4)))))))))
abbrev s_is_name : Stmt := top 8
theorem sc_is_name : FnScope ["word", "letter"] ["word"] (defScope s_is_name) := ⟨rfl, rfl, rfl, by decide +kernel, rfl, by decide +kernel, by decide +kernel⟩
theorem ok_is_name (B : Bf P w K mg base)  (F : FunG K mg "is_name" s_is_name) : DefOk P w K mg base 1 "is_name" ["word"] ["word", "letter"] fb_is_name := by
  refine def_dl F sc_is_name (fun _ _ _ _ _ _ us hl => match us, hl with | [_], _ => rfl) fun f cdv A outer s H E C hr => ?_
  exact (pqs_one (pq_ret (pd_and (pd_chain le_ok le_ok pd_int (pd_callB len_ok (by rfl) B.len_ PySem.boot_len (pa_dcons (pd_var 0) pa_dnil)) pd_int) (pd_one (pd_callB (all_ok rfl) (by rfl) B.all_ (by decide +kernel) (pa_dcons (pd_frN (pd_lc rfl sc_is_name.nd (pid_list (pd_frz (pd_var 0))) (blkOk_by (N := ["word", "letter"]) (sc := defScope s_is_name) (own := [("letter", 1)]) (by decide +kernel)) (by decide) (fun _ _ _ _ _ _ => (pgd_name 1 sc_is_name.nd)) (fun _ _ _ _ _ _ => ptd_nil) (fun _ _ _ _ _ _ => (pd_cmp (in_ok (hu65 hr)) (pd_var 1) (pd_gs B.LETTERS_ (by rfl)) (by with_unfolding_all rfl))))) pa_dnil))))))
abbrev s_tally_size : Stmt := top 14
theorem sc_tally_size : FnScope ["words"] ["words"] (defScope s_tally_size) := ⟨rfl, rfl, rfl, by decide +kernel, rfl, by decide +kernel, by decide +kernel⟩
theorem ok_tally_size (B : Bf P w K mg base) (h_is_name : DefOk P w K mg base 1 "is_name" ["word"] ["word", "letter"] fb_is_name) (F : FunG K mg "tally_size" s_tally_size) : DefOk P w K mg base 2 "tally_size" ["words"] ["words"] fb_tally_size := by
  refine def_dl F sc_tally_size (fun _ _ _ _ _ _ us hl => match us, hl with | [_], _ => rfl) fun f cdv A outer s H E C hr => ?_
  exact (pqs_cons (pq_if (pb_cmp (eq_ok hr.units) (pd_frN (pd_sl (pd_var 0) po_dnone (po_dsome pd_int))) (pd_frN (pd_lst (pa_dcons pd_str pa_dnil))) (nomark _))
  (pqs_one (pq_ret pd_int))
  pqs_nil)
  (pqs_cons (pq_if (pb_cmp lt_ok (pd_callB len_ok (by rfl) B.len_ PySem.boot_len (pa_dcons (pd_var 0) pa_dnil)) pd_int (nomark _))
  (pqs_one (pq_ret pd_int))
  pqs_nil)
  (pqs_cons (pq_if (pb_w (pbw_and (pb_cmp (eq_ok hr.units) (pd_ix (pd_var 0) pd_int) pd_str (nomark _)) (pbw_and1 (inB_kd' B.PARTS_ (pd_ix (pd_var 0) pd_int) (by rfl)))))
  (pqs_one (pq_ret pd_int))
  pqs_nil)
  (pqs_cons (pq_if (pb_w (pbw_and (inB_kd' B.PARTS_ (pd_ix (pd_var 0) pd_int) (by rfl)) (pbw_and1 (pb_val (pd_frN (pd_call' h_is_name (hr.mono (by decide)) (by rfl) (takes_of rfl rfl rfl rfl) (pa_dcons (pd_ix (pd_var 0) pd_int) pa_dnil)))))))
  (pqs_one (pq_ret pd_int))
  pqs_nil)
  (pqs_one (pq_ret pd_int))))))
abbrev s_read_conditions : Stmt := top 16
theorem sc_read_conditions : FnScope ["words", "conditions", "joint", "size", "condition", "mode", "sign", "number"] ["words"] (defScope s_read_conditions) := ⟨rfl, rfl, rfl, by decide +kernel, rfl, by decide +kernel, by decide +kernel⟩
theorem ok_read_conditions (B : Bf P w K mg base) (h_tally_size : DefOk P w K mg base 2 "tally_size" ["words"] ["words"] fb_tally_size) (F : FunG K mg "read_conditions" s_read_conditions) : DefOk P w K mg base 3 "read_conditions" ["words"] ["words", "conditions", "joint", "size", "condition", "mode", "sign", "number"] fb_read_conditions := by
  refine def_dl F sc_read_conditions (fun _ _ _ _ _ _ us hl => match us, hl with | [_], _ => rfl) fun f cdv A outer s H E C hr => ?_
  exact (pqs_cons (pq_set 1 sc_read_conditions.nd (pd_lst pa_dnil))
  (pqs_cons (pq_set 2 sc_read_conditions.nd pd_str)
  (pqs_cons (pq_kill (pq_while fuel [3, 4, 5, 6, 7] (passes_of rfl) (pb_tru (pd_var 0))
  (pqs_cons (pq_set 3 sc_read_conditions.nd (pd_frz (pd_call' h_tally_size (hr.mono (by decide)) (by rfl) (takes_of rfl rfl rfl rfl) (pa_dcons (pd_frN (pd_sl (pd_var 0) (po_dsome pd_int) po_dnone)) pa_dnil))))
  (pqs_cons (pq_set 4 sc_read_conditions.nd (pd_frz (pd_sl (pd_var 0) (po_dsome pd_int) (po_dsome (pd_bin add_ok (pd_var 3) pd_int)))))
  (pqs_cons (pq_if (pb_w (pbw_or (pb_cmp (ne_ok hr.units) (pd_ix (pd_var 0) pd_int) (pd_var 2) (nomark _)) (pbw_or (pb_cmp (eq_ok hr.units) (pd_var 3) pd_int (nomark _)) (pbw_or1 (pb_cmp (ne_ok hr.units) (pd_callB len_ok (by rfl) B.len_ PySem.boot_len (pa_dcons (pd_var 4) pa_dnil)) (pd_bin add_ok (pd_var 3) pd_int) (nomark _))))))
  (pqs_one (pq_ret pd_non))
  pqs_nil)
  (pqs_cons (pq_par3 rfl sc_read_conditions.nd rfl rfl rfl (by decide) (by decide) (by decide) rfl rfl rfl (pa_dcons (pd_ix (pd_var 4) pd_int) (pa_dcons (pd_ix (pd_var 4) (pd_neg pd_int)) (pa_dcons (pd_ix (pd_var 4) (pd_neg pd_int)) pa_dnil))) (by rfl))
  (pqs_cons (pq_if (pb_w (pbw_or (pb_cmp (notIn_ok (hu65 hr)) (pd_var 5) (pd_gt B.MODES_ (by rfl)) (by with_unfolding_all rfl)) (pbw_or (pb_cmp (notIn_ok (hu65 hr)) (pd_var 6) (pd_gt B.SIGNS_ (by rfl)) (by with_unfolding_all rfl)) (pbw_or1 (pb_cmp (notIn_ok (hu65 hr)) (pd_var 7) (pd_gt B.NUMBERS_ (by rfl)) (by with_unfolding_all rfl))))))
  (pqs_one (pq_ret pd_non))
  pqs_nil)
  (pqs_cons (pq_expr (pd_append (pv 1) (pa_dcons (pd_tup (pa_dcons (pd_var 5) (pa_dcons (pd_frz (pd_callTy tuple_ok (by rfl) B.tuple_ (by decide +kernel) (pa_dcons (pd_frN (pd_sl (pd_var 4) (po_dsome pd_int) (po_dsome (pd_neg pd_int)))) pa_dnil))) (pa_dcons (pd_var 6) (pa_dcons (pd_callTy int_ok (by rfl) B.int_ (by decide +kernel) (pa_dcons (pd_var 7) pa_dnil)) pa_dnil))))) pa_dnil)))
  (pqs_cons (pq_set 0 sc_read_conditions.nd (pd_frz (pd_sl (pd_var 0) (po_dsome (pd_bin add_ok (pd_var 3) pd_int)) po_dnone)))
  (pqs_one (pq_set 2 sc_read_conditions.nd pd_str)))))))))) [0, 2, 3, 4, 5, 6, 7])
  (pqs_cons (pq_if (pb_cmp gt_ok (pd_callB len_ok (by rfl) B.len_ PySem.boot_len (pa_dcons (pd_var 1) pa_dnil)) (pd_gi B.MOST_CONDITIONS_ (by rfl)) (nomark _))
  (pqs_one (pq_ret pd_non))
  pqs_nil)
  (pqs_one (pq_ret (pd_callTy tuple_ok (by rfl) B.tuple_ (by decide +kernel) (pa_dcons (pd_var 1) pa_dnil))))))))
abbrev s_read_rule : Stmt := top 17
theorem sc_read_rule : FnScope ["line", "words", "size", "conditions"] ["line"] (defScope s_read_rule) := ⟨rfl, rfl, rfl, by decide +kernel, rfl, by decide +kernel, by decide +kernel⟩
theorem ok_read_rule (B : Bf P w K mg base) (h_tally_size : DefOk P w K mg base 2 "tally_size" ["words"] ["words"] fb_tally_size) (h_read_conditions : DefOk P w K mg base 3 "read_conditions" ["words"] ["words", "conditions", "joint", "size", "condition", "mode", "sign", "number"] fb_read_conditions) (F : FunG K mg "read_rule" s_read_rule) : DefOk P w K mg base 4 "read_rule" ["line"] ["line", "words", "size", "conditions"] fb_read_rule := by
  refine def_dl F sc_read_rule (fun _ _ _ _ _ _ us hl => match us, hl with | [_], _ => rfl) fun f cdv A outer s H E C hr => ?_
  exact (pqs_cons (pq_set 1 sc_read_rule.nd (pd_frz (pd_split (pd_var 0) pd_str)))
  (pqs_cons (pq_set 2 sc_read_rule.nd (pd_frz (pd_call' h_tally_size (hr.mono (by decide)) (by rfl) (takes_of rfl rfl rfl rfl) (pa_dcons (pd_frN (pd_sl (pd_var 1) (po_dsome pd_int) po_dnone)) pa_dnil))))
  (pqs_cons (pq_if (pb_w (pbw_or (pb_cmp (notIn_ok (hu65 hr)) (pd_ix (pd_var 1) pd_int) (pd_tup (pa_dcons pd_str (pa_dcons pd_str pa_dnil))) (by with_unfolding_all rfl)) (pbw_or (pb_cmp (eq_ok hr.units) (pd_var 2) pd_int (nomark _)) (pbw_or1 (pb_cmp (eq_ok hr.units) (pd_ix (pd_var 1) pd_int) pd_str (nomark _))))))
  (pqs_one (pq_raise (k := 0) B.err_BadRule.ok rfl (takes_of rfl rfl rfl rfl) (hr.mono (by decide)) (by rfl) (pa_dcons (pd_frz (pd_var 0)) pa_dnil)))
  pqs_nil)
  (pqs_cons (pq_set 3 sc_read_rule.nd (pd_frz (pd_call' h_read_conditions (hr.mono (by decide)) (by rfl) (takes_of rfl rfl rfl rfl) (pa_dcons (pd_frN (pd_sl (pd_var 1) (po_dsome (pd_bin add_ok (pd_var 2) pd_int)) po_dnone)) pa_dnil))))
  (pqs_cons (pq_if (pb_cmp isN_ok (pd_var 3) pd_non (nomark _))
  (pqs_one (pq_raise (k := 0) B.err_BadRule.ok rfl (takes_of rfl rfl rfl rfl) (hr.mono (by decide)) (by rfl) (pa_dcons (pd_frz (pd_var 0)) pa_dnil)))
  pqs_nil)
  (pqs_one (pq_ret (pd_tup (pa_dcons (pd_ix (pd_var 1) pd_int) (pa_dcons (pd_frz (pd_callTy tuple_ok (by rfl) B.tuple_ (by decide +kernel) (pa_dcons (pd_frN (pd_sl (pd_var 1) (po_dsome pd_int) (po_dsome (pd_bin add_ok (pd_var 2) pd_int)))) pa_dnil))) (pa_dcons (pd_var 3) pa_dnil)))))))))))
abbrev s_write_tally : Stmt := top 15
theorem sc_write_tally : FnScope ["tally"] ["tally"] (defScope s_write_tally) := ⟨rfl, rfl, rfl, by decide +kernel, rfl, by decide +kernel, by decide +kernel⟩
theorem ok_write_tally (B : Bf P w K mg base)  (F : FunG K mg "write_tally" s_write_tally) : DefOk P w K mg base 1 "write_tally" ["tally"] ["tally"] fb_write_tally := by
  refine def_dl F sc_write_tally (fun _ _ _ _ _ _ us hl => match us, hl with | [_], _ => rfl) fun f cdv A outer s H E C hr => ?_
  exact (pqs_one (pq_ret (pd_join pd_str (pd_var 0))))
abbrev s_write_rule : Stmt := top 18
theorem sc_write_rule : FnScope ["rule", "act", "who", "conditions", "texts", "joined", "mode", "tally", "sign", "number"] ["rule"] (defScope s_write_rule) := ⟨rfl, rfl, rfl, by decide +kernel, rfl, by decide +kernel, by decide +kernel⟩
theorem ok_write_rule (B : Bf P w K mg base) (h_write_tally : DefOk P w K mg base 1 "write_tally" ["tally"] ["tally"] fb_write_tally) (F : FunG K mg "write_rule" s_write_rule) : DefOk P w K mg base 2 "write_rule" ["rule"] ["rule", "act", "who", "conditions", "texts", "joined", "mode", "tally", "sign", "number"] fb_write_rule := by
  refine def_dl F sc_write_rule (fun _ _ _ _ _ _ us hl => match us, hl with | [_], _ => rfl) fun f cdv A outer s H E C hr => ?_
  exact (pqs_cons (pq_asg (pd_frz (pd_var 0)) (pgd_tup rfl (.cons (pgd_name 1 sc_write_rule.nd) (.cons (pgd_name 2 sc_write_rule.nd) (.cons (pgd_name 3 sc_write_rule.nd) .nil)))))
  (pqs_cons (pq_setLcV (i := 4) rfl sc_write_rule.nd rfl rfl (sw_true rfl rfl rfl (by decide +kernel)) (pid_list (pd_var 3)) (blkOk_by (N := ["rule", "act", "who", "conditions", "texts", "joined", "mode", "tally", "sign", "number"]) (sc := defScope s_write_rule) (own := [("mode", 6), ("tally", 7), ("sign", 8), ("number", 9)]) (by decide +kernel)) (by decide) (fun _ _ _ _ _ _ => (pgd_tup rfl (.cons (pgd_name 6 sc_write_rule.nd) (.cons (pgd_name 7 sc_write_rule.nd) (.cons (pgd_name 8 sc_write_rule.nd) (.cons (pgd_name 9 sc_write_rule.nd) .nil)))))) (fun _ _ _ _ _ _ => ptd_nil) (fun _ _ _ _ _ _ => (pd_joined (.cons (pd_fmt (pd_var 6)) (.cons pd_str (.cons (pd_fmt (pd_frN (pd_call' h_write_tally (hr.mono (by decide)) (by rfl) takes0 (pa_dcons (pd_var 7) pa_dnil)))) (.cons pd_str (.cons (pd_fmt (pd_var 8)) (.cons pd_str (.cons (pd_fmt (pd_var 9)) .nil))))))))))
  (pqs_cons (pq_if (pb_not (pb_tru (pd_var 4)))
  (pqs_one (pq_ret (pd_joined (.cons (pd_fmt (pd_var 1)) (.cons pd_str (.cons (pd_fmt (pd_frN (pd_call' h_write_tally (hr.mono (by decide)) (by rfl) (takes_of rfl rfl rfl rfl) (pa_dcons (pd_var 2) pa_dnil)))) .nil))))))
  pqs_nil)
  (pqs_cons (pq_set 5 sc_write_rule.nd (pd_join pd_str (pd_var 4)))
  (pqs_one (pq_ret (pd_joined (.cons (pd_fmt (pd_var 1)) (.cons pd_str (.cons (pd_fmt (pd_frN (pd_call' h_write_tally (hr.mono (by decide)) (by rfl) (takes_of rfl rfl rfl rfl) (pa_dcons (pd_var 2) pa_dnil)))) (.cons pd_str (.cons (pd_fmt (pd_var 5)) .nil))))))))))))
abbrev s__law_good_bare : Stmt := top 23
theorem sc__law_good_bare : FnScope ["_law_rule", "_law_line", "_law_told", "_law_text"] ["_law_rule", "_law_line"] (defScope s__law_good_bare) := ⟨rfl, rfl, rfl, by decide +kernel, rfl, by decide +kernel, by decide +kernel⟩
theorem ok__law_good_bare (B : Bf P w K mg base) (h_read_rule : DefOk P w K mg base 4 "read_rule" ["line"] ["line", "words", "size", "conditions"] fb_read_rule) (h_write_rule : DefOk P w K mg base 2 "write_rule" ["rule"] ["rule", "act", "who", "conditions", "texts", "joined", "mode", "tally", "sign", "number"] fb_write_rule) (F : FunG K mg "_law_good_bare" s__law_good_bare) : DefOk P w K mg base 5 "_law_good_bare" ["_law_rule", "_law_line"] ["_law_rule", "_law_line", "_law_told", "_law_text"] fb__law_good_bare := by
  refine def_dl F sc__law_good_bare (fun _ _ _ _ _ _ us hl => match us, hl with | [_, _], _ => rfl) fun f cdv A outer s H E C hr => ?_
  exact (pqs_cons (pq_set 2 sc__law_good_bare.nd (pd_frz (pd_call' h_read_rule (hr.mono (by decide)) (by rfl) (takes_of rfl rfl rfl rfl) (pa_dcons (pd_var 1) pa_dnil))))
  (pqs_cons (pq_if (pb_w (pbw_or (pb_not (pb_val (pd_callB isi_ok (by rfl) B.isinstance_ (by decide +kernel) (pa_dcons (pd_var 2) (pa_dcons (pd_ty "tuple" B.tuple_ (by rfl) (by decide +kernel)) pa_dnil))))) (pbw_or1 (pb_cmp (ne_ok hr.units) (pd_var 2) (pd_var 0) (nomark _)))))
  (pqs_one (pq_ret pd_bl))
  pqs_nil)
  (pqs_cons (pq_set 3 sc__law_good_bare.nd (pd_frz (pd_call' h_write_rule (hr.mono (by decide)) (by rfl) (takes_of rfl rfl rfl rfl) (pa_dcons (pd_var 0) pa_dnil))))
  (pqs_one (pq_ret (pd_and (pd_callB isi_ok (by rfl) B.isinstance_ (by decide +kernel) (pa_dcons (pd_var 3) (pa_dcons (pd_ty "str" B.str_ (by rfl) (by decide +kernel)) pa_dnil))) (pd_one (pd_cmp (eq_ok hr.units) (pd_var 3) (pd_var 1) (nomark _)))))))))
abbrev s__law_bad_bare : Stmt := top 24
theorem sc__law_bad_bare : FnScope ["_law_line", "_law_found", "e"] ["_law_line"] (defScope s__law_bad_bare) := ⟨rfl, rfl, rfl, by decide +kernel, rfl, by decide +kernel, by decide +kernel⟩
theorem ok__law_bad_bare (B : Bf P w K mg base) (h_read_rule : DefOk P w K mg base 4 "read_rule" ["line"] ["line", "words", "size", "conditions"] fb_read_rule) (F : FunG K mg "_law_bad_bare" s__law_bad_bare) : DefOk P w K mg base 5 "_law_bad_bare" ["_law_line"] ["_law_line", "_law_found", "e"] fb__law_bad_bare := by
  refine def_dl F sc__law_bad_bare (fun _ _ _ _ _ _ us hl => match us, hl with | [_], _ => rfl) fun f cdv A outer s H E C hr => ?_
  exact (pqs_cons (pq_set 1 sc__law_bad_bare.nd pd_non)
  (pqs_cons (pq_try (l := [("BadRule", true)]) (i := 2) sc__law_bad_bare.nd (takes_of rfl rfl rfl rfl) (by rfl) B.cls_BadRule (al_cons B.exm_BadRule_BadRule al_nil) (fun W pn xe tkv hpv => (pqs_one (pq_expr (pd_call' h_read_rule (hr.mono (by decide)) (by rfl) tkv (pa_dcons (pd_var 0) pa_dnil))))) (fun C' xd a oe d pn hxa hx hz hv => (pqs_one (pq_set 1 sc__law_bad_bare.nd (pd_fld (l := ["BadRule"]) hxa hx hz hv (al_cons ⟨exc_xf B.err_BadRule.ex, B.err_BadRule.no⟩ al_nil) (pv 2))))))
  (pqs_one (pq_ret (pd_and (pd_callB isi_ok (by rfl) B.isinstance_ (by decide +kernel) (pa_dcons (pd_var 1) (pa_dcons (pd_ty "str" B.str_ (by rfl) (by decide +kernel)) pa_dnil))) (pd_one (pd_cmp (eq_ok hr.units) (pd_var 1) (pd_var 0) (nomark _))))))))
abbrev s__law_kin_bare : Stmt := top 25
theorem sc__law_kin_bare : FnScope ["_law_line", "_law_kin", "e"] ["_law_line"] (defScope s__law_kin_bare) := ⟨rfl, rfl, rfl, by decide +kernel, rfl, by decide +kernel, by decide +kernel⟩
theorem ok__law_kin_bare (B : Bf P w K mg base) (h_read_rule : DefOk P w K mg base 4 "read_rule" ["line"] ["line", "words", "size", "conditions"] fb_read_rule) (F : FunG K mg "_law_kin_bare" s__law_kin_bare) : DefOk P w K mg base 5 "_law_kin_bare" ["_law_line"] ["_law_line", "_law_kin", "e"] fb__law_kin_bare := by
  refine def_dl F sc__law_kin_bare (fun _ _ _ _ _ _ us hl => match us, hl with | [_], _ => rfl) fun f cdv A outer s H E C hr => ?_
  exact (pqs_cons (pq_set 1 sc__law_kin_bare.nd pd_non)
  (pqs_cons (pq_try (l := [("BadRule", true)]) (i := 2) sc__law_kin_bare.nd (takes_of rfl rfl rfl rfl) (by rfl) B.cls_PlacementError (al_cons B.exm_BadRule_PlacementError al_nil) (fun W pn xe tkv hpv => (pqs_one (pq_expr (pd_call' h_read_rule (hr.mono (by decide)) (by rfl) tkv (pa_dcons (pd_var 0) pa_dnil))))) (fun C' xd a oe d pn hxa hx hz hv => (pqs_one (pq_set 1 sc__law_kin_bare.nd (pd_frz (pd_lst (pa_dcons (pd_isV (l := [("BadRule", true)]) (T0 := "ValueError") hxa hx hz hv (al_cons ⟨B.err_BadRule.ex, B.kit_BadRule_ValueError⟩ al_nil) B.ValueError_ PyProof.Rows.Boot.«ValueError» (by rfl) B.isinstance_ (by rfl) (pv 2)) (pa_dcons (pd_isU (l := [("BadRule", true)]) hxa hx hz hv (al_cons ⟨B.err_BadRule.ex, B.kit_BadRule_BadRule⟩ al_nil) B.cls_BadRule (by rfl) B.isinstance_ (by rfl) (pv 2)) (pa_dcons (pd_isU (l := [("BadRule", false)]) hxa hx hz hv (al_cons ⟨B.err_BadRule.ex, B.kit_BadRule_BadLine⟩ al_nil) B.cls_BadLine (by rfl) B.isinstance_ (by rfl) (pv 2)) (pa_dcons (pd_isU (l := [("BadRule", false)]) hxa hx hz hv (al_cons ⟨B.err_BadRule.ex, B.kit_BadRule_UnknownName⟩ al_nil) B.cls_UnknownName (by rfl) B.isinstance_ (by rfl) (pv 2)) pa_dnil))))))))))
  (pqs_one (pq_ret (pd_var 1)))))
abbrev s_law : Stmt := top 26
theorem sc_law : FnScope ["_law_script", "_law_draws_here", "_law_w", "_law_act", "_law_who", "_law_bad", "_law_line"] ["_law_script"] (defScope s_law) := ⟨rfl, rfl, rfl, by decide +kernel, rfl, by decide +kernel, by decide +kernel⟩
theorem ok_law (B : Bf P w K mg base) (h__law_draws : DefOk P w K mg base 1 "_law_draws" ["_law_script"] ["_law_script", "_law_draws_here", "_law_k", "_law_number", "_law_side", "_law_turn", "_law_mixed"] fb__law_draws) (h__law_word : DefOk P w K mg base 2 "_law_word" ["_law_draws_here"] ["_law_draws_here", "_law_menu", "_law_cell", "_law_letters", "_law_word_here", "_law_k"] fb__law_word) (h__law_good_bare : DefOk P w K mg base 5 "_law_good_bare" ["_law_rule", "_law_line"] ["_law_rule", "_law_line", "_law_told", "_law_text"] fb__law_good_bare) (h__law_bad_bare : DefOk P w K mg base 5 "_law_bad_bare" ["_law_line"] ["_law_line", "_law_found", "e"] fb__law_bad_bare) (h__law_kin_bare : DefOk P w K mg base 5 "_law_kin_bare" ["_law_line"] ["_law_line", "_law_kin", "e"] fb__law_kin_bare) {f : Addr} {fd : FuncData} (F : FunD K "law" "law" (defArgs s_law) (defBody s_law) (defScope s_law) [] [] f fd) : FnOk P w K mg base (L2.CX P w) 6 f fd ["_law_script"] (spD K ["_law_script"] ["_law_script", "_law_draws_here", "_law_w", "_law_act", "_law_who", "_law_bad", "_law_line"] fb_law) := by
  refine fnok_dl F sc_law fun f cdv A outer s H E C hr => ?_
  exact (pqs_cons (pq_set 1 sc_law.nd (pd_call' h__law_draws (hr.mono (by decide)) (by rfl) (takes_of rfl rfl rfl rfl) (pa_dcons (pd_var 0) pa_dnil)))
  (pqs_cons (pq_set 2 sc_law.nd (pd_frz (pd_call' h__law_word (hr.mono (by decide)) (by rfl) (takes_of rfl rfl rfl rfl) (pa_dcons (pd_var 1) pa_dnil))))
  (pqs_cons (pq_kill (pq_for (passes_of rfl) rfl (pid_list (pd_frz (pd_lst (pa_dcons pd_str (pa_dcons pd_str pa_dnil))))) (pgd_name 3 sc_law.nd)
  (pqs_one (pq_kill (pq_for (passes_of rfl) rfl (pid_list (pd_frz (pd_lst (pa_dcons (pd_tup (pa_dcons pd_str pa_dnil)) (pa_dcons (pd_tup (pa_dcons pd_str (pa_dcons (pd_var 2) pa_dnil))) (pa_dcons (pd_tup (pa_dcons pd_str (pa_dcons (pd_var 2) pa_dnil))) (pa_dcons (pd_tup (pa_dcons pd_str (pa_dcons (pd_var 2) pa_dnil))) pa_dnil))))))) (pgd_name 4 sc_law.nd)
  (pqs_one (pq_if (pb_not (pb_val (pd_frN (pd_call' h__law_good_bare (hr.mono (by decide)) (by rfl) (takes_of rfl rfl rfl rfl) (pa_dcons (pd_tup (pa_dcons (pd_var 3) (pa_dcons (pd_var 4) (pa_dcons (pd_tup pa_dnil) pa_dnil)))) (pa_dcons (pd_bin add_ok (pd_bin add_ok (pd_var 3) pd_str) (pd_join pd_str (pd_frN (pd_callTy list_ok (by rfl) B.list_ (by decide +kernel) (pa_dcons (pd_var 4) pa_dnil))))) pa_dnil))))))
  (pqs_one (pq_ret pd_bl))
  pqs_nil)) (by intro _; rfl) [4]) [4])) (by intro _; rfl) [3, 4]) [3, 4])
  (pqs_cons (pq_set 5 sc_law.nd (pd_frz (pd_lst (pa_dcons pd_str (pa_dcons pd_str (pa_dcons pd_str (pa_dcons pd_str (pa_dcons pd_str (pa_dcons pd_str (pa_dcons pd_str (pa_dcons pd_str (pa_dcons pd_str (pa_dcons pd_str pa_dnil)))))))))))))
  (pqs_cons (pq_set 5 sc_law.nd (pd_frz (pd_bin add_ok (pd_var 5) (pd_frN (pd_lst (pa_dcons pd_str (pa_dcons pd_str (pa_dcons pd_str (pa_dcons pd_str (pa_dcons pd_str (pa_dcons pd_str (pa_dcons pd_str pa_dnil))))))))))))
  (pqs_cons (pq_set 5 sc_law.nd (pd_frz (pd_bin add_ok (pd_var 5) (pd_frN (pd_lst (pa_dcons (pd_bin add_ok (pd_bin add_ok pd_str (pd_var 2)) pd_str) (pa_dcons (pd_bin add_ok (pd_bin add_ok (pd_bin add_ok pd_str (pd_var 2)) pd_str) (pd_var 2)) (pa_dcons (pd_bin add_ok (pd_bin add_ok pd_str (pd_var 2)) pd_str) pa_dnil))))))))
  (pqs_cons (pq_set 5 sc_law.nd (pd_frz (pd_bin add_ok (pd_var 5) (pd_frN (pd_lst (pa_dcons (pd_bin add_ok (pd_bin add_ok pd_str (pd_var 2)) pd_str) (pa_dcons pd_str (pa_dcons pd_str (pa_dcons (pd_bin add_ok (pd_bin add_ok pd_str (pd_var 2)) pd_str) pa_dnil)))))))))
  (pqs_cons (pq_kill (pq_for (passes_of rfl) rfl (pid_list (pd_var 5)) (pgd_name 6 sc_law.nd)
  (pqs_one (pq_if (pb_w (pbw_or (pb_not (pb_val (pd_frN (pd_call' h__law_bad_bare (hr.mono (by decide)) (by rfl) (takes_of rfl rfl rfl rfl) (pa_dcons (pd_var 6) pa_dnil))))) (pbw_or1 (pb_cmp (ne_ok hr.units) (pd_frN (pd_call' h__law_kin_bare (hr.mono (by decide)) (by rfl) (takes_of rfl rfl rfl rfl) (pa_dcons (pd_var 6) pa_dnil))) (pd_frN (pd_lst (pa_dcons pd_bl (pa_dcons pd_bl (pa_dcons pd_bl (pa_dcons pd_bl pa_dnil)))))) (nomark _)))))
  (pqs_one (pq_ret pd_bl))
  pqs_nil)) (by intro _; rfl) [6]) [6])
  (pqs_one (pq_ret (pd_call' h__law_good_bare (hr.mono (by decide)) (by rfl) (takes_of rfl rfl rfl rfl) (pa_dcons (pd_tup (pa_dcons pd_str (pa_dcons (pd_tup (pa_dcons pd_str (pa_dcons (pd_var 2) pa_dnil))) (pa_dcons (pd_tup pa_dnil) pa_dnil)))) (pa_dcons (pd_bin add_ok pd_str (pd_var 2)) pa_dnil)))))))))))))
end
end K08
set_option Elab.async false
set_option linter.all false
set_option maxRecDepth 100000
set_option maxHeartbeats 1000000
namespace K08
open PySem PySem.Spec DL
open L2 (atI ixN)
def iL (l : List Int) : D := .lst (l.map D.int)
theorem draw_spec (t : List Int) (m : Int) (hm : 0 < m) (E : Ko) (h : ∀ v t' ρ', 0 ≤ v → v < m → ρ'.ps = [iL t'] → E.rt (.v (.int v)) ρ') :
    wf fb__law_draw ⟨[some (.par 0), some (.val (.int m))], [iL t]⟩ E := by
  unfold fb__law_draw
  simp (decide := true) only [wf_seq, wf_seqL, wf_kill, wf_expr, wf_fret, wf_retN, wf_ifS, wf_setN, wf_setV, wf_setT, wf_par, wf_augI, wf_break, wf_cont, wf_thru, wf_raise, wf_tryAs, wm_xf, wm_is, wf_skip, wf_for, wm_var, wm_c, wm_frz, wm_frN, wm_nn, wm_un, wm_bin, wm_evs_nil, wm_evs_cons, wm_n, wm_tup, wm_lst, wm_bool, wm_notB, wm_andB, wm_orB, wm_and, wm_or, wm_if, wm_chain, wm_asInt, wm_noInt, wm_sl, wm_srcD, wm_srcN, wm_fmt, wm_js_nil, wm_js_cons, wm_tru, wm_strM, wm_mutL, wm_call, wm_comp, wc, EV.set, EV.kill, EV.kills, EV.put, EV.obj, EV.look, EV.looks, EV.objs, EV.key, EV.puts, argIx, argSl, gets, oD, oR, settled, List.set_cons_zero, List.set_cons_succ, List.getElem?_cons_zero, List.getElem?_cons_succ, List.replicate_succ, List.replicate_zero, List.map_cons, List.map_nil, List.length_cons, List.length_nil, List.nil_append, List.cons_append, Nat.reduceAdd, Nat.reduceSub, Nat.reduceLT, Nat.reduceLeDiff, List.nodup_cons, List.nodup_nil, List.not_mem_nil, not_false_eq_true, not_true_eq_false, and_self, and_true, true_and, and_false, false_and, if_true, if_false, reduceIte, Bool.false_eq_true, decide_eq_true_eq, decide_eq_false_iff_not, Bool.not_true, Bool.not_false, Bool.not_eq_true', Bool.not_eq_false', List.zip_cons_cons, List.zip_nil_right, List.zip_nil_left, List.foldl_cons, List.foldl_nil, tgN, tgT, tgT.go, tgL, mYes, wm_ret, List.headD_cons, addD, subD, mulD, modD, fdivD, powD, negD, cmpD, eqD, neD, isND, notND, isNone, lenD, intD, strD, listD, tupleD, ixD, min2D, max2D, appendM, popM, reverseM, clearM, rangeD1, rangeD, itemsD, truD, inKD, ixKD, splitD, joinD, slD, isiD, notD, iL]
  rcases List.eq_nil_or_concat t with rfl | ⟨l, a, rfl⟩
  · simp only [List.map_nil, List.length_nil, Int.ofNat_zero, Int.natCast_zero, if_true]
    exact h 0 [] _ (by omega) hm rfl
  · have e : (((l.concat a).map D.int).length : Int) ≠ 0 := by simp [List.concat_eq_append]; omega
    rw [if_neg e]
    have e2 : ((l.concat a).map D.int)[((l.concat a).map D.int).length - 1]? = some (D.int a) := by simp [List.concat_eq_append]
    have e3 : ((l.concat a).map D.int).dropLast = l.map D.int := by simp [List.concat_eq_append]
    rw [e2, e3]
    simp (decide := true) only [wf_seq, wf_seqL, wf_kill, wf_expr, wf_fret, wf_retN, wf_ifS, wf_setN, wf_setV, wf_setT, wf_par, wf_augI, wf_break, wf_cont, wf_thru, wf_raise, wf_tryAs, wm_xf, wm_is, wf_skip, wf_for, wm_var, wm_c, wm_frz, wm_frN, wm_nn, wm_un, wm_bin, wm_evs_nil, wm_evs_cons, wm_n, wm_tup, wm_lst, wm_bool, wm_notB, wm_andB, wm_orB, wm_and, wm_or, wm_if, wm_chain, wm_asInt, wm_noInt, wm_sl, wm_srcD, wm_srcN, wm_fmt, wm_js_nil, wm_js_cons, wm_tru, wm_strM, wm_mutL, wm_call, wm_comp, wc, EV.set, EV.kill, EV.kills, EV.put, EV.obj, EV.look, EV.looks, EV.objs, EV.key, EV.puts, argIx, argSl, gets, oD, oR, settled, List.set_cons_zero, List.set_cons_succ, List.getElem?_cons_zero, List.getElem?_cons_succ, List.replicate_succ, List.replicate_zero, List.map_cons, List.map_nil, List.length_cons, List.length_nil, List.nil_append, List.cons_append, Nat.reduceAdd, Nat.reduceSub, Nat.reduceLT, Nat.reduceLeDiff, List.nodup_cons, List.nodup_nil, List.not_mem_nil, not_false_eq_true, not_true_eq_false, and_self, and_true, true_and, and_false, false_and, if_true, if_false, reduceIte, Bool.false_eq_true, decide_eq_true_eq, decide_eq_false_iff_not, Bool.not_true, Bool.not_false, Bool.not_eq_true', Bool.not_eq_false', List.zip_cons_cons, List.zip_nil_right, List.zip_nil_left, List.foldl_cons, List.foldl_nil, tgN, tgT, tgT.go, tgL, mYes, wm_ret, List.headD_cons, addD, subD, mulD, modD, fdivD, powD, negD, cmpD, eqD, neD, isND, notND, isNone, lenD, intD, strD, listD, tupleD, ixD, min2D, max2D, appendM, popM, reverseM, clearM, rangeD1, rangeD, itemsD, truD, inKD, ixKD, splitD, joinD, slD, isiD, notD, hm]
    exact h _ l _ (Int.emod_nonneg _ (by omega)) (Int.emod_lt_of_pos _ hm) rfl
theorem rangeL_ok {n : Nat} {d : D} (h : d ∈ rangeL 0 n) : ∃ k : Nat, d = .int k ∧ k < n := by
  unfold rangeL at h
  obtain ⟨k, hk, rfl⟩ := List.mem_map.mp h
  exact ⟨k, by simp, List.mem_range.mp hk⟩
theorem atI_map {α : Type} {ns : List α} {f : α → D} {k : Nat} (hk : k < ns.length) : atI (ns.map f) (k : Int) = some (f ns[k]) := by
  unfold atI ixN
  rw [if_pos (by omega), if_pos (by simp; omega)]
  simp [hk]
theorem iL_app (xs : List Int) (n : Int) : D.lst (xs.map D.int ++ [.int n]) = iL (xs ++ [n]) := by simp [iL]
theorem draws_big (B : Nat) (hB : B ≤ 16777216) (sl : Option DL.Slot) (k sd : D) (E : Ko) (h : ∀ xs n', xs.length ≤ B → E.nx ⟨[sl, some (.own (iL xs)), some (.val k), some (.val (.int n')), some (.val sd), none, none], []⟩)
    (ds : List D) (xs : List Int) (n : Int) (hl : xs.length + ds.length ≤ B) : wf (forL (tgN 5) lb__law_draws_2 [5] ds) ⟨[sl, some (.own (iL xs)), some (.val k), some (.val (.int n)), some (.val sd), none, none], []⟩ E := by
  refine wf_forL (fun ds ρ => ∃ xs n', xs.length + ds.length ≤ B ∧ ρ = ⟨[sl, some (.own (iL xs)), some (.val k), some (.val (.int n')), some (.val sd), none, none], []⟩) ?_ ?_ _ _ ⟨xs, n, hl, rfl⟩
  · rintro d ds ρ ⟨xs, n, hl, rfl⟩
    refine ⟨_, rfl, ?_⟩
    rw [List.length_cons] at hl
    have hz : szOk ((xs.map D.int).length + 1) := by unfold szOk; simp; omega
    unfold lb__law_draws_2
    simp (decide := true) only [wf_seq, wf_seqL, wf_kill, wf_expr, wf_fret, wf_retN, wf_ifS, wf_setN, wf_setV, wf_setT, wf_par, wf_augI, wf_break, wf_cont, wf_thru, wf_raise, wf_tryAs, wm_xf, wm_is, wf_skip, wf_for, wm_var, wm_c, wm_frz, wm_frN, wm_nn, wm_un, wm_bin, wm_evs_nil, wm_evs_cons, wm_n, wm_tup, wm_lst, wm_bool, wm_notB, wm_andB, wm_orB, wm_and, wm_or, wm_if, wm_chain, wm_asInt, wm_noInt, wm_sl, wm_srcD, wm_srcN, wm_fmt, wm_js_nil, wm_js_cons, wm_tru, wm_strM, wm_mutL, wm_call, wm_comp, wc, EV.set, EV.kill, EV.kills, EV.put, EV.obj, EV.look, EV.looks, EV.objs, EV.key, EV.puts, argIx, argSl, gets, oD, oR, settled, List.set_cons_zero, List.set_cons_succ, List.getElem?_cons_zero, List.getElem?_cons_succ, List.replicate_succ, List.replicate_zero, List.map_cons, List.map_nil, List.length_cons, List.length_nil, List.nil_append, List.cons_append, Nat.reduceAdd, Nat.reduceSub, Nat.reduceLT, Nat.reduceLeDiff, List.nodup_cons, List.nodup_nil, List.not_mem_nil, not_false_eq_true, not_true_eq_false, and_self, and_true, true_and, and_false, false_and, if_true, if_false, reduceIte, Bool.false_eq_true, decide_eq_true_eq, decide_eq_false_iff_not, Bool.not_true, Bool.not_false, Bool.not_eq_true', Bool.not_eq_false', List.zip_cons_cons, List.zip_nil_right, List.zip_nil_left, List.foldl_cons, List.foldl_nil, tgN, tgT, tgT.go, tgL, mYes, wm_ret, List.headD_cons, addD, subD, mulD, modD, fdivD, powD, negD, cmpD, eqD, neD, isND, notND, isNone, lenD, intD, strD, listD, tupleD, ixD, min2D, max2D, appendM, popM, reverseM, clearM, rangeD1, rangeD, itemsD, truD, inKD, ixKD, splitD, joinD, slD, isiD, notD, iL, hz]
    split
    · exact ⟨xs ++ [n % 1000], n / 1000, by simp; omega, by rw [iL_app]; rfl⟩
    · exact ⟨xs, n, by omega, rfl⟩
  · rintro ρ ⟨xs, n', hl, rfl⟩
    exact h xs n' (by simpa using hl)
theorem draws_small (B : Nat) (hB : B ≤ 16777216) (sl : Option DL.Slot) (k n sd : D) (E : Ko) (h : ∀ xs m, xs.length ≤ B → E.nx ⟨[sl, some (.own (iL xs)), some (.val k), some (.val n), some (.val sd), none, some (.val (.int m))], []⟩)
    (ds : List D) (xs : List Int) (m : Int) (hm : 0 ≤ m ∧ m < 2147483647) (hl : xs.length + ds.length ≤ B) : wf (forL (tgN 5) lb__law_draws_3 [5] ds) ⟨[sl, some (.own (iL xs)), some (.val k), some (.val n), some (.val sd), none, some (.val (.int m))], []⟩ E := by
  refine wf_forL (fun ds ρ => ∃ xs m, xs.length + ds.length ≤ B ∧ (0 ≤ m ∧ m < 2147483647) ∧ ρ = ⟨[sl, some (.own (iL xs)), some (.val k), some (.val n), some (.val sd), none, some (.val (.int m))], []⟩) ?_ ?_ _ _ ⟨xs, m, hl, hm, rfl⟩
  · rintro d ds ρ ⟨xs, m, hl, hm, rfl⟩
    refine ⟨_, rfl, ?_⟩
    rw [List.length_cons] at hl
    have hz : szOk ((xs.map D.int).length + 1) := by unfold szOk; simp; omega
    have c1 : cMul m 69621 := by unfold cMul; omega
    have h2 : 0 ≤ m * 69621 % 2147483647 ∧ m * 69621 % 2147483647 < 2147483647 := ⟨Int.emod_nonneg _ (by decide), Int.emod_lt_of_pos _ (by decide)⟩
    have c2 : cMul (m * 69621 % 2147483647) (m * 69621 % 2147483647) := by unfold cMul; omega
    unfold lb__law_draws_3
    simp (decide := true) only [wf_seq, wf_seqL, wf_kill, wf_expr, wf_fret, wf_retN, wf_ifS, wf_setN, wf_setV, wf_setT, wf_par, wf_augI, wf_break, wf_cont, wf_thru, wf_raise, wf_tryAs, wm_xf, wm_is, wf_skip, wf_for, wm_var, wm_c, wm_frz, wm_frN, wm_nn, wm_un, wm_bin, wm_evs_nil, wm_evs_cons, wm_n, wm_tup, wm_lst, wm_bool, wm_notB, wm_andB, wm_orB, wm_and, wm_or, wm_if, wm_chain, wm_asInt, wm_noInt, wm_sl, wm_srcD, wm_srcN, wm_fmt, wm_js_nil, wm_js_cons, wm_tru, wm_strM, wm_mutL, wm_call, wm_comp, wc, EV.set, EV.kill, EV.kills, EV.put, EV.obj, EV.look, EV.looks, EV.objs, EV.key, EV.puts, argIx, argSl, gets, oD, oR, settled, List.set_cons_zero, List.set_cons_succ, List.getElem?_cons_zero, List.getElem?_cons_succ, List.replicate_succ, List.replicate_zero, List.map_cons, List.map_nil, List.length_cons, List.length_nil, List.nil_append, List.cons_append, Nat.reduceAdd, Nat.reduceSub, Nat.reduceLT, Nat.reduceLeDiff, List.nodup_cons, List.nodup_nil, List.not_mem_nil, not_false_eq_true, not_true_eq_false, and_self, and_true, true_and, and_false, false_and, if_true, if_false, reduceIte, Bool.false_eq_true, decide_eq_true_eq, decide_eq_false_iff_not, Bool.not_true, Bool.not_false, Bool.not_eq_true', Bool.not_eq_false', List.zip_cons_cons, List.zip_nil_right, List.zip_nil_left, List.foldl_cons, List.foldl_nil, tgN, tgT, tgT.go, tgL, mYes, wm_ret, List.headD_cons, addD, subD, mulD, modD, fdivD, powD, negD, cmpD, eqD, neD, isND, notND, isNone, lenD, intD, strD, listD, tupleD, ixD, min2D, max2D, appendM, popM, reverseM, clearM, rangeD1, rangeD, itemsD, truD, inKD, ixKD, splitD, joinD, slD, isiD, notD, iL, hz, c1, c2]
    exact ⟨xs ++ [_], _, by simp; omega, h2, by rw [iL_app]; rfl⟩
  · rintro ρ ⟨xs, m, hl, hm, rfl⟩
    exact h xs m (by simpa using hl)
theorem draws_rest (B : Nat) (hB : B ≤ 16777216) (sl : Option DL.Slot) (k : Nat) (hk : k < 63) (n sd : Int) (E : Ko) (h : ∀ xs sd, xs.length ≤ B → E.nx ⟨[sl, some (.own (iL xs)), some (.val (.int k)), none, some (.val (.int sd)), none, none], []⟩)
    (xs : List Int) (hl : xs.length + 40 ≤ B) : later rb__law_draws_1 E ⟨[sl, some (.own (iL xs)), some (.val (.int k)), some (.val (.int n)), some (.val (.int sd)), none, none], []⟩ := by
  have c1 : cMul 2 n := by unfold cMul; omega
  have c2 : cMul 34 (k : Int) := by unfold cMul; omega
  have c3 : cMul (2 * n + sd) (48271 + 34 * (k : Int)) := by unfold cMul; omega
  unfold later rb__law_draws_1
  simp (decide := true) only [wf_seq, wf_seqL, wf_kill, wf_expr, wf_fret, wf_retN, wf_ifS, wf_setN, wf_setV, wf_setT, wf_par, wf_augI, wf_break, wf_cont, wf_thru, wf_raise, wf_tryAs, wm_xf, wm_is, wf_skip, wf_for, wm_var, wm_c, wm_frz, wm_frN, wm_nn, wm_un, wm_bin, wm_evs_nil, wm_evs_cons, wm_n, wm_tup, wm_lst, wm_bool, wm_notB, wm_andB, wm_orB, wm_and, wm_or, wm_if, wm_chain, wm_asInt, wm_noInt, wm_sl, wm_srcD, wm_srcN, wm_fmt, wm_js_nil, wm_js_cons, wm_tru, wm_strM, wm_mutL, wm_call, wm_comp, wc, EV.set, EV.kill, EV.kills, EV.put, EV.obj, EV.look, EV.looks, EV.objs, EV.key, EV.puts, argIx, argSl, gets, oD, oR, settled, List.set_cons_zero, List.set_cons_succ, List.getElem?_cons_zero, List.getElem?_cons_succ, List.replicate_succ, List.replicate_zero, List.map_cons, List.map_nil, List.length_cons, List.length_nil, List.nil_append, List.cons_append, Nat.reduceAdd, Nat.reduceSub, Nat.reduceLT, Nat.reduceLeDiff, List.nodup_cons, List.nodup_nil, List.not_mem_nil, not_false_eq_true, not_true_eq_false, and_self, and_true, true_and, and_false, false_and, if_true, if_false, reduceIte, Bool.false_eq_true, decide_eq_true_eq, decide_eq_false_iff_not, Bool.not_true, Bool.not_false, Bool.not_eq_true', Bool.not_eq_false', List.zip_cons_cons, List.zip_nil_right, List.zip_nil_left, List.foldl_cons, List.foldl_nil, tgN, tgT, tgT.go, tgL, mYes, wm_ret, List.headD_cons, addD, subD, mulD, modD, fdivD, powD, negD, cmpD, eqD, neD, isND, notND, isNone, lenD, intD, strD, listD, tupleD, ixD, min2D, max2D, appendM, popM, reverseM, clearM, rangeD1, rangeD, itemsD, truD, inKD, ixKD, splitD, joinD, slD, isiD, notD, c1, c2, c3]
  split
  · exact draws_big B hB _ _ _ _ (fun xs n' hx => h xs sd hx) _ _ _ (by simp [rangeL]; omega)
  · refine draws_small B hB _ _ _ _ _ (fun xs n' hx => h xs sd hx) _ _ _ ⟨Int.emod_nonneg _ (by decide), Int.emod_lt_of_pos _ (by decide)⟩ (by simp [rangeL]; omega)
theorem draws_spec (ns : List Int) (E : Ko) (h : ∀ xs ρ', E.rt (.n (iL xs)) ρ') : wf fb__law_draws ⟨[some (.val (.scr (ns.map D.int))), none, none, none, none, none, none], []⟩ E := by
  unfold fb__law_draws
  simp (decide := true) only [wf_seq, wf_seqL, wf_kill, wf_expr, wf_fret, wf_retN, wf_ifS, wf_setN, wf_setV, wf_setT, wf_par, wf_augI, wf_break, wf_cont, wf_thru, wf_raise, wf_tryAs, wm_xf, wm_is, wf_skip, wf_for, wm_var, wm_c, wm_frz, wm_frN, wm_nn, wm_un, wm_bin, wm_evs_nil, wm_evs_cons, wm_n, wm_tup, wm_lst, wm_bool, wm_notB, wm_andB, wm_orB, wm_and, wm_or, wm_if, wm_chain, wm_asInt, wm_noInt, wm_sl, wm_srcD, wm_srcN, wm_fmt, wm_js_nil, wm_js_cons, wm_tru, wm_strM, wm_mutL, wm_call, wm_comp, wc, EV.set, EV.kill, EV.kills, EV.put, EV.obj, EV.look, EV.looks, EV.objs, EV.key, EV.puts, argIx, argSl, gets, oD, oR, settled, List.set_cons_zero, List.set_cons_succ, List.getElem?_cons_zero, List.getElem?_cons_succ, List.replicate_succ, List.replicate_zero, List.map_cons, List.map_nil, List.length_cons, List.length_nil, List.nil_append, List.cons_append, Nat.reduceAdd, Nat.reduceSub, Nat.reduceLT, Nat.reduceLeDiff, List.nodup_cons, List.nodup_nil, List.not_mem_nil, not_false_eq_true, not_true_eq_false, and_self, and_true, true_and, and_false, false_and, if_true, if_false, reduceIte, Bool.false_eq_true, decide_eq_true_eq, decide_eq_false_iff_not, Bool.not_true, Bool.not_false, Bool.not_eq_true', Bool.not_eq_false', List.zip_cons_cons, List.zip_nil_right, List.zip_nil_left, List.foldl_cons, List.foldl_nil, tgN, tgT, tgT.go, tgL, mYes, wm_ret, List.headD_cons, addD, subD, mulD, modD, fdivD, powD, negD, cmpD, eqD, neD, isND, notND, isNone, lenD, intD, strD, listD, tupleD, ixD, min2D, max2D, appendM, popM, reverseM, clearM, rangeD1, rangeD, itemsD, truD, inKD, ixKD, splitD, joinD, slD, isiD, notD]
  have hr : cRng (if (63 : Int) < ((ns.map D.int).length : Int) then 63 else ((ns.map D.int).length : Int)) := by
    unfold cRng
    split <;> omega
  have hr2 : (if (63 : Int) < ((ns.map D.int).length : Int) then 63 else ((ns.map D.int).length : Int)).toNat ≤ 63 ∧ (if (63 : Int) < ((ns.map D.int).length : Int) then 63 else ((ns.map D.int).length : Int)).toNat ≤ ns.length := by
    rw [List.length_map]
    split <;> omega
  rw [if_pos hr]
  simp only
  refine wf_forL (fun ds ρ => (∀ d ∈ ds, ∃ k : Nat, d = .int k ∧ k < ns.length ∧ k < 63) ∧ ∃ xs : List Int, xs.length + 40 * ds.length ≤ 2520 ∧ ρ = ⟨[some (.val (.scr (ns.map D.int))), some (.own (iL xs)), none, none, none, none, none], []⟩) ?_ ?_ _ _ ⟨?_, [], ?_, rfl⟩
  · rintro d ds ρ ⟨hd, xs, hl, rfl⟩
    obtain ⟨k, rfl, hk, hk2⟩ := hd _ List.mem_cons_self
    have hd' : ∀ d ∈ ds, ∃ k : Nat, d = .int k ∧ k < ns.length ∧ k < 63 := fun d z => hd d (List.mem_cons_of_mem _ z)
    rw [List.length_cons] at hl
    refine ⟨_, rfl, ?_⟩
    have ha := atI_map (f := D.int) hk
    unfold lb__law_draws_1
    simp (decide := true) only [wf_seq, wf_seqL, wf_kill, wf_expr, wf_fret, wf_retN, wf_ifS, wf_setN, wf_setV, wf_setT, wf_par, wf_augI, wf_break, wf_cont, wf_thru, wf_raise, wf_tryAs, wm_xf, wm_is, wf_skip, wf_for, wm_var, wm_c, wm_frz, wm_frN, wm_nn, wm_un, wm_bin, wm_evs_nil, wm_evs_cons, wm_n, wm_tup, wm_lst, wm_bool, wm_notB, wm_andB, wm_orB, wm_and, wm_or, wm_if, wm_chain, wm_asInt, wm_noInt, wm_sl, wm_srcD, wm_srcN, wm_fmt, wm_js_nil, wm_js_cons, wm_tru, wm_strM, wm_mutL, wm_call, wm_comp, wc, EV.set, EV.kill, EV.kills, EV.put, EV.obj, EV.look, EV.looks, EV.objs, EV.key, EV.puts, argIx, argSl, gets, oD, oR, settled, List.set_cons_zero, List.set_cons_succ, List.getElem?_cons_zero, List.getElem?_cons_succ, List.replicate_succ, List.replicate_zero, List.map_cons, List.map_nil, List.length_cons, List.length_nil, List.nil_append, List.cons_append, Nat.reduceAdd, Nat.reduceSub, Nat.reduceLT, Nat.reduceLeDiff, List.nodup_cons, List.nodup_nil, List.not_mem_nil, not_false_eq_true, not_true_eq_false, and_self, and_true, true_and, and_false, false_and, if_true, if_false, reduceIte, Bool.false_eq_true, decide_eq_true_eq, decide_eq_false_iff_not, Bool.not_true, Bool.not_false, Bool.not_eq_true', Bool.not_eq_false', List.zip_cons_cons, List.zip_nil_right, List.zip_nil_left, List.foldl_cons, List.foldl_nil, tgN, tgT, tgT.go, tgL, mYes, wm_ret, List.headD_cons, addD, subD, mulD, modD, fdivD, powD, negD, cmpD, eqD, neD, isND, notND, isNone, lenD, intD, strD, listD, tupleD, ixD, min2D, max2D, appendM, popM, reverseM, clearM, rangeD1, rangeD, itemsD, truD, inKD, ixKD, splitD, joinD, slD, isiD, notD, ha]
    split
    · refine draws_rest (2520 - 40 * ds.length) (by omega) _ _ hk2 _ _ _ ?_ _ (by omega)
      intro xs sd hx
      exact ⟨hd', xs, by omega, rfl⟩
    · refine draws_rest (2520 - 40 * ds.length) (by omega) _ _ hk2 _ _ _ ?_ _ (by omega)
      intro xs sd hx
      exact ⟨hd', xs, by omega, rfl⟩
  · rintro ρ ⟨_, xs, _, rfl⟩
    unfold later rb__law_draws_2
    simp (decide := true) only [wf_seq, wf_seqL, wf_kill, wf_expr, wf_fret, wf_retN, wf_ifS, wf_setN, wf_setV, wf_setT, wf_par, wf_augI, wf_break, wf_cont, wf_thru, wf_raise, wf_tryAs, wm_xf, wm_is, wf_skip, wf_for, wm_var, wm_c, wm_frz, wm_frN, wm_nn, wm_un, wm_bin, wm_evs_nil, wm_evs_cons, wm_n, wm_tup, wm_lst, wm_bool, wm_notB, wm_andB, wm_orB, wm_and, wm_or, wm_if, wm_chain, wm_asInt, wm_noInt, wm_sl, wm_srcD, wm_srcN, wm_fmt, wm_js_nil, wm_js_cons, wm_tru, wm_strM, wm_mutL, wm_call, wm_comp, wc, EV.set, EV.kill, EV.kills, EV.put, EV.obj, EV.look, EV.looks, EV.objs, EV.key, EV.puts, argIx, argSl, gets, oD, oR, settled, List.set_cons_zero, List.set_cons_succ, List.getElem?_cons_zero, List.getElem?_cons_succ, List.replicate_succ, List.replicate_zero, List.map_cons, List.map_nil, List.length_cons, List.length_nil, List.nil_append, List.cons_append, Nat.reduceAdd, Nat.reduceSub, Nat.reduceLT, Nat.reduceLeDiff, List.nodup_cons, List.nodup_nil, List.not_mem_nil, not_false_eq_true, not_true_eq_false, and_self, and_true, true_and, and_false, false_and, if_true, if_false, reduceIte, Bool.false_eq_true, decide_eq_true_eq, decide_eq_false_iff_not, Bool.not_true, Bool.not_false, Bool.not_eq_true', Bool.not_eq_false', List.zip_cons_cons, List.zip_nil_right, List.zip_nil_left, List.foldl_cons, List.foldl_nil, tgN, tgT, tgT.go, tgL, mYes, wm_ret, List.headD_cons, addD, subD, mulD, modD, fdivD, powD, negD, cmpD, eqD, neD, isND, notND, isNone, lenD, intD, strD, listD, tupleD, ixD, min2D, max2D, appendM, popM, reverseM, clearM, rangeD1, rangeD, itemsD, truD, inKD, ixKD, splitD, joinD, slD, isiD, notD, iL]
    rw [← List.map_reverse]
    exact h xs.reverse _
  · intro d hd
    obtain ⟨k, rfl, hk⟩ := rangeL_ok hd
    exact ⟨k, rfl, by omega, by omega⟩
  · unfold rangeL
    simp only [List.length_map, List.length_range, List.length_nil]
    omega
def low (w : Str) : Prop := ∀ c ∈ w.cps.toList, 97 ≤ c ∧ c ≤ 122
instance {w : Str} : Decidable (low w) := by unfold low; exact inferInstance
def WOK (w : Str) : Prop := 1 ≤ w.length ∧ w.length ≤ 8 ∧ low w
instance {w : Str} : Decidable (WOK w) := by unfold WOK; exact inferInstance
theorem str_len (w : Str) : w.length = w.cps.toList.length := by simp [Str.length]
theorem str_app (a b : Str) : (a ++ b).cps.toList = a.cps.toList ++ b.cps.toList := TL.tl_append a b
theorem str_appL (a b : Str) : (a ++ b).length = a.length + b.length := by
  rw [str_len, str_len, str_len, str_app, List.length_append]
def letters : Str := "abcdefghijklmnopqrstuvwxyz"
theorem letters_len : letters.cps.toList.length = 26 := by decide
theorem letters_at {i : Int} (h0 : 0 ≤ i) (h : i < 26) : ∃ c, atI letters.cps.toList i = some c ∧ 97 ≤ c ∧ c ≤ 122 := by
  obtain ⟨k, rfl⟩ := Int.eq_ofNat_of_zero_le h0
  have hk : k < letters.cps.toList.length := by rw [letters_len]; omega
  refine ⟨letters.cps.toList[k], ?_, ?_⟩
  · unfold atI ixN
    rw [if_pos (by omega), if_pos (by omega)]
    simp [hk]
  · exact (by decide : ∀ c ∈ letters.cps.toList, 97 ≤ c ∧ c ≤ 122) _ (List.getElem_mem hk)
def menu : List Str := ["kind", "hall", "make", "weight", "any", "own", "if", "and", "take", "pass", "taken", "seen", "at", "z", "aa"]
theorem atI_list (l : List Str) {i : Int} (h0 : 0 ≤ i) (h : i < l.length) : ∃ w ∈ l, atI (l.map D.str) i = some (.str w) := by
  obtain ⟨k, rfl⟩ := Int.eq_ofNat_of_zero_le h0
  have hk : k < l.length := by omega
  exact ⟨l[k], List.getElem_mem hk, atI_map (f := D.str) hk⟩
theorem word_loop (E : Ko) (a c : Option DL.Slot) (h : ∀ w t, WOK w → E.nx ⟨[some (.par 0), a, c, some (.val (.str letters)), some (.val (.str w)), none], [iL t]⟩) (ds : List D) (hd : 1 ≤ ds.length ∧ ds.length ≤ 8) (t : List Int) :
    wf (forL (tgN 5) lb__law_word_1 [5] ds) ⟨[some (.par 0), a, c, some (.val (.str letters)), some (.val (.str "")), none], [iL t]⟩ E := by
  refine wf_forL (fun ds ρ => ∃ w t, 1 ≤ w.length + ds.length ∧ w.length + ds.length ≤ 8 ∧ low w ∧ ρ = ⟨[some (.par 0), a, c, some (.val (.str letters)), some (.val (.str w)), none], [iL t]⟩) ?_ ?_ _ _ ⟨_, t, ?_, ?_, by decide, rfl⟩
  · rintro d ds ρ ⟨w, t, h1, h2, hw, rfl⟩
    refine ⟨_, rfl, ?_⟩
    rw [List.length_cons] at h1 h2
    unfold lb__law_word_1
    simp (decide := true) only [wf_seq, wf_seqL, wf_kill, wf_expr, wf_fret, wf_retN, wf_ifS, wf_setN, wf_setV, wf_setT, wf_par, wf_augI, wf_break, wf_cont, wf_thru, wf_raise, wf_tryAs, wm_xf, wm_is, wf_skip, wf_for, wm_var, wm_c, wm_frz, wm_frN, wm_nn, wm_un, wm_bin, wm_evs_nil, wm_evs_cons, wm_n, wm_tup, wm_lst, wm_bool, wm_notB, wm_andB, wm_orB, wm_and, wm_or, wm_if, wm_chain, wm_asInt, wm_noInt, wm_sl, wm_srcD, wm_srcN, wm_fmt, wm_js_nil, wm_js_cons, wm_tru, wm_strM, wm_mutL, wm_call, wm_comp, wc, EV.set, EV.kill, EV.kills, EV.put, EV.obj, EV.look, EV.looks, EV.objs, EV.key, EV.puts, argIx, argSl, gets, oD, oR, settled, List.set_cons_zero, List.set_cons_succ, List.getElem?_cons_zero, List.getElem?_cons_succ, List.replicate_succ, List.replicate_zero, List.map_cons, List.map_nil, List.length_cons, List.length_nil, List.nil_append, List.cons_append, Nat.reduceAdd, Nat.reduceSub, Nat.reduceLT, Nat.reduceLeDiff, List.nodup_cons, List.nodup_nil, List.not_mem_nil, not_false_eq_true, not_true_eq_false, and_self, and_true, true_and, and_false, false_and, if_true, if_false, reduceIte, Bool.false_eq_true, decide_eq_true_eq, decide_eq_false_iff_not, Bool.not_true, Bool.not_false, Bool.not_eq_true', Bool.not_eq_false', List.zip_cons_cons, List.zip_nil_right, List.zip_nil_left, List.foldl_cons, List.foldl_nil, tgN, tgT, tgT.go, tgL, mYes, wm_ret, List.headD_cons]
    refine draw_spec t 26 (by decide) _ ?_
    intro v t' ρ' g1 g2 g3
    obtain ⟨c', e, e1, e2⟩ := letters_at g1 g2
    have hz : szOk (w.length + Str.length ⟨#[c']⟩) := by
      have : Str.length ⟨#[c']⟩ = 1 := rfl
      unfold szOk
      omega
    simp (decide := true) only [wf_seq, wf_seqL, wf_kill, wf_expr, wf_fret, wf_retN, wf_ifS, wf_setN, wf_setV, wf_setT, wf_par, wf_augI, wf_break, wf_cont, wf_thru, wf_raise, wf_tryAs, wm_xf, wm_is, wf_skip, wf_for, wm_var, wm_c, wm_frz, wm_frN, wm_nn, wm_un, wm_bin, wm_evs_nil, wm_evs_cons, wm_n, wm_tup, wm_lst, wm_bool, wm_notB, wm_andB, wm_orB, wm_and, wm_or, wm_if, wm_chain, wm_asInt, wm_noInt, wm_sl, wm_srcD, wm_srcN, wm_fmt, wm_js_nil, wm_js_cons, wm_tru, wm_strM, wm_mutL, wm_call, wm_comp, wc, EV.set, EV.kill, EV.kills, EV.put, EV.obj, EV.look, EV.looks, EV.objs, EV.key, EV.puts, argIx, argSl, gets, oD, oR, settled, List.set_cons_zero, List.set_cons_succ, List.getElem?_cons_zero, List.getElem?_cons_succ, List.replicate_succ, List.replicate_zero, List.map_cons, List.map_nil, List.length_cons, List.length_nil, List.nil_append, List.cons_append, Nat.reduceAdd, Nat.reduceSub, Nat.reduceLT, Nat.reduceLeDiff, List.nodup_cons, List.nodup_nil, List.not_mem_nil, not_false_eq_true, not_true_eq_false, and_self, and_true, true_and, and_false, false_and, if_true, if_false, reduceIte, Bool.false_eq_true, decide_eq_true_eq, decide_eq_false_iff_not, Bool.not_true, Bool.not_false, Bool.not_eq_true', Bool.not_eq_false', List.zip_cons_cons, List.zip_nil_right, List.zip_nil_left, List.foldl_cons, List.foldl_nil, tgN, tgT, tgT.go, tgL, mYes, wm_ret, List.headD_cons, addD, subD, mulD, modD, fdivD, powD, negD, cmpD, eqD, neD, isND, notND, isNone, lenD, intD, strD, listD, tupleD, ixD, min2D, max2D, appendM, popM, reverseM, clearM, rangeD1, rangeD, itemsD, truD, inKD, ixKD, splitD, joinD, slD, isiD, notD, g3, e, hz]
    refine ⟨w ++ ⟨#[c']⟩, t', ?_, ?_, ?_, rfl⟩
    · rw [str_appL]
      simp [Str.length]
      omega
    · rw [str_appL]
      simp [Str.length]
      simp [Str.length] at h2
      omega
    · intro x hx
      rw [str_app] at hx
      rcases List.mem_append.mp hx with hx | hx
      · exact hw x hx
      · simp at hx
        subst hx
        exact ⟨e1, e2⟩
  · rintro ρ ⟨w, t, h1, h2, hw, rfl⟩
    exact h w t ⟨by simpa using h1, by simpa using h2, hw⟩
  · have : Str.length "" = 0 := by decide
    omega
  · have : Str.length "" = 0 := by decide
    omega
theorem word_spec (t : List Int) (E : Ko) (h : ∀ w t' ρ', WOK w → ρ'.ps = [iL t'] → E.rt (.v (.str w)) ρ') : wf fb__law_word ⟨[some (.par 0), none, none, none, none, none], [iL t]⟩ E := by
  unfold fb__law_word
  simp (decide := true) only [wf_seq, wf_seqL, wf_kill, wf_expr, wf_fret, wf_retN, wf_ifS, wf_setN, wf_setV, wf_setT, wf_par, wf_augI, wf_break, wf_cont, wf_thru, wf_raise, wf_tryAs, wm_xf, wm_is, wf_skip, wf_for, wm_var, wm_c, wm_frz, wm_frN, wm_nn, wm_un, wm_bin, wm_evs_nil, wm_evs_cons, wm_n, wm_tup, wm_lst, wm_bool, wm_notB, wm_andB, wm_orB, wm_and, wm_or, wm_if, wm_chain, wm_asInt, wm_noInt, wm_sl, wm_srcD, wm_srcN, wm_fmt, wm_js_nil, wm_js_cons, wm_tru, wm_strM, wm_mutL, wm_call, wm_comp, wc, EV.set, EV.kill, EV.kills, EV.put, EV.obj, EV.look, EV.looks, EV.objs, EV.key, EV.puts, argIx, argSl, gets, oD, oR, settled, List.set_cons_zero, List.set_cons_succ, List.getElem?_cons_zero, List.getElem?_cons_succ, List.replicate_succ, List.replicate_zero, List.map_cons, List.map_nil, List.length_cons, List.length_nil, List.nil_append, List.cons_append, Nat.reduceAdd, Nat.reduceSub, Nat.reduceLT, Nat.reduceLeDiff, List.nodup_cons, List.nodup_nil, List.not_mem_nil, not_false_eq_true, not_true_eq_false, and_self, and_true, true_and, and_false, false_and, if_true, if_false, reduceIte, Bool.false_eq_true, decide_eq_true_eq, decide_eq_false_iff_not, Bool.not_true, Bool.not_false, Bool.not_eq_true', Bool.not_eq_false', List.zip_cons_cons, List.zip_nil_right, List.zip_nil_left, List.foldl_cons, List.foldl_nil, tgN, tgT, tgT.go, tgL, mYes, wm_ret, List.headD_cons]
  refine draw_spec t 60 (by decide) _ ?_
  intro v t1 ρ' g1 g2 g3
  simp (decide := true) only [wf_seq, wf_seqL, wf_kill, wf_expr, wf_fret, wf_retN, wf_ifS, wf_setN, wf_setV, wf_setT, wf_par, wf_augI, wf_break, wf_cont, wf_thru, wf_raise, wf_tryAs, wm_xf, wm_is, wf_skip, wf_for, wm_var, wm_c, wm_frz, wm_frN, wm_nn, wm_un, wm_bin, wm_evs_nil, wm_evs_cons, wm_n, wm_tup, wm_lst, wm_bool, wm_notB, wm_andB, wm_orB, wm_and, wm_or, wm_if, wm_chain, wm_asInt, wm_noInt, wm_sl, wm_srcD, wm_srcN, wm_fmt, wm_js_nil, wm_js_cons, wm_tru, wm_strM, wm_mutL, wm_call, wm_comp, wc, EV.set, EV.kill, EV.kills, EV.put, EV.obj, EV.look, EV.looks, EV.objs, EV.key, EV.puts, argIx, argSl, gets, oD, oR, settled, List.set_cons_zero, List.set_cons_succ, List.getElem?_cons_zero, List.getElem?_cons_succ, List.replicate_succ, List.replicate_zero, List.map_cons, List.map_nil, List.length_cons, List.length_nil, List.nil_append, List.cons_append, Nat.reduceAdd, Nat.reduceSub, Nat.reduceLT, Nat.reduceLeDiff, List.nodup_cons, List.nodup_nil, List.not_mem_nil, not_false_eq_true, not_true_eq_false, and_self, and_true, true_and, and_false, false_and, if_true, if_false, reduceIte, Bool.false_eq_true, decide_eq_true_eq, decide_eq_false_iff_not, Bool.not_true, Bool.not_false, Bool.not_eq_true', Bool.not_eq_false', List.zip_cons_cons, List.zip_nil_right, List.zip_nil_left, List.foldl_cons, List.foldl_nil, tgN, tgT, tgT.go, tgL, mYes, wm_ret, List.headD_cons, g3]
  unfold later rb__law_word_2
  simp (decide := true) only [wf_seq, wf_seqL, wf_kill, wf_expr, wf_fret, wf_retN, wf_ifS, wf_setN, wf_setV, wf_setT, wf_par, wf_augI, wf_break, wf_cont, wf_thru, wf_raise, wf_tryAs, wm_xf, wm_is, wf_skip, wf_for, wm_var, wm_c, wm_frz, wm_frN, wm_nn, wm_un, wm_bin, wm_evs_nil, wm_evs_cons, wm_n, wm_tup, wm_lst, wm_bool, wm_notB, wm_andB, wm_orB, wm_and, wm_or, wm_if, wm_chain, wm_asInt, wm_noInt, wm_sl, wm_srcD, wm_srcN, wm_fmt, wm_js_nil, wm_js_cons, wm_tru, wm_strM, wm_mutL, wm_call, wm_comp, wc, EV.set, EV.kill, EV.kills, EV.put, EV.obj, EV.look, EV.looks, EV.objs, EV.key, EV.puts, argIx, argSl, gets, oD, oR, settled, List.set_cons_zero, List.set_cons_succ, List.getElem?_cons_zero, List.getElem?_cons_succ, List.replicate_succ, List.replicate_zero, List.map_cons, List.map_nil, List.length_cons, List.length_nil, List.nil_append, List.cons_append, Nat.reduceAdd, Nat.reduceSub, Nat.reduceLT, Nat.reduceLeDiff, List.nodup_cons, List.nodup_nil, List.not_mem_nil, not_false_eq_true, not_true_eq_false, and_self, and_true, true_and, and_false, false_and, if_true, if_false, reduceIte, Bool.false_eq_true, decide_eq_true_eq, decide_eq_false_iff_not, Bool.not_true, Bool.not_false, Bool.not_eq_true', Bool.not_eq_false', List.zip_cons_cons, List.zip_nil_right, List.zip_nil_left, List.foldl_cons, List.foldl_nil, tgN, tgT, tgT.go, tgL, mYes, wm_ret, List.headD_cons, addD, subD, mulD, modD, fdivD, powD, negD, cmpD, eqD, neD, isND, notND, isNone, lenD, intD, strD, listD, tupleD, ixD, min2D, max2D, appendM, popM, reverseM, clearM, rangeD1, rangeD, itemsD, truD, inKD, ixKD, splitD, joinD, slD, isiD, notD]
  split
  · rename_i hv
    obtain ⟨w, hw, e⟩ := atI_list menu g1 (show v < menu.length from hv)
    have hw2 : WOK w := (by decide : ∀ w ∈ menu, WOK w) w hw
    simp only [menu, List.map_cons, List.map_nil] at e
    simp (decide := true) only [wf_seq, wf_seqL, wf_kill, wf_expr, wf_fret, wf_retN, wf_ifS, wf_setN, wf_setV, wf_setT, wf_par, wf_augI, wf_break, wf_cont, wf_thru, wf_raise, wf_tryAs, wm_xf, wm_is, wf_skip, wf_for, wm_var, wm_c, wm_frz, wm_frN, wm_nn, wm_un, wm_bin, wm_evs_nil, wm_evs_cons, wm_n, wm_tup, wm_lst, wm_bool, wm_notB, wm_andB, wm_orB, wm_and, wm_or, wm_if, wm_chain, wm_asInt, wm_noInt, wm_sl, wm_srcD, wm_srcN, wm_fmt, wm_js_nil, wm_js_cons, wm_tru, wm_strM, wm_mutL, wm_call, wm_comp, wc, EV.set, EV.kill, EV.kills, EV.put, EV.obj, EV.look, EV.looks, EV.objs, EV.key, EV.puts, argIx, argSl, gets, oD, oR, settled, List.set_cons_zero, List.set_cons_succ, List.getElem?_cons_zero, List.getElem?_cons_succ, List.replicate_succ, List.replicate_zero, List.map_cons, List.map_nil, List.length_cons, List.length_nil, List.nil_append, List.cons_append, Nat.reduceAdd, Nat.reduceSub, Nat.reduceLT, Nat.reduceLeDiff, List.nodup_cons, List.nodup_nil, List.not_mem_nil, not_false_eq_true, not_true_eq_false, and_self, and_true, true_and, and_false, false_and, if_true, if_false, reduceIte, Bool.false_eq_true, decide_eq_true_eq, decide_eq_false_iff_not, Bool.not_true, Bool.not_false, Bool.not_eq_true', Bool.not_eq_false', List.zip_cons_cons, List.zip_nil_right, List.zip_nil_left, List.foldl_cons, List.foldl_nil, tgN, tgT, tgT.go, tgL, mYes, wm_ret, List.headD_cons, e]
    exact h w t1 _ hw2 rfl
  · have h8 : 0 ≤ v % 8 ∧ v % 8 < 8 := ⟨Int.emod_nonneg _ (by decide), Int.emod_lt_of_pos _ (by decide)⟩
    have hr : cRng (1 + v % 8) := by unfold cRng; omega
    simp (decide := true) only [wf_seq, wf_seqL, wf_kill, wf_expr, wf_fret, wf_retN, wf_ifS, wf_setN, wf_setV, wf_setT, wf_par, wf_augI, wf_break, wf_cont, wf_thru, wf_raise, wf_tryAs, wm_xf, wm_is, wf_skip, wf_for, wm_var, wm_c, wm_frz, wm_frN, wm_nn, wm_un, wm_bin, wm_evs_nil, wm_evs_cons, wm_n, wm_tup, wm_lst, wm_bool, wm_notB, wm_andB, wm_orB, wm_and, wm_or, wm_if, wm_chain, wm_asInt, wm_noInt, wm_sl, wm_srcD, wm_srcN, wm_fmt, wm_js_nil, wm_js_cons, wm_tru, wm_strM, wm_mutL, wm_call, wm_comp, wc, EV.set, EV.kill, EV.kills, EV.put, EV.obj, EV.look, EV.looks, EV.objs, EV.key, EV.puts, argIx, argSl, gets, oD, oR, settled, List.set_cons_zero, List.set_cons_succ, List.getElem?_cons_zero, List.getElem?_cons_succ, List.replicate_succ, List.replicate_zero, List.map_cons, List.map_nil, List.length_cons, List.length_nil, List.nil_append, List.cons_append, Nat.reduceAdd, Nat.reduceSub, Nat.reduceLT, Nat.reduceLeDiff, List.nodup_cons, List.nodup_nil, List.not_mem_nil, not_false_eq_true, not_true_eq_false, and_self, and_true, true_and, and_false, false_and, if_true, if_false, reduceIte, Bool.false_eq_true, decide_eq_true_eq, decide_eq_false_iff_not, Bool.not_true, Bool.not_false, Bool.not_eq_true', Bool.not_eq_false', List.zip_cons_cons, List.zip_nil_right, List.zip_nil_left, List.foldl_cons, List.foldl_nil, tgN, tgT, tgT.go, tgL, mYes, wm_ret, List.headD_cons, addD, subD, mulD, modD, fdivD, powD, negD, cmpD, eqD, neD, isND, notND, isNone, lenD, intD, strD, listD, tupleD, ixD, min2D, max2D, appendM, popM, reverseM, clearM, rangeD1, rangeD, itemsD, truD, inKD, ixKD, splitD, joinD, slD, isiD, notD, hr]
    refine word_loop _ _ _ ?_ _ ?_ t1
    · intro w t2 hw
      unfold later rb__law_word_1
      simp (decide := true) only [wf_seq, wf_seqL, wf_kill, wf_expr, wf_fret, wf_retN, wf_ifS, wf_setN, wf_setV, wf_setT, wf_par, wf_augI, wf_break, wf_cont, wf_thru, wf_raise, wf_tryAs, wm_xf, wm_is, wf_skip, wf_for, wm_var, wm_c, wm_frz, wm_frN, wm_nn, wm_un, wm_bin, wm_evs_nil, wm_evs_cons, wm_n, wm_tup, wm_lst, wm_bool, wm_notB, wm_andB, wm_orB, wm_and, wm_or, wm_if, wm_chain, wm_asInt, wm_noInt, wm_sl, wm_srcD, wm_srcN, wm_fmt, wm_js_nil, wm_js_cons, wm_tru, wm_strM, wm_mutL, wm_call, wm_comp, wc, EV.set, EV.kill, EV.kills, EV.put, EV.obj, EV.look, EV.looks, EV.objs, EV.key, EV.puts, argIx, argSl, gets, oD, oR, settled, List.set_cons_zero, List.set_cons_succ, List.getElem?_cons_zero, List.getElem?_cons_succ, List.replicate_succ, List.replicate_zero, List.map_cons, List.map_nil, List.length_cons, List.length_nil, List.nil_append, List.cons_append, Nat.reduceAdd, Nat.reduceSub, Nat.reduceLT, Nat.reduceLeDiff, List.nodup_cons, List.nodup_nil, List.not_mem_nil, not_false_eq_true, not_true_eq_false, and_self, and_true, true_and, and_false, false_and, if_true, if_false, reduceIte, Bool.false_eq_true, decide_eq_true_eq, decide_eq_false_iff_not, Bool.not_true, Bool.not_false, Bool.not_eq_true', Bool.not_eq_false', List.zip_cons_cons, List.zip_nil_right, List.zip_nil_left, List.foldl_cons, List.foldl_nil, tgN, tgT, tgT.go, tgL, mYes, wm_ret, List.headD_cons]
      exact h w t2 _ hw rfl
    · unfold rangeL
      simp only [List.length_map, List.length_range]
      omega
/-- what a tally says -/
inductive Tl where
  | any
  | part (p w : Str)
  | own (p : Str)
def Tl.words : Tl → List Str
  | .any => ["any"]
  | .part p w => [p, w]
  | .own p => ["own", p]
def roles : List Str := ["kind", "hall", "make"]
def Tl.ok : Tl → Prop
  | .any => True
  | .part p w => p ∈ roles ∧ WOK w
  | .own p => p ∈ roles
def Tl.far : Tl → Prop
  | .own _ => False
  | _ => True
def Tl.d (t : Tl) : D := .tup (t.words.map D.str)
structure Cd where
  mode : Str
  tl : Tl
  sign : Str
  num : Int
def Cd.ok (c : Cd) : Prop := c.mode ∈ (["taken", "seen"] : List Str) ∧ c.tl.ok ∧ c.sign ∈ (["<", ">="] : List Str) ∧ 1 ≤ c.num ∧ c.num ≤ 4
def Cd.d (c : Cd) : D := .tup [.str c.mode, c.tl.d, .str c.sign, .int c.num]
structure Ru where
  act : Str
  who : Tl
  cs : List Cd
structure Ru.ok (r : Ru) : Prop where
  act : r.act ∈ (["take", "pass"] : List Str)
  who : r.who.ok
  far : r.who.far
  cs : ∀ c ∈ r.cs, c.ok
  most : r.cs.length ≤ 6
def Ru.d (r : Ru) : D := .tup [.str r.act, r.who.d, .tup (r.cs.map Cd.d)]
/-! ### words of a rule -/
def numS (i : Int) : Str := toString i
def Cd.words (c : Cd) : List Str := c.mode :: (c.tl.words ++ [c.sign, numS c.num])
def cw : Str → List Cd → List Str
  | _, [] => []
  | j, c :: cs => j :: (c.words ++ cw "and" cs)
def Ru.words (r : Ru) : List Str := r.act :: (r.who.words ++ cw "if" r.cs)
/-- a short word without a blank -/
def CW (w : Str) : Prop := 1 ≤ w.length ∧ w.length ≤ 8 ∧ 32 ∉ TL.tl w ∧ ∀ c ∈ TL.tl w, c < 1114112
instance {w : Str} : Decidable (CW w) := by unfold CW; exact inferInstance
theorem WOK.cw {w : Str} (h : WOK w) : CW w := by
  refine ⟨h.1, h.2.1, fun z => ?_, ?_⟩
  · have := h.2.2 32 z
    omega
  · intro c hc
    have := h.2.2 c hc
    omega
theorem CW.ok {w : Str} (h : CW w) : PyData.strOk w = true := by
  unfold PyData.strOk
  rw [← Array.all_toList, List.all_eq_true]
  intro c hc
  have := h.2.2.2 c hc
  rw [decide_eq_true_eq]
  omega
theorem mem_two {a b w : Str} (h : w ∈ ([a, b] : List Str)) : w = a ∨ w = b := by simpa using h
theorem roles_cases {p : Str} (h : p ∈ roles) : p = "kind" ∨ p = "hall" ∨ p = "make" := by simpa [roles] using h
theorem role_cw {p : Str} (h : p ∈ roles) : CW p := (by decide : ∀ p ∈ roles, CW p) p h
theorem num_cases {i : Int} (h : 1 ≤ i ∧ i ≤ 4) : i = 1 ∨ i = 2 ∨ i = 3 ∨ i = 4 := by omega
theorem num_cw {i : Int} (h : 1 ≤ i ∧ i ≤ 4) : CW (numS i) := by
  rcases num_cases h with rfl | rfl | rfl | rfl <;> decide
theorem Tl.words_cw {t : Tl} (h : t.ok) : ∀ w ∈ t.words, CW w := by
  cases t with
  | any => exact by decide
  | part p w =>
    intro z hz
    rcases mem_two hz with rfl | rfl
    · exact role_cw h.1
    · exact h.2.cw
  | own p =>
    intro z hz
    rcases mem_two hz with rfl | rfl
    · decide
    · exact role_cw h
theorem Tl.words_ne {t : Tl} : t.words ≠ [] := by cases t <;> exact List.cons_ne_nil _ _
theorem Tl.words_len {t : Tl} : t.words.length ≤ 2 := by cases t <;> simp [Tl.words]
theorem Cd.words_cw {c : Cd} (h : c.ok) : ∀ w ∈ c.words, CW w := by
  intro w hw
  rcases List.mem_cons.mp hw with rfl | hw
  · exact (by decide : ∀ p ∈ (["taken", "seen"] : List Str), CW p) _ h.1
  · rcases List.mem_append.mp hw with hw | hw
    · exact Tl.words_cw h.2.1 w hw
    · rcases mem_two hw with rfl | rfl
      · exact (by decide : ∀ p ∈ (["<", ">="] : List Str), CW p) _ h.2.2.1
      · exact num_cw h.2.2.2
theorem Cd.words_len {c : Cd} : c.words.length ≤ 5 := by
  have := c.tl.words_len
  simp only [Cd.words, List.length_cons, List.length_append, List.length_nil]
  omega
theorem cw_cw {cs : List Cd} : ∀ {j : Str}, CW j → (∀ c ∈ cs, c.ok) → ∀ w ∈ cw j cs, CW w := by
  induction cs with
  | nil => intro j _ _ w hw; cases hw
  | cons c cs ih =>
    intro j hj h w hw
    rcases List.mem_cons.mp hw with rfl | hw
    · exact hj
    · rcases List.mem_append.mp hw with hw | hw
      · exact Cd.words_cw (h c List.mem_cons_self) w hw
      · exact ih (by decide) (fun c hc => h c (List.mem_cons_of_mem _ hc)) w hw
theorem cw_len {cs : List Cd} : ∀ {j : Str}, (cw j cs).length ≤ 6 * cs.length := by
  induction cs with
  | nil => intro j; exact Nat.le_refl _
  | cons c cs ih =>
    intro j
    have h1 := c.words_len
    have h2 := ih (j := "and")
    simp only [cw, List.length_cons, List.length_append]
    omega
theorem Ru.words_cw {r : Ru} (h : r.ok) : ∀ w ∈ r.words, CW w := by
  intro w hw
  rcases List.mem_cons.mp hw with rfl | hw
  · exact (by decide : ∀ p ∈ (["take", "pass"] : List Str), CW p) _ h.act
  · rcases List.mem_append.mp hw with hw | hw
    · exact Tl.words_cw h.who w hw
    · exact cw_cw (by decide) h.cs w hw
theorem Ru.words_len {r : Ru} (h : r.ok) : r.words.length ≤ 39 := by
  have h1 := r.who.words_len
  have h2 := cw_len (cs := r.cs) (j := "if")
  have h3 := h.most
  simp only [Ru.words, List.length_cons, List.length_append]
  omega
def txt (ws : List Str) : Str := Txt.join " " ws
theorem sp_len : Str.length " " = 1 := by decide
theorem txt_le {ws : List Str} (h : ∀ w ∈ ws, CW w) : (ws.map (·.length)).sum + ws.length * Str.length " " ≤ 9 * ws.length := by
  have := sum8 (ws := ws) fun w hw => (h w hw).2.1
  rw [sp_len]
  omega
theorem txt_join {ws : List Str} (h : ∀ w ∈ ws, CW w) (hl : ws.length ≤ 1000) : joinL " " (ws.map D.str) = some (.v (.str (txt ws))) := by
  refine join_ok ?_
  have := txt_le h
  unfold szOk
  omega
theorem txt_bound {ws : List Str} (h : ∀ w ∈ ws, CW w) : (txt ws).length ≤ 9 * ws.length := Nat.le_trans (txt_len " " ws) (txt_le h)
theorem txt_split {ws : List Str} (h : ∀ w ∈ ws, CW w) (hn : ws ≠ []) : Txt.split (txt ws) " " = ws := TL.split_join (s := 32) (S := []) (by decide) (by decide +kernel) hn fun p hp => (h p hp).2.2.1
/-! ### written -/
theorem write_tally_spec {tl : Tl} (h : tl.ok) (E : Ko) : wf fb_write_tally ⟨[some (.val tl.d)], []⟩ E = E.rt (.v (.str (txt tl.words))) ⟨[some (.val tl.d)], []⟩ := by
  have e := txt_join (Tl.words_cw h) (Nat.le_trans Tl.words_len (by decide))
  unfold fb_write_tally Tl.d
  simp (decide := true) only [wf_seq, wf_seqL, wf_kill, wf_expr, wf_fret, wf_retN, wf_ifS, wf_setN, wf_setV, wf_setT, wf_par, wf_augI, wf_break, wf_cont, wf_thru, wf_raise, wf_tryAs, wm_xf, wm_is, wf_skip, wf_for, wm_var, wm_c, wm_frz, wm_frN, wm_nn, wm_un, wm_bin, wm_evs_nil, wm_evs_cons, wm_n, wm_tup, wm_lst, wm_bool, wm_notB, wm_andB, wm_orB, wm_and, wm_or, wm_if, wm_chain, wm_asInt, wm_noInt, wm_sl, wm_srcD, wm_srcN, wm_fmt, wm_js_nil, wm_js_cons, wm_tru, wm_strM, wm_mutL, wm_call, wm_comp, wc, EV.set, EV.kill, EV.kills, EV.put, EV.obj, EV.look, EV.looks, EV.objs, EV.key, EV.puts, argIx, argSl, gets, oD, oR, settled, List.set_cons_zero, List.set_cons_succ, List.getElem?_cons_zero, List.getElem?_cons_succ, List.replicate_succ, List.replicate_zero, List.map_cons, List.map_nil, List.length_cons, List.length_nil, List.nil_append, List.cons_append, Nat.reduceAdd, Nat.reduceSub, Nat.reduceLT, Nat.reduceLeDiff, List.nodup_cons, List.nodup_nil, List.not_mem_nil, not_false_eq_true, not_true_eq_false, and_self, and_true, true_and, and_false, false_and, if_true, if_false, reduceIte, Bool.false_eq_true, decide_eq_true_eq, decide_eq_false_iff_not, Bool.not_true, Bool.not_false, Bool.not_eq_true', Bool.not_eq_false', List.zip_cons_cons, List.zip_nil_right, List.zip_nil_left, List.foldl_cons, List.foldl_nil, tgN, tgT, tgT.go, tgL, mYes, wm_ret, List.headD_cons, addD, subD, mulD, modD, fdivD, powD, negD, cmpD, eqD, neD, isND, notND, isNone, lenD, intD, strD, listD, tupleD, ixD, min2D, max2D, appendM, popM, reverseM, clearM, rangeD1, rangeD, itemsD, truD, inKD, ixKD, splitD, joinD, slD, isiD, notD, e]
def Cd.txt (c : Cd) : Str := Str.empty ++ c.mode ++ " " ++ K08.txt c.tl.words ++ " " ++ c.sign ++ " " ++ numS c.num
theorem Cd.txt_len {c : Cd} (h : c.ok) : c.txt.length ≤ 100 := by
  have h1 : c.mode.length ≤ 8 := ((by decide : ∀ p ∈ (["taken", "seen"] : List Str), CW p) _ h.1).2.1
  have h2 : c.sign.length ≤ 8 := ((by decide : ∀ p ∈ (["<", ">="] : List Str), CW p) _ h.2.2.1).2.1
  have h3 := txt_bound (Tl.words_cw h.2.1)
  have h4 := c.tl.words_len
  have h5 := (num_cw h.2.2.2).2.1
  have h6 : Str.empty.length = 0 := rfl
  simp only [Cd.txt, str_appL, sp_len, h6]
  omega
theorem num_log {i : Int} (h : 1 ≤ i ∧ i ≤ 4) : i.natAbs.log2 < 1920 := by
  rcases num_cases h with rfl | rfl | rfl | rfl <;> decide
theorem texts_loop (E : Ko) (a b c d e : Option DL.Slot) (cs : List Cd) (h : ∀ c ∈ cs, c.ok) (hl : cs.length ≤ 6) (Q : List D → EV → Prop) (X : XD → EV → Prop)
    (hQ : Q (cs.map fun c => .str c.txt) ⟨[a, b, c, d, e, none, none, none, none, none], []⟩) :
    wm (compL [6, 7, 8, 9] (tgT [tgN 6, tgN 7, tgN 8, tgN 9]) mYes (fJs [(fFmt (fVar 6)), (fC (.str " ")), (fFmt (fFrN (fCall fb_write_tally 1 [fNN (fVar 7)]))), (fC (.str " ")), (fFmt (fVar 8)), (fC (.str " ")), (fFmt (fVar 9))] Str.empty) (cs.map Cd.d) []) ⟨[a, b, c, d, e, none, none, none, none, none], []⟩ Q X := by
  refine wm_compM (fun ρ => ρ = ⟨[a, b, c, d, e, none, none, none, none, none], []⟩) Cd.d (fun c => .str c.txt) ?_ [] _ rfl (by unfold szOk; simp; omega) ?_
  · rintro c hc ρ rfl
    have ho := h c hc
    have h1 : c.mode.length ≤ 8 := ((by decide : ∀ p ∈ (["taken", "seen"] : List Str), CW p) _ ho.1).2.1
    have h2 : c.sign.length ≤ 8 := ((by decide : ∀ p ∈ (["<", ">="] : List Str), CW p) _ ho.2.2.1).2.1
    have h3 := txt_bound (Tl.words_cw ho.2.1)
    have h4 := c.tl.words_len
    have h5 : (Str.ofString (toString c.num)).length ≤ 8 := (num_cw ho.2.2.2).2.1
    have h6 : Str.empty.length = 0 := rfl
    have h7 := num_log ho.2.2.2
    refine ⟨_, rfl, ?_⟩
    have ew := fun E => write_tally_spec ho.2.1 E
    simp (decide := true) only [wf_seq, wf_seqL, wf_kill, wf_expr, wf_fret, wf_retN, wf_ifS, wf_setN, wf_setV, wf_setT, wf_par, wf_augI, wf_break, wf_cont, wf_thru, wf_raise, wf_tryAs, wm_xf, wm_is, wf_skip, wf_for, wm_var, wm_c, wm_frz, wm_frN, wm_nn, wm_un, wm_bin, wm_evs_nil, wm_evs_cons, wm_n, wm_tup, wm_lst, wm_bool, wm_notB, wm_andB, wm_orB, wm_and, wm_or, wm_if, wm_chain, wm_asInt, wm_noInt, wm_sl, wm_srcD, wm_srcN, wm_fmt, wm_js_nil, wm_js_cons, wm_tru, wm_strM, wm_mutL, wm_call, wm_comp, wc, EV.set, EV.kill, EV.kills, EV.put, EV.obj, EV.look, EV.looks, EV.objs, EV.key, EV.puts, argIx, argSl, gets, oD, oR, settled, List.set_cons_zero, List.set_cons_succ, List.getElem?_cons_zero, List.getElem?_cons_succ, List.replicate_succ, List.replicate_zero, List.map_cons, List.map_nil, List.length_cons, List.length_nil, List.nil_append, List.cons_append, Nat.reduceAdd, Nat.reduceSub, Nat.reduceLT, Nat.reduceLeDiff, List.nodup_cons, List.nodup_nil, List.not_mem_nil, not_false_eq_true, not_true_eq_false, and_self, and_true, true_and, and_false, false_and, if_true, if_false, reduceIte, Bool.false_eq_true, decide_eq_true_eq, decide_eq_false_iff_not, Bool.not_true, Bool.not_false, Bool.not_eq_true', Bool.not_eq_false', List.zip_cons_cons, List.zip_nil_right, List.zip_nil_left, List.foldl_cons, List.foldl_nil, tgN, tgT, tgT.go, tgL, mYes, wm_ret, List.headD_cons, ew, h7]
    simp only [szOk, str_appL, sp_len, h6]
    exact ⟨by omega, by omega, by omega, by omega, by omega, by omega, by omega, by omega, by omega, by omega, rfl⟩
  · rintro ρ' rfl
    exact hQ

theorem sp_tl : TL.tl (" " : Str) = [32] := by decide
theorem and_tl : TL.tl (" and " : Str) = 32 :: (TL.tl ("and" : Str) ++ [32]) := by decide
theorem if_tl : TL.tl (" if " : Str) = 32 :: (TL.tl ("if" : Str) ++ [32]) := by decide
theorem emp_tl : TL.tl Str.empty = [] := by decide
theorem txt_tl (ws : List Str) : TL.tl (txt ws) = TL.joinL [32] (ws.map TL.tl) := by
  unfold txt
  rw [tl_txt, sp_tl]
theorem Cd.txt_tl {c : Cd} : TL.tl c.txt = TL.joinL [32] (c.words.map TL.tl) := by
  have hn : c.tl.words.map TL.tl ≠ [] := by simpa using Tl.words_ne
  simp only [Cd.txt, Cd.words, TL.tl_append, K08.txt_tl, sp_tl, emp_tl, List.map_cons, List.map_append, List.map_nil, List.nil_append]
  rw [j_cons (by simp), j_app hn (by simp)]
  simp [TL.joinL]
theorem cw_tl {cs : List Cd} : ∀ {j : Str}, cs ≠ [] → TL.joinL [32] ((cw j cs).map TL.tl) = TL.tl j ++ (32 :: TL.joinL (TL.tl " and ") (cs.map fun c => TL.tl c.txt)) := by
  induction cs with
  | nil => intro j h; exact absurd rfl h
  | cons c cs ih =>
    intro j _
    have hw : c.words.map TL.tl ≠ [] := by simp [Cd.words]
    cases cs with
    | nil =>
      simp only [cw, List.append_nil, List.map_cons, List.map_nil]
      rw [j_cons hw, Cd.txt_tl]
      rfl
    | cons c2 cs =>
      have h2 : (cw "and" (c2 :: cs)).map TL.tl ≠ [] := by simp [cw]
      show TL.joinL [32] ((j :: (c.words ++ cw "and" (c2 :: cs))).map TL.tl) = _
      rw [List.map_cons, List.map_append, j_cons (by simp [hw]), j_app hw h2, ih (List.cons_ne_nil _ _), List.map_cons (l := c2 :: cs), j_cons (by simp), Cd.txt_tl, and_tl]
      simp
theorem words_tl {r : Ru} : TL.tl (txt r.words) = TL.tl r.act ++ (32 :: TL.tl (txt (r.who.words ++ cw "if" r.cs))) := by
  rw [txt_tl, txt_tl]
  show TL.joinL [32] ((r.act :: (r.who.words ++ cw "if" r.cs)).map TL.tl) = _
  rw [List.map_cons, j_cons (by simp [Tl.words_ne])]
  rfl
theorem write_none {r : Ru} (h : r.cs = []) : Str.empty ++ r.act ++ " " ++ txt r.who.words = txt r.words := by
  refine TL.ext_tl ?_
  rw [words_tl, h]
  simp only [TL.tl_append, sp_tl, emp_tl, cw, List.append_nil, List.nil_append, List.append_assoc]
  rfl
theorem write_some {r : Ru} (h : r.cs ≠ []) : Str.empty ++ r.act ++ " " ++ txt r.who.words ++ " if " ++ Txt.join " and " (r.cs.map Cd.txt) = txt r.words := by
  refine TL.ext_tl ?_
  have hn : r.who.words.map TL.tl ≠ [] := by simpa using Tl.words_ne
  have h2 : (cw "if" r.cs).map TL.tl ≠ [] := by
    cases e : r.cs with
    | nil => exact absurd e h
    | cons c cs => simp [cw]
  rw [words_tl, txt_tl, List.map_append, j_app hn h2, cw_tl h]
  simp only [TL.tl_append, sp_tl, emp_tl, if_tl, txt_tl, tl_txt, List.nil_append, List.append_assoc, List.map_map, Function.comp_def, List.cons_append]
theorem Ru.d_eq (r : Ru) : r.d = .tup [.str r.act, r.who.d, .tup (r.cs.map Cd.d)] := rfl
theorem write_rule_spec {r : Ru} (h : r.ok) (E : Ko) (hE : ∀ ρ', E.rt (.v (.str (txt r.words))) ρ') : wf fb_write_rule ⟨[some (.val r.d), none, none, none, none, none, none, none, none, none], []⟩ E := by
  have ew := fun E => write_tally_spec h.who E
  have h1 : r.act.length ≤ 8 := ((by decide : ∀ p ∈ (["take", "pass"] : List Str), CW p) _ h.act).2.1
  have h3 := txt_bound (Tl.words_cw h.who)
  have h4 := r.who.words_len
  have h6 : Str.empty.length = 0 := rfl
  have hif : Str.length " if " = 4 := by decide
  unfold fb_write_rule
  simp (decide := true) only [wf_seq, wf_seqL, wf_kill, wf_expr, wf_fret, wf_retN, wf_ifS, wf_setN, wf_setV, wf_setT, wf_par, wf_augI, wf_break, wf_cont, wf_thru, wf_raise, wf_tryAs, wm_xf, wm_is, wf_skip, wf_for, wm_var, wm_c, wm_frz, wm_frN, wm_nn, wm_un, wm_bin, wm_evs_nil, wm_evs_cons, wm_n, wm_tup, wm_lst, wm_bool, wm_notB, wm_andB, wm_orB, wm_and, wm_or, wm_if, wm_chain, wm_asInt, wm_noInt, wm_sl, wm_srcD, wm_srcN, wm_fmt, wm_js_nil, wm_js_cons, wm_tru, wm_strM, wm_mutL, wm_call, wm_comp, wc, EV.set, EV.kill, EV.kills, EV.put, EV.obj, EV.look, EV.looks, EV.objs, EV.key, EV.puts, argIx, argSl, gets, oD, oR, settled, List.set_cons_zero, List.set_cons_succ, List.getElem?_cons_zero, List.getElem?_cons_succ, List.replicate_succ, List.replicate_zero, List.map_cons, List.map_nil, List.length_cons, List.length_nil, List.nil_append, List.cons_append, Nat.reduceAdd, Nat.reduceSub, Nat.reduceLT, Nat.reduceLeDiff, List.nodup_cons, List.nodup_nil, List.not_mem_nil, not_false_eq_true, not_true_eq_false, and_self, and_true, true_and, and_false, false_and, if_true, if_false, reduceIte, Bool.false_eq_true, decide_eq_true_eq, decide_eq_false_iff_not, Bool.not_true, Bool.not_false, Bool.not_eq_true', Bool.not_eq_false', List.zip_cons_cons, List.zip_nil_right, List.zip_nil_left, List.foldl_cons, List.foldl_nil, tgN, tgT, tgT.go, tgL, mYes, wm_ret, List.headD_cons, Ru.d_eq, addD, subD, mulD, modD, fdivD, powD, negD, cmpD, eqD, neD, isND, notND, isNone, lenD, intD, strD, listD, tupleD, ixD, min2D, max2D, appendM, popM, reverseM, clearM, rangeD1, rangeD, itemsD, truD, inKD, ixKD, splitD, joinD, slD, isiD, notD]
  refine texts_loop E _ _ _ _ _ r.cs h.cs h.most _ _ ?_
  unfold later rb_write_rule_2
  simp (decide := true) only [wf_seq, wf_seqL, wf_kill, wf_expr, wf_fret, wf_retN, wf_ifS, wf_setN, wf_setV, wf_setT, wf_par, wf_augI, wf_break, wf_cont, wf_thru, wf_raise, wf_tryAs, wm_xf, wm_is, wf_skip, wf_for, wm_var, wm_c, wm_frz, wm_frN, wm_nn, wm_un, wm_bin, wm_evs_nil, wm_evs_cons, wm_n, wm_tup, wm_lst, wm_bool, wm_notB, wm_andB, wm_orB, wm_and, wm_or, wm_if, wm_chain, wm_asInt, wm_noInt, wm_sl, wm_srcD, wm_srcN, wm_fmt, wm_js_nil, wm_js_cons, wm_tru, wm_strM, wm_mutL, wm_call, wm_comp, wc, EV.set, EV.kill, EV.kills, EV.put, EV.obj, EV.look, EV.looks, EV.objs, EV.key, EV.puts, argIx, argSl, gets, oD, oR, settled, List.set_cons_zero, List.set_cons_succ, List.getElem?_cons_zero, List.getElem?_cons_succ, List.replicate_succ, List.replicate_zero, List.map_cons, List.map_nil, List.length_cons, List.length_nil, List.nil_append, List.cons_append, Nat.reduceAdd, Nat.reduceSub, Nat.reduceLT, Nat.reduceLeDiff, List.nodup_cons, List.nodup_nil, List.not_mem_nil, not_false_eq_true, not_true_eq_false, and_self, and_true, true_and, and_false, false_and, if_true, if_false, reduceIte, Bool.false_eq_true, decide_eq_true_eq, decide_eq_false_iff_not, Bool.not_true, Bool.not_false, Bool.not_eq_true', Bool.not_eq_false', List.zip_cons_cons, List.zip_nil_right, List.zip_nil_left, List.foldl_cons, List.foldl_nil, tgN, tgT, tgT.go, tgL, mYes, wm_ret, List.headD_cons, addD, subD, mulD, modD, fdivD, powD, negD, cmpD, eqD, neD, isND, notND, isNone, lenD, intD, strD, listD, tupleD, ixD, min2D, max2D, appendM, popM, reverseM, clearM, rangeD1, rangeD, itemsD, truD, inKD, ixKD, splitD, joinD, slD, isiD, notD, ew]
  by_cases hc : r.cs = []
  · simp (decide := true) only [wf_seq, wf_seqL, wf_kill, wf_expr, wf_fret, wf_retN, wf_ifS, wf_setN, wf_setV, wf_setT, wf_par, wf_augI, wf_break, wf_cont, wf_thru, wf_raise, wf_tryAs, wm_xf, wm_is, wf_skip, wf_for, wm_var, wm_c, wm_frz, wm_frN, wm_nn, wm_un, wm_bin, wm_evs_nil, wm_evs_cons, wm_n, wm_tup, wm_lst, wm_bool, wm_notB, wm_andB, wm_orB, wm_and, wm_or, wm_if, wm_chain, wm_asInt, wm_noInt, wm_sl, wm_srcD, wm_srcN, wm_fmt, wm_js_nil, wm_js_cons, wm_tru, wm_strM, wm_mutL, wm_call, wm_comp, wc, EV.set, EV.kill, EV.kills, EV.put, EV.obj, EV.look, EV.looks, EV.objs, EV.key, EV.puts, argIx, argSl, gets, oD, oR, settled, List.set_cons_zero, List.set_cons_succ, List.getElem?_cons_zero, List.getElem?_cons_succ, List.replicate_succ, List.replicate_zero, List.map_cons, List.map_nil, List.length_cons, List.length_nil, List.nil_append, List.cons_append, Nat.reduceAdd, Nat.reduceSub, Nat.reduceLT, Nat.reduceLeDiff, List.nodup_cons, List.nodup_nil, List.not_mem_nil, not_false_eq_true, not_true_eq_false, and_self, and_true, true_and, and_false, false_and, if_true, if_false, reduceIte, Bool.false_eq_true, decide_eq_true_eq, decide_eq_false_iff_not, Bool.not_true, Bool.not_false, Bool.not_eq_true', Bool.not_eq_false', List.zip_cons_cons, List.zip_nil_right, List.zip_nil_left, List.foldl_cons, List.foldl_nil, tgN, tgT, tgT.go, tgL, mYes, wm_ret, List.headD_cons, hc, List.isEmpty_nil]
    simp only [szOk, str_appL, sp_len, h6]
    refine ⟨by omega, by omega, by omega, by omega, by omega, ?_⟩
    rw [write_none hc]
    exact hE _
  · have hb : ((r.cs.map fun c => D.str c.txt)).isEmpty = false := by
      cases e : r.cs with
      | nil => exact absurd e hc
      | cons c cs => rfl
    simp (decide := true) only [wf_seq, wf_seqL, wf_kill, wf_expr, wf_fret, wf_retN, wf_ifS, wf_setN, wf_setV, wf_setT, wf_par, wf_augI, wf_break, wf_cont, wf_thru, wf_raise, wf_tryAs, wm_xf, wm_is, wf_skip, wf_for, wm_var, wm_c, wm_frz, wm_frN, wm_nn, wm_un, wm_bin, wm_evs_nil, wm_evs_cons, wm_n, wm_tup, wm_lst, wm_bool, wm_notB, wm_andB, wm_orB, wm_and, wm_or, wm_if, wm_chain, wm_asInt, wm_noInt, wm_sl, wm_srcD, wm_srcN, wm_fmt, wm_js_nil, wm_js_cons, wm_tru, wm_strM, wm_mutL, wm_call, wm_comp, wc, EV.set, EV.kill, EV.kills, EV.put, EV.obj, EV.look, EV.looks, EV.objs, EV.key, EV.puts, argIx, argSl, gets, oD, oR, settled, List.set_cons_zero, List.set_cons_succ, List.getElem?_cons_zero, List.getElem?_cons_succ, List.replicate_succ, List.replicate_zero, List.map_cons, List.map_nil, List.length_cons, List.length_nil, List.nil_append, List.cons_append, Nat.reduceAdd, Nat.reduceSub, Nat.reduceLT, Nat.reduceLeDiff, List.nodup_cons, List.nodup_nil, List.not_mem_nil, not_false_eq_true, not_true_eq_false, and_self, and_true, true_and, and_false, false_and, if_true, if_false, reduceIte, Bool.false_eq_true, decide_eq_true_eq, decide_eq_false_iff_not, Bool.not_true, Bool.not_false, Bool.not_eq_true', Bool.not_eq_false', List.zip_cons_cons, List.zip_nil_right, List.zip_nil_left, List.foldl_cons, List.foldl_nil, tgN, tgT, tgT.go, tgL, mYes, wm_ret, List.headD_cons, hb]
    unfold later rb_write_rule_1
    have hs : ∀ {cs : List Cd}, (∀ c ∈ cs, c.ok) → ((cs.map Cd.txt).map (·.length)).sum ≤ 100 * cs.length := by
      intro cs
      induction cs with
      | nil => intro _; exact Nat.le_refl _
      | cons c cs ih =>
        intro hx
        have a := Cd.txt_len (hx c List.mem_cons_self)
        have b := ih fun c hc => hx c (List.mem_cons_of_mem _ hc)
        simp only [List.map_cons, List.sum_cons, List.length_cons] at b ⊢
        omega
    have hs2 := hs h.cs
    have hal : Str.length " and " = 5 := by decide
    have hmost := h.most
    have hj : joinL " and " (r.cs.map fun c => D.str c.txt) = some (.v (.str (Txt.join " and " (r.cs.map Cd.txt)))) := by
      have := join_ok (a := " and ") (ws := r.cs.map Cd.txt) (by
        rw [hal, List.length_map]
        unfold szOk
        omega)
      rw [List.map_map] at this
      exact this
    have hjl := txt_len " and " (r.cs.map Cd.txt)
    rw [hal, List.length_map] at hjl
    simp (decide := true) only [wf_seq, wf_seqL, wf_kill, wf_expr, wf_fret, wf_retN, wf_ifS, wf_setN, wf_setV, wf_setT, wf_par, wf_augI, wf_break, wf_cont, wf_thru, wf_raise, wf_tryAs, wm_xf, wm_is, wf_skip, wf_for, wm_var, wm_c, wm_frz, wm_frN, wm_nn, wm_un, wm_bin, wm_evs_nil, wm_evs_cons, wm_n, wm_tup, wm_lst, wm_bool, wm_notB, wm_andB, wm_orB, wm_and, wm_or, wm_if, wm_chain, wm_asInt, wm_noInt, wm_sl, wm_srcD, wm_srcN, wm_fmt, wm_js_nil, wm_js_cons, wm_tru, wm_strM, wm_mutL, wm_call, wm_comp, wc, EV.set, EV.kill, EV.kills, EV.put, EV.obj, EV.look, EV.looks, EV.objs, EV.key, EV.puts, argIx, argSl, gets, oD, oR, settled, List.set_cons_zero, List.set_cons_succ, List.getElem?_cons_zero, List.getElem?_cons_succ, List.replicate_succ, List.replicate_zero, List.map_cons, List.map_nil, List.length_cons, List.length_nil, List.nil_append, List.cons_append, Nat.reduceAdd, Nat.reduceSub, Nat.reduceLT, Nat.reduceLeDiff, List.nodup_cons, List.nodup_nil, List.not_mem_nil, not_false_eq_true, not_true_eq_false, and_self, and_true, true_and, and_false, false_and, if_true, if_false, reduceIte, Bool.false_eq_true, decide_eq_true_eq, decide_eq_false_iff_not, Bool.not_true, Bool.not_false, Bool.not_eq_true', Bool.not_eq_false', List.zip_cons_cons, List.zip_nil_right, List.zip_nil_left, List.foldl_cons, List.foldl_nil, tgN, tgT, tgT.go, tgL, mYes, wm_ret, List.headD_cons, addD, subD, mulD, modD, fdivD, powD, negD, cmpD, eqD, neD, isND, notND, isNone, lenD, intD, strD, listD, tupleD, ixD, min2D, max2D, appendM, popM, reverseM, clearM, rangeD1, rangeD, itemsD, truD, inKD, ixKD, splitD, joinD, slD, isiD, notD, ew, hj]
    simp only [szOk, str_appL, sp_len, h6, hif]
    refine ⟨by omega, by omega, by omega, by omega, by omega, by omega, by omega, by omega, ?_⟩
    rw [write_some hc]
    exact hE _
/-! ### read -/
theorem in_letters : ∀ c, 97 ≤ c ∧ c ≤ 122 → inB (.str ⟨#[c]⟩) (.str "abcdefghijklmnopqrstuvwxyz") = some true := by
  have h : ∀ k ∈ List.range 26, inB (.str ⟨#[97 + k]⟩) (.str "abcdefghijklmnopqrstuvwxyz") = some true := by decide +kernel
  intro c hc
  have := h (c - 97) (List.mem_range.mpr (by omega))
  rw [show 97 + (c - 97) = c by omega] at this
  exact this
theorem bool_map {α : Type} : ∀ (l : List α), boolL (l.map fun _ => D.bl true) = some (l.map fun _ => true)
  | [] => rfl
  | a :: l => by
    show (match boolL (l.map fun _ => D.bl true) with | some bs => some (true :: bs) | none => none) = _
    rw [bool_map l]
    rfl
theorem all_true {α : Type} (l : List α) : allD [.lst (l.map fun _ => D.bl true)] = some (.v (.bl true)) := by
  show (match boolL (l.map fun _ => D.bl true) with | some bs => some (R.v (.bl (bs.all id))) | none => none) = _
  rw [bool_map]
  simp
theorem is_name_spec {w : Str} (h : WOK w) (E : Ko) (hE : ∀ ρ', E.rt (.v (.bl true)) ρ') : wf fb_is_name ⟨[some (.val (.str w)), none], []⟩ E := by
  have hz : szOk w.length := by unfold szOk; have := h.2.1; omega
  have h1 : (1 : Int) ≤ (w.length : Int) := by have := h.1; omega
  have h2 : (w.length : Int) ≤ 8 := by have := h.2.1; omega
  unfold fb_is_name
  simp (decide := true) only [wf_seq, wf_seqL, wf_kill, wf_expr, wf_fret, wf_retN, wf_ifS, wf_setN, wf_setV, wf_setT, wf_par, wf_augI, wf_break, wf_cont, wf_thru, wf_raise, wf_tryAs, wm_xf, wm_is, wf_skip, wf_for, wm_var, wm_c, wm_frz, wm_frN, wm_nn, wm_un, wm_bin, wm_evs_nil, wm_evs_cons, wm_n, wm_tup, wm_lst, wm_bool, wm_notB, wm_andB, wm_orB, wm_and, wm_or, wm_if, wm_chain, wm_asInt, wm_noInt, wm_sl, wm_srcD, wm_srcN, wm_fmt, wm_js_nil, wm_js_cons, wm_tru, wm_strM, wm_mutL, wm_call, wm_comp, wc, EV.set, EV.kill, EV.kills, EV.put, EV.obj, EV.look, EV.looks, EV.objs, EV.key, EV.puts, argIx, argSl, gets, oD, oR, settled, List.set_cons_zero, List.set_cons_succ, List.getElem?_cons_zero, List.getElem?_cons_succ, List.replicate_succ, List.replicate_zero, List.map_cons, List.map_nil, List.length_cons, List.length_nil, List.nil_append, List.cons_append, Nat.reduceAdd, Nat.reduceSub, Nat.reduceLT, Nat.reduceLeDiff, List.nodup_cons, List.nodup_nil, List.not_mem_nil, not_false_eq_true, not_true_eq_false, and_self, and_true, true_and, and_false, false_and, if_true, if_false, reduceIte, Bool.false_eq_true, decide_eq_true_eq, decide_eq_false_iff_not, Bool.not_true, Bool.not_false, Bool.not_eq_true', Bool.not_eq_false', List.zip_cons_cons, List.zip_nil_right, List.zip_nil_left, List.foldl_cons, List.foldl_nil, tgN, tgT, tgT.go, tgL, mYes, wm_ret, List.headD_cons, addD, subD, mulD, modD, fdivD, powD, negD, cmpD, eqD, neD, isND, notND, isNone, lenD, intD, strD, listD, tupleD, ixD, min2D, max2D, appendM, popM, reverseM, clearM, rangeD1, rangeD, itemsD, truD, inKD, ixKD, splitD, joinD, slD, isiD, notD, hz, h1, h2, chars]
  refine wm_compM (fun ρ => ρ = ⟨[some (.val (.str w)), none], []⟩) (fun c => D.str ⟨#[c]⟩) (fun _ => D.bl true) ?_ [] _ rfl ?_ ?_
  · rintro c hc ρ rfl
    refine ⟨_, rfl, ?_⟩
    simp (decide := true) only [wf_seq, wf_seqL, wf_kill, wf_expr, wf_fret, wf_retN, wf_ifS, wf_setN, wf_setV, wf_setT, wf_par, wf_augI, wf_break, wf_cont, wf_thru, wf_raise, wf_tryAs, wm_xf, wm_is, wf_skip, wf_for, wm_var, wm_c, wm_frz, wm_frN, wm_nn, wm_un, wm_bin, wm_evs_nil, wm_evs_cons, wm_n, wm_tup, wm_lst, wm_bool, wm_notB, wm_andB, wm_orB, wm_and, wm_or, wm_if, wm_chain, wm_asInt, wm_noInt, wm_sl, wm_srcD, wm_srcN, wm_fmt, wm_js_nil, wm_js_cons, wm_tru, wm_strM, wm_mutL, wm_call, wm_comp, wc, EV.set, EV.kill, EV.kills, EV.put, EV.obj, EV.look, EV.looks, EV.objs, EV.key, EV.puts, argIx, argSl, gets, oD, oR, settled, List.set_cons_zero, List.set_cons_succ, List.getElem?_cons_zero, List.getElem?_cons_succ, List.replicate_succ, List.replicate_zero, List.map_cons, List.map_nil, List.length_cons, List.length_nil, List.nil_append, List.cons_append, Nat.reduceAdd, Nat.reduceSub, Nat.reduceLT, Nat.reduceLeDiff, List.nodup_cons, List.nodup_nil, List.not_mem_nil, not_false_eq_true, not_true_eq_false, and_self, and_true, true_and, and_false, false_and, if_true, if_false, reduceIte, Bool.false_eq_true, decide_eq_true_eq, decide_eq_false_iff_not, Bool.not_true, Bool.not_false, Bool.not_eq_true', Bool.not_eq_false', List.zip_cons_cons, List.zip_nil_right, List.zip_nil_left, List.foldl_cons, List.foldl_nil, tgN, tgT, tgT.go, tgL, mYes, wm_ret, List.headD_cons, inD, in_letters c (h.2.2 c hc)]
  · rw [← str_len]
    simpa using hz
  · rintro ρ rfl
    rw [List.nil_append, all_true]
    exact hE _
theorem in_parts {p : Str} (h : p ∈ roles) : (kd_PARTS.lookup p).isSome = true := (by decide : ∀ p ∈ roles, (kd_PARTS.lookup p).isSome = true) p h
theorem role_ne {p : Str} (h : p ∈ roles) : ¬ p = ("own" : Str) ∧ (p == ("any" : Str)) = false := (by decide : ∀ p ∈ roles, ¬ p = ("own" : Str) ∧ (p == ("any" : Str)) = false) p h
theorem at0 {α : Type} {a : α} {l : List α} : atI (a :: l) 0 = some a := by
  unfold atI ixN
  rw [if_pos (by omega), if_pos (by simp)]
  rfl
theorem at1 {α : Type} {a b : α} {l : List α} : atI (a :: b :: l) 1 = some b := by
  unfold atI ixN
  rw [if_pos (by omega), if_pos (by simp only [List.length_cons]; omega)]
  rfl
theorem len_ge2 {α : Type} {a b : α} {l : List α} : ¬ (((a :: b :: l).length : Int) < 2) := by
  simp only [List.length_cons]
  omega
def Tl.size : Tl → Int
  | .any => 1
  | _ => 2
theorem any_any : eqD (.lst [.str "any"]) (.lst [.str "any"]) = some (.v (.bl true)) := eqD_one (a := "any") (b := "any") (by decide +kernel) (by decide +kernel)
theorem own_any : eqD (.lst [.str "own"]) (.lst [.str "any"]) = some (.v (.bl false)) := eqD_one (a := "own") (b := "any") (by decide +kernel) (by decide +kernel)
theorem role_any {p : Str} (h : p ∈ roles) : eqD (.lst [.str p]) (.lst [.str "any"]) = some (.v (.bl false)) := by
  rw [eqD_one (role_cw h).ok (by decide +kernel), (role_ne h).2]
theorem tally_size_spec {tl : Tl} (h : tl.ok) (rest : List D) (E : Ko) (hE : ∀ ρ', E.rt (.v (.int tl.size)) ρ') : wf fb_tally_size ⟨[some (.val (.lst (tl.words.map D.str ++ rest)))], []⟩ E := by
  unfold fb_tally_size
  cases tl with
  | any =>
    simp only [Tl.words, List.map_cons, List.map_nil, List.cons_append, List.nil_append]
    simp (decide := true) only [wf_seq, wf_seqL, wf_kill, wf_expr, wf_fret, wf_retN, wf_ifS, wf_setN, wf_setV, wf_setT, wf_par, wf_augI, wf_break, wf_cont, wf_thru, wf_raise, wf_tryAs, wm_xf, wm_is, wf_skip, wf_for, wm_var, wm_c, wm_frz, wm_frN, wm_nn, wm_un, wm_bin, wm_evs_nil, wm_evs_cons, wm_n, wm_tup, wm_lst, wm_bool, wm_notB, wm_andB, wm_orB, wm_and, wm_or, wm_if, wm_chain, wm_asInt, wm_noInt, wm_sl, wm_srcD, wm_srcN, wm_fmt, wm_js_nil, wm_js_cons, wm_tru, wm_strM, wm_mutL, wm_call, wm_comp, wc, EV.set, EV.kill, EV.kills, EV.put, EV.obj, EV.look, EV.looks, EV.objs, EV.key, EV.puts, argIx, argSl, gets, oD, oR, settled, List.set_cons_zero, List.set_cons_succ, List.getElem?_cons_zero, List.getElem?_cons_succ, List.replicate_succ, List.replicate_zero, List.map_cons, List.map_nil, List.length_cons, List.length_nil, List.nil_append, List.cons_append, Nat.reduceAdd, Nat.reduceSub, Nat.reduceLT, Nat.reduceLeDiff, List.nodup_cons, List.nodup_nil, List.not_mem_nil, not_false_eq_true, not_true_eq_false, and_self, and_true, true_and, and_false, false_and, if_true, if_false, reduceIte, Bool.false_eq_true, decide_eq_true_eq, decide_eq_false_iff_not, Bool.not_true, Bool.not_false, Bool.not_eq_true', Bool.not_eq_false', List.zip_cons_cons, List.zip_nil_right, List.zip_nil_left, List.foldl_cons, List.foldl_nil, tgN, tgT, tgT.go, tgL, mYes, wm_ret, List.headD_cons, slD, cut_to _ (show (0 : Int) ≤ 1 by decide), List.take_succ_cons, List.take_zero, Int.toNat_one, any_any]
    exact hE _
  | part p w =>
    obtain ⟨n1, n2⟩ := role_ne h.1
    have hi := in_parts h.1
    simp only [Tl.words, List.map_cons, List.map_nil, List.cons_append, List.nil_append]
    simp (decide := true) only [wf_seq, wf_seqL, wf_kill, wf_expr, wf_fret, wf_retN, wf_ifS, wf_setN, wf_setV, wf_setT, wf_par, wf_augI, wf_break, wf_cont, wf_thru, wf_raise, wf_tryAs, wm_xf, wm_is, wf_skip, wf_for, wm_var, wm_c, wm_frz, wm_frN, wm_nn, wm_un, wm_bin, wm_evs_nil, wm_evs_cons, wm_n, wm_tup, wm_lst, wm_bool, wm_notB, wm_andB, wm_orB, wm_and, wm_or, wm_if, wm_chain, wm_asInt, wm_noInt, wm_sl, wm_srcD, wm_srcN, wm_fmt, wm_js_nil, wm_js_cons, wm_tru, wm_strM, wm_mutL, wm_call, wm_comp, wc, EV.set, EV.kill, EV.kills, EV.put, EV.obj, EV.look, EV.looks, EV.objs, EV.key, EV.puts, argIx, argSl, gets, oD, oR, settled, List.set_cons_zero, List.set_cons_succ, List.getElem?_cons_zero, List.getElem?_cons_succ, List.replicate_succ, List.replicate_zero, List.map_cons, List.map_nil, List.length_cons, List.length_nil, List.nil_append, List.cons_append, Nat.reduceAdd, Nat.reduceSub, Nat.reduceLT, Nat.reduceLeDiff, List.nodup_cons, List.nodup_nil, List.not_mem_nil, not_false_eq_true, not_true_eq_false, and_self, and_true, true_and, and_false, false_and, if_true, if_false, reduceIte, Bool.false_eq_true, decide_eq_true_eq, decide_eq_false_iff_not, Bool.not_true, Bool.not_false, Bool.not_eq_true', Bool.not_eq_false', List.zip_cons_cons, List.zip_nil_right, List.zip_nil_left, List.foldl_cons, List.foldl_nil, tgN, tgT, tgT.go, tgL, mYes, wm_ret, List.headD_cons, slD, cut_to _ (show (0 : Int) ≤ 1 by decide), List.take_succ_cons, List.take_zero, Int.toNat_one, role_any h.1]
    simp (decide := true) only [wf_seq, wf_seqL, wf_kill, wf_expr, wf_fret, wf_retN, wf_ifS, wf_setN, wf_setV, wf_setT, wf_par, wf_augI, wf_break, wf_cont, wf_thru, wf_raise, wf_tryAs, wm_xf, wm_is, wf_skip, wf_for, wm_var, wm_c, wm_frz, wm_frN, wm_nn, wm_un, wm_bin, wm_evs_nil, wm_evs_cons, wm_n, wm_tup, wm_lst, wm_bool, wm_notB, wm_andB, wm_orB, wm_and, wm_or, wm_if, wm_chain, wm_asInt, wm_noInt, wm_sl, wm_srcD, wm_srcN, wm_fmt, wm_js_nil, wm_js_cons, wm_tru, wm_strM, wm_mutL, wm_call, wm_comp, wc, EV.set, EV.kill, EV.kills, EV.put, EV.obj, EV.look, EV.looks, EV.objs, EV.key, EV.puts, argIx, argSl, gets, oD, oR, settled, List.set_cons_zero, List.set_cons_succ, List.getElem?_cons_zero, List.getElem?_cons_succ, List.replicate_succ, List.replicate_zero, List.map_cons, List.map_nil, List.length_cons, List.length_nil, List.nil_append, List.cons_append, Nat.reduceAdd, Nat.reduceSub, Nat.reduceLT, Nat.reduceLeDiff, List.nodup_cons, List.nodup_nil, List.not_mem_nil, not_false_eq_true, not_true_eq_false, and_self, and_true, true_and, and_false, false_and, if_true, if_false, reduceIte, Bool.false_eq_true, decide_eq_true_eq, decide_eq_false_iff_not, Bool.not_true, Bool.not_false, Bool.not_eq_true', Bool.not_eq_false', List.zip_cons_cons, List.zip_nil_right, List.zip_nil_left, List.foldl_cons, List.foldl_nil, tgN, tgT, tgT.go, tgL, mYes, wm_ret, List.headD_cons, addD, subD, mulD, modD, fdivD, powD, negD, cmpD, eqD, neD, isND, notND, isNone, lenD, intD, strD, listD, tupleD, ixD, min2D, max2D, appendM, popM, reverseM, clearM, rangeD1, rangeD, itemsD, truD, inKD, ixKD, splitD, joinD, slD, isiD, notD, at0, at1, n1, hi]
    rw [if_neg (by omega)]
    refine is_name_spec h.2 _ fun ρ' => ?_
    simp (decide := true) only [wf_seq, wf_seqL, wf_kill, wf_expr, wf_fret, wf_retN, wf_ifS, wf_setN, wf_setV, wf_setT, wf_par, wf_augI, wf_break, wf_cont, wf_thru, wf_raise, wf_tryAs, wm_xf, wm_is, wf_skip, wf_for, wm_var, wm_c, wm_frz, wm_frN, wm_nn, wm_un, wm_bin, wm_evs_nil, wm_evs_cons, wm_n, wm_tup, wm_lst, wm_bool, wm_notB, wm_andB, wm_orB, wm_and, wm_or, wm_if, wm_chain, wm_asInt, wm_noInt, wm_sl, wm_srcD, wm_srcN, wm_fmt, wm_js_nil, wm_js_cons, wm_tru, wm_strM, wm_mutL, wm_call, wm_comp, wc, EV.set, EV.kill, EV.kills, EV.put, EV.obj, EV.look, EV.looks, EV.objs, EV.key, EV.puts, argIx, argSl, gets, oD, oR, settled, List.set_cons_zero, List.set_cons_succ, List.getElem?_cons_zero, List.getElem?_cons_succ, List.replicate_succ, List.replicate_zero, List.map_cons, List.map_nil, List.length_cons, List.length_nil, List.nil_append, List.cons_append, Nat.reduceAdd, Nat.reduceSub, Nat.reduceLT, Nat.reduceLeDiff, List.nodup_cons, List.nodup_nil, List.not_mem_nil, not_false_eq_true, not_true_eq_false, and_self, and_true, true_and, and_false, false_and, if_true, if_false, reduceIte, Bool.false_eq_true, decide_eq_true_eq, decide_eq_false_iff_not, Bool.not_true, Bool.not_false, Bool.not_eq_true', Bool.not_eq_false', List.zip_cons_cons, List.zip_nil_right, List.zip_nil_left, List.foldl_cons, List.foldl_nil, tgN, tgT, tgT.go, tgL, mYes, wm_ret, List.headD_cons]
    exact hE _
  | own p =>
    have hi := in_parts h
    simp only [Tl.words, List.map_cons, List.map_nil, List.cons_append, List.nil_append]
    simp (decide := true) only [wf_seq, wf_seqL, wf_kill, wf_expr, wf_fret, wf_retN, wf_ifS, wf_setN, wf_setV, wf_setT, wf_par, wf_augI, wf_break, wf_cont, wf_thru, wf_raise, wf_tryAs, wm_xf, wm_is, wf_skip, wf_for, wm_var, wm_c, wm_frz, wm_frN, wm_nn, wm_un, wm_bin, wm_evs_nil, wm_evs_cons, wm_n, wm_tup, wm_lst, wm_bool, wm_notB, wm_andB, wm_orB, wm_and, wm_or, wm_if, wm_chain, wm_asInt, wm_noInt, wm_sl, wm_srcD, wm_srcN, wm_fmt, wm_js_nil, wm_js_cons, wm_tru, wm_strM, wm_mutL, wm_call, wm_comp, wc, EV.set, EV.kill, EV.kills, EV.put, EV.obj, EV.look, EV.looks, EV.objs, EV.key, EV.puts, argIx, argSl, gets, oD, oR, settled, List.set_cons_zero, List.set_cons_succ, List.getElem?_cons_zero, List.getElem?_cons_succ, List.replicate_succ, List.replicate_zero, List.map_cons, List.map_nil, List.length_cons, List.length_nil, List.nil_append, List.cons_append, Nat.reduceAdd, Nat.reduceSub, Nat.reduceLT, Nat.reduceLeDiff, List.nodup_cons, List.nodup_nil, List.not_mem_nil, not_false_eq_true, not_true_eq_false, and_self, and_true, true_and, and_false, false_and, if_true, if_false, reduceIte, Bool.false_eq_true, decide_eq_true_eq, decide_eq_false_iff_not, Bool.not_true, Bool.not_false, Bool.not_eq_true', Bool.not_eq_false', List.zip_cons_cons, List.zip_nil_right, List.zip_nil_left, List.foldl_cons, List.foldl_nil, tgN, tgT, tgT.go, tgL, mYes, wm_ret, List.headD_cons, slD, cut_to _ (show (0 : Int) ≤ 1 by decide), List.take_succ_cons, List.take_zero, Int.toNat_one, own_any]
    simp (decide := true) only [wf_seq, wf_seqL, wf_kill, wf_expr, wf_fret, wf_retN, wf_ifS, wf_setN, wf_setV, wf_setT, wf_par, wf_augI, wf_break, wf_cont, wf_thru, wf_raise, wf_tryAs, wm_xf, wm_is, wf_skip, wf_for, wm_var, wm_c, wm_frz, wm_frN, wm_nn, wm_un, wm_bin, wm_evs_nil, wm_evs_cons, wm_n, wm_tup, wm_lst, wm_bool, wm_notB, wm_andB, wm_orB, wm_and, wm_or, wm_if, wm_chain, wm_asInt, wm_noInt, wm_sl, wm_srcD, wm_srcN, wm_fmt, wm_js_nil, wm_js_cons, wm_tru, wm_strM, wm_mutL, wm_call, wm_comp, wc, EV.set, EV.kill, EV.kills, EV.put, EV.obj, EV.look, EV.looks, EV.objs, EV.key, EV.puts, argIx, argSl, gets, oD, oR, settled, List.set_cons_zero, List.set_cons_succ, List.getElem?_cons_zero, List.getElem?_cons_succ, List.replicate_succ, List.replicate_zero, List.map_cons, List.map_nil, List.length_cons, List.length_nil, List.nil_append, List.cons_append, Nat.reduceAdd, Nat.reduceSub, Nat.reduceLT, Nat.reduceLeDiff, List.nodup_cons, List.nodup_nil, List.not_mem_nil, not_false_eq_true, not_true_eq_false, and_self, and_true, true_and, and_false, false_and, if_true, if_false, reduceIte, Bool.false_eq_true, decide_eq_true_eq, decide_eq_false_iff_not, Bool.not_true, Bool.not_false, Bool.not_eq_true', Bool.not_eq_false', List.zip_cons_cons, List.zip_nil_right, List.zip_nil_left, List.foldl_cons, List.foldl_nil, tgN, tgT, tgT.go, tgL, mYes, wm_ret, List.headD_cons, addD, subD, mulD, modD, fdivD, powD, negD, cmpD, eqD, neD, isND, notND, isNone, lenD, intD, strD, listD, tupleD, ixD, min2D, max2D, appendM, popM, reverseM, clearM, rangeD1, rangeD, itemsD, truD, inKD, ixKD, splitD, joinD, slD, isiD, notD, at0, at1, hi]
    rw [if_neg (by omega)]
    exact hE _
/-! ### names and tallies, told of any words -/
def asc (w : Str) : Prop := ∀ c ∈ w.cps.toList, c < 128
instance {w : Str} : Decidable (asc w) := by unfold asc; exact inferInstance
theorem WOK.asc {w : Str} (h : WOK w) : asc w := fun c hc => by have := h.2.2 c hc; omega
theorem asc_app {a b : Str} (ha : asc a) (hb : asc b) : asc (a ++ b) := fun c hc => by
  rw [str_app] at hc
  rcases List.mem_append.mp hc with h | h
  · exact ha c h
  · exact hb c h
theorem asc_ok {w : Str} (h : asc w) : PyData.strOk w = true := by
  unfold PyData.strOk
  rw [← Array.all_toList, List.all_eq_true]
  intro c hc
  have := h c hc
  rw [decide_eq_true_eq]
  omega
theorem in_let : ∀ c, c < 128 → inB (.str ⟨#[c]⟩) (.str "abcdefghijklmnopqrstuvwxyz") = some (decide (97 ≤ c ∧ c ≤ 122)) := by
  have h : ∀ k ∈ List.range 128, inB (.str ⟨#[k]⟩) (.str "abcdefghijklmnopqrstuvwxyz") = some (decide (97 ≤ k ∧ k ≤ 122)) := by decide +kernel
  exact fun c hc => h c (List.mem_range.mpr hc)
def isNm (w : Str) : Bool := decide (1 ≤ w.length) && (decide (w.length ≤ 8) && (w.cps.toList.all fun c => decide (97 ≤ c ∧ c ≤ 122)))
theorem bool_mapf {α : Type} (f : α → Bool) : ∀ (l : List α), boolL (l.map fun a => D.bl (f a)) = some (l.map f)
  | [] => rfl
  | a :: l => by
    show (match boolL (l.map fun a => D.bl (f a)) with | some bs => some (f a :: bs) | none => none) = _
    rw [bool_mapf f l]
    rfl
theorem all_mapf {α : Type} (f : α → Bool) (l : List α) : allD [.lst (l.map fun a => D.bl (f a))] = some (.v (.bl (l.all f))) := by
  show (match boolL (l.map fun a => D.bl (f a)) with | some bs => some (R.v (.bl (bs.all id))) | none => none) = _
  rw [bool_mapf]
  simp
theorem is_name_tot {w : Str} (h : asc w) (hz : w.length ≤ 10000) (E : Ko) (hE : ∀ ρ', E.rt (.v (.bl (isNm w))) ρ') : wf fb_is_name ⟨[some (.val (.str w)), none], []⟩ E := by
  have hz2 : szOk w.length := by unfold szOk; omega
  unfold fb_is_name
  simp (decide := true) only [wf_seq, wf_seqL, wf_kill, wf_expr, wf_fret, wf_retN, wf_ifS, wf_setN, wf_setV, wf_setT, wf_par, wf_augI, wf_break, wf_cont, wf_thru, wf_raise, wf_tryAs, wm_xf, wm_is, wf_skip, wf_for, wm_var, wm_c, wm_frz, wm_frN, wm_nn, wm_un, wm_bin, wm_evs_nil, wm_evs_cons, wm_n, wm_tup, wm_lst, wm_bool, wm_notB, wm_andB, wm_orB, wm_and, wm_or, wm_if, wm_chain, wm_asInt, wm_noInt, wm_sl, wm_srcD, wm_srcN, wm_fmt, wm_js_nil, wm_js_cons, wm_tru, wm_strM, wm_mutL, wm_call, wm_comp, wc, EV.set, EV.kill, EV.kills, EV.put, EV.obj, EV.look, EV.looks, EV.objs, EV.key, EV.puts, argIx, argSl, gets, oD, oR, settled, List.set_cons_zero, List.set_cons_succ, List.getElem?_cons_zero, List.getElem?_cons_succ, List.replicate_succ, List.replicate_zero, List.map_cons, List.map_nil, List.length_cons, List.length_nil, List.nil_append, List.cons_append, Nat.reduceAdd, Nat.reduceSub, Nat.reduceLT, Nat.reduceLeDiff, List.nodup_cons, List.nodup_nil, List.not_mem_nil, not_false_eq_true, not_true_eq_false, and_self, and_true, true_and, and_false, false_and, if_true, if_false, reduceIte, Bool.false_eq_true, decide_eq_true_eq, decide_eq_false_iff_not, Bool.not_true, Bool.not_false, Bool.not_eq_true', Bool.not_eq_false', List.zip_cons_cons, List.zip_nil_right, List.zip_nil_left, List.foldl_cons, List.foldl_nil, tgN, tgT, tgT.go, tgL, mYes, wm_ret, List.headD_cons, addD, subD, mulD, modD, fdivD, powD, negD, cmpD, eqD, neD, isND, notND, isNone, lenD, intD, strD, listD, tupleD, ixD, min2D, max2D, appendM, popM, reverseM, clearM, rangeD1, rangeD, itemsD, truD, inKD, ixKD, splitD, joinD, slD, isiD, notD, hz2, chars]
  by_cases h1 : 1 ≤ w.length
  · have h1' : (1 : Int) ≤ (w.length : Int) := by omega
    simp (decide := true) only [wf_seq, wf_seqL, wf_kill, wf_expr, wf_fret, wf_retN, wf_ifS, wf_setN, wf_setV, wf_setT, wf_par, wf_augI, wf_break, wf_cont, wf_thru, wf_raise, wf_tryAs, wm_xf, wm_is, wf_skip, wf_for, wm_var, wm_c, wm_frz, wm_frN, wm_nn, wm_un, wm_bin, wm_evs_nil, wm_evs_cons, wm_n, wm_tup, wm_lst, wm_bool, wm_notB, wm_andB, wm_orB, wm_and, wm_or, wm_if, wm_chain, wm_asInt, wm_noInt, wm_sl, wm_srcD, wm_srcN, wm_fmt, wm_js_nil, wm_js_cons, wm_tru, wm_strM, wm_mutL, wm_call, wm_comp, wc, EV.set, EV.kill, EV.kills, EV.put, EV.obj, EV.look, EV.looks, EV.objs, EV.key, EV.puts, argIx, argSl, gets, oD, oR, settled, List.set_cons_zero, List.set_cons_succ, List.getElem?_cons_zero, List.getElem?_cons_succ, List.replicate_succ, List.replicate_zero, List.map_cons, List.map_nil, List.length_cons, List.length_nil, List.nil_append, List.cons_append, Nat.reduceAdd, Nat.reduceSub, Nat.reduceLT, Nat.reduceLeDiff, List.nodup_cons, List.nodup_nil, List.not_mem_nil, not_false_eq_true, not_true_eq_false, and_self, and_true, true_and, and_false, false_and, if_true, if_false, reduceIte, Bool.false_eq_true, decide_eq_true_eq, decide_eq_false_iff_not, Bool.not_true, Bool.not_false, Bool.not_eq_true', Bool.not_eq_false', List.zip_cons_cons, List.zip_nil_right, List.zip_nil_left, List.foldl_cons, List.foldl_nil, tgN, tgT, tgT.go, tgL, mYes, wm_ret, List.headD_cons, h1']
    by_cases h2 : w.length ≤ 8
    · have h2' : (w.length : Int) ≤ 8 := by omega
      simp (decide := true) only [wf_seq, wf_seqL, wf_kill, wf_expr, wf_fret, wf_retN, wf_ifS, wf_setN, wf_setV, wf_setT, wf_par, wf_augI, wf_break, wf_cont, wf_thru, wf_raise, wf_tryAs, wm_xf, wm_is, wf_skip, wf_for, wm_var, wm_c, wm_frz, wm_frN, wm_nn, wm_un, wm_bin, wm_evs_nil, wm_evs_cons, wm_n, wm_tup, wm_lst, wm_bool, wm_notB, wm_andB, wm_orB, wm_and, wm_or, wm_if, wm_chain, wm_asInt, wm_noInt, wm_sl, wm_srcD, wm_srcN, wm_fmt, wm_js_nil, wm_js_cons, wm_tru, wm_strM, wm_mutL, wm_call, wm_comp, wc, EV.set, EV.kill, EV.kills, EV.put, EV.obj, EV.look, EV.looks, EV.objs, EV.key, EV.puts, argIx, argSl, gets, oD, oR, settled, List.set_cons_zero, List.set_cons_succ, List.getElem?_cons_zero, List.getElem?_cons_succ, List.replicate_succ, List.replicate_zero, List.map_cons, List.map_nil, List.length_cons, List.length_nil, List.nil_append, List.cons_append, Nat.reduceAdd, Nat.reduceSub, Nat.reduceLT, Nat.reduceLeDiff, List.nodup_cons, List.nodup_nil, List.not_mem_nil, not_false_eq_true, not_true_eq_false, and_self, and_true, true_and, and_false, false_and, if_true, if_false, reduceIte, Bool.false_eq_true, decide_eq_true_eq, decide_eq_false_iff_not, Bool.not_true, Bool.not_false, Bool.not_eq_true', Bool.not_eq_false', List.zip_cons_cons, List.zip_nil_right, List.zip_nil_left, List.foldl_cons, List.foldl_nil, tgN, tgT, tgT.go, tgL, mYes, wm_ret, List.headD_cons, h2']
      refine wm_compM (fun ρ => ρ = ⟨[some (.val (.str w)), none], []⟩) (fun c => D.str ⟨#[c]⟩) (fun c => D.bl (decide (97 ≤ c ∧ c ≤ 122))) ?_ [] _ rfl ?_ ?_
      · rintro c hc ρ rfl
        refine ⟨_, rfl, ?_⟩
        simp (decide := true) only [wf_seq, wf_seqL, wf_kill, wf_expr, wf_fret, wf_retN, wf_ifS, wf_setN, wf_setV, wf_setT, wf_par, wf_augI, wf_break, wf_cont, wf_thru, wf_raise, wf_tryAs, wm_xf, wm_is, wf_skip, wf_for, wm_var, wm_c, wm_frz, wm_frN, wm_nn, wm_un, wm_bin, wm_evs_nil, wm_evs_cons, wm_n, wm_tup, wm_lst, wm_bool, wm_notB, wm_andB, wm_orB, wm_and, wm_or, wm_if, wm_chain, wm_asInt, wm_noInt, wm_sl, wm_srcD, wm_srcN, wm_fmt, wm_js_nil, wm_js_cons, wm_tru, wm_strM, wm_mutL, wm_call, wm_comp, wc, EV.set, EV.kill, EV.kills, EV.put, EV.obj, EV.look, EV.looks, EV.objs, EV.key, EV.puts, argIx, argSl, gets, oD, oR, settled, List.set_cons_zero, List.set_cons_succ, List.getElem?_cons_zero, List.getElem?_cons_succ, List.replicate_succ, List.replicate_zero, List.map_cons, List.map_nil, List.length_cons, List.length_nil, List.nil_append, List.cons_append, Nat.reduceAdd, Nat.reduceSub, Nat.reduceLT, Nat.reduceLeDiff, List.nodup_cons, List.nodup_nil, List.not_mem_nil, not_false_eq_true, not_true_eq_false, and_self, and_true, true_and, and_false, false_and, if_true, if_false, reduceIte, Bool.false_eq_true, decide_eq_true_eq, decide_eq_false_iff_not, Bool.not_true, Bool.not_false, Bool.not_eq_true', Bool.not_eq_false', List.zip_cons_cons, List.zip_nil_right, List.zip_nil_left, List.foldl_cons, List.foldl_nil, tgN, tgT, tgT.go, tgL, mYes, wm_ret, List.headD_cons, inD, in_let c (h c hc)]
      · rw [← str_len]
        simpa using hz2
      · rintro ρ rfl
        rw [List.nil_append, all_mapf]
        have e : isNm w = (w.cps.toList.all fun c => decide (97 ≤ c ∧ c ≤ 122)) := by unfold isNm; simp [h1, h2]
        rw [← e]
        exact hE _
    · have h2' : ¬ (w.length : Int) ≤ 8 := by omega
      simp (decide := true) only [wf_seq, wf_seqL, wf_kill, wf_expr, wf_fret, wf_retN, wf_ifS, wf_setN, wf_setV, wf_setT, wf_par, wf_augI, wf_break, wf_cont, wf_thru, wf_raise, wf_tryAs, wm_xf, wm_is, wf_skip, wf_for, wm_var, wm_c, wm_frz, wm_frN, wm_nn, wm_un, wm_bin, wm_evs_nil, wm_evs_cons, wm_n, wm_tup, wm_lst, wm_bool, wm_notB, wm_andB, wm_orB, wm_and, wm_or, wm_if, wm_chain, wm_asInt, wm_noInt, wm_sl, wm_srcD, wm_srcN, wm_fmt, wm_js_nil, wm_js_cons, wm_tru, wm_strM, wm_mutL, wm_call, wm_comp, wc, EV.set, EV.kill, EV.kills, EV.put, EV.obj, EV.look, EV.looks, EV.objs, EV.key, EV.puts, argIx, argSl, gets, oD, oR, settled, List.set_cons_zero, List.set_cons_succ, List.getElem?_cons_zero, List.getElem?_cons_succ, List.replicate_succ, List.replicate_zero, List.map_cons, List.map_nil, List.length_cons, List.length_nil, List.nil_append, List.cons_append, Nat.reduceAdd, Nat.reduceSub, Nat.reduceLT, Nat.reduceLeDiff, List.nodup_cons, List.nodup_nil, List.not_mem_nil, not_false_eq_true, not_true_eq_false, and_self, and_true, true_and, and_false, false_and, if_true, if_false, reduceIte, Bool.false_eq_true, decide_eq_true_eq, decide_eq_false_iff_not, Bool.not_true, Bool.not_false, Bool.not_eq_true', Bool.not_eq_false', List.zip_cons_cons, List.zip_nil_right, List.zip_nil_left, List.foldl_cons, List.foldl_nil, tgN, tgT, tgT.go, tgL, mYes, wm_ret, List.headD_cons, h2']
      have e : isNm w = false := by unfold isNm; simp [h2]
      rw [← e]
      exact hE _
  · have h1' : ¬ (1 : Int) ≤ (w.length : Int) := by omega
    simp (decide := true) only [wf_seq, wf_seqL, wf_kill, wf_expr, wf_fret, wf_retN, wf_ifS, wf_setN, wf_setV, wf_setT, wf_par, wf_augI, wf_break, wf_cont, wf_thru, wf_raise, wf_tryAs, wm_xf, wm_is, wf_skip, wf_for, wm_var, wm_c, wm_frz, wm_frN, wm_nn, wm_un, wm_bin, wm_evs_nil, wm_evs_cons, wm_n, wm_tup, wm_lst, wm_bool, wm_notB, wm_andB, wm_orB, wm_and, wm_or, wm_if, wm_chain, wm_asInt, wm_noInt, wm_sl, wm_srcD, wm_srcN, wm_fmt, wm_js_nil, wm_js_cons, wm_tru, wm_strM, wm_mutL, wm_call, wm_comp, wc, EV.set, EV.kill, EV.kills, EV.put, EV.obj, EV.look, EV.looks, EV.objs, EV.key, EV.puts, argIx, argSl, gets, oD, oR, settled, List.set_cons_zero, List.set_cons_succ, List.getElem?_cons_zero, List.getElem?_cons_succ, List.replicate_succ, List.replicate_zero, List.map_cons, List.map_nil, List.length_cons, List.length_nil, List.nil_append, List.cons_append, Nat.reduceAdd, Nat.reduceSub, Nat.reduceLT, Nat.reduceLeDiff, List.nodup_cons, List.nodup_nil, List.not_mem_nil, not_false_eq_true, not_true_eq_false, and_self, and_true, true_and, and_false, false_and, if_true, if_false, reduceIte, Bool.false_eq_true, decide_eq_true_eq, decide_eq_false_iff_not, Bool.not_true, Bool.not_false, Bool.not_eq_true', Bool.not_eq_false', List.zip_cons_cons, List.zip_nil_right, List.zip_nil_left, List.foldl_cons, List.foldl_nil, tgN, tgT, tgT.go, tgL, mYes, wm_ret, List.headD_cons, h1']
    have e : isNm w = false := by unfold isNm; simp [h1]
    rw [← e]
    exact hE _
def isPart (p : Str) : Bool := (kd_PARTS.lookup p).isSome
def tsz : List Str → Int
  | [] => 0
  | [a] => if a = "any" then 1 else 0
  | a :: b :: _ => if a = "any" then 1 else if a = "own" ∧ isPart b = true then 2 else if isPart a = true ∧ isNm b = true then 2 else 0
theorem tsz_one (a : Str) : tsz [a] = if a = "any" then 1 else 0 := rfl
theorem tsz_two (a b : Str) (r : List Str) : tsz (a :: b :: r) = if a = "any" then 1 else if a = "own" ∧ isPart b = true then 2 else if isPart a = true ∧ isNm b = true then 2 else 0 := rfl
theorem nil_any : eqD (.lst []) (.lst [.str "any"]) = some (.v (.bl false)) := by
  have h1 : okD (.lst []) = true := (Dp.lst (n := 1) fun d hd => by cases hd).ok (by decide)
  have h2 : okD (.lst [.str "any"]) = true := (Dp.lst (n := 1) fun d hd => by rw [List.mem_singleton] at hd; subst hd; exact Dp.str (by decide +kernel)).ok (by decide)
  have h3 : eqB (.lst []) (.lst [.str "any"]) = false := rfl
  simp only [eqD, h1, h2, h3, Bool.and_self, if_true]
def shortW (w : Str) : Prop := asc w ∧ w.length ≤ 100
instance {w : Str} : Decidable (shortW w) := by unfold shortW; exact inferInstance
theorem tally_size_tot {ws : List Str} (h : ∀ w ∈ ws, shortW w) (E : Ko) (hE : ∀ ρ', E.rt (.v (.int (tsz ws))) ρ') : wf fb_tally_size ⟨[some (.val (.lst (ws.map D.str)))], []⟩ E := by
  unfold fb_tally_size
  match ws, h, hE with
  | [], h, hE =>
    simp (decide := true) only [wf_seqZ, wf_seqL, wf_kill, wf_expr, wf_fret, wf_retN, wf_ifS, wf_setN, wf_setV, wf_setT, wf_par, wf_augI, wf_break, wf_cont, wf_thru, wf_raise, wf_tryAs, wm_xf, wm_is, wf_skip, wf_for, wm_var, wm_c, wm_frz, wm_frN, wm_nn, wm_un, wm_bin, wm_evs_nil, wm_evs_cons, wm_n, wm_tup, wm_lst, wm_bool, wm_notB, wm_andB, wm_orB, wm_and, wm_or, wm_if, wm_chain, wm_asInt, wm_noInt, wm_sl, wm_srcD, wm_srcN, wm_fmt, wm_js_nil, wm_js_cons, wm_tru, wm_strM, wm_mutL, wm_call, wm_comp, wc, EV.set, EV.kill, EV.kills, EV.put, EV.obj, EV.look, EV.looks, EV.objs, EV.key, EV.puts, argIx, argSl, gets, oD, oR, settled, List.set_cons_zero, List.set_cons_succ, List.getElem?_cons_zero, List.getElem?_cons_succ, List.replicate_succ, List.replicate_zero, List.map_cons, List.map_nil, List.length_cons, List.length_nil, List.nil_append, List.cons_append, Nat.reduceAdd, Nat.reduceSub, Nat.reduceLT, Nat.reduceLeDiff, List.nodup_cons, List.nodup_nil, List.not_mem_nil, not_false_eq_true, not_true_eq_false, and_self, and_true, true_and, and_false, false_and, if_true, if_false, reduceIte, Bool.false_eq_true, decide_eq_true_eq, decide_eq_false_iff_not, Bool.not_true, Bool.not_false, Bool.not_eq_true', Bool.not_eq_false', List.zip_cons_cons, List.zip_nil_right, List.zip_nil_left, List.foldl_cons, List.foldl_nil, tgN, tgT, tgT.go, tgL, mYes, wm_ret, List.headD_cons, slD, cut_to _ (show (0 : Int) ≤ 1 by decide), List.take_nil, nil_any]
    rw [later_eq]
    simp (decide := true) only [wf_seqZ, wf_seqL, wf_kill, wf_expr, wf_fret, wf_retN, wf_ifS, wf_setN, wf_setV, wf_setT, wf_par, wf_augI, wf_break, wf_cont, wf_thru, wf_raise, wf_tryAs, wm_xf, wm_is, wf_skip, wf_for, wm_var, wm_c, wm_frz, wm_frN, wm_nn, wm_un, wm_bin, wm_evs_nil, wm_evs_cons, wm_n, wm_tup, wm_lst, wm_bool, wm_notB, wm_andB, wm_orB, wm_and, wm_or, wm_if, wm_chain, wm_asInt, wm_noInt, wm_sl, wm_srcD, wm_srcN, wm_fmt, wm_js_nil, wm_js_cons, wm_tru, wm_strM, wm_mutL, wm_call, wm_comp, wc, EV.set, EV.kill, EV.kills, EV.put, EV.obj, EV.look, EV.looks, EV.objs, EV.key, EV.puts, argIx, argSl, gets, oD, oR, settled, List.set_cons_zero, List.set_cons_succ, List.getElem?_cons_zero, List.getElem?_cons_succ, List.replicate_succ, List.replicate_zero, List.map_cons, List.map_nil, List.length_cons, List.length_nil, List.nil_append, List.cons_append, Nat.reduceAdd, Nat.reduceSub, Nat.reduceLT, Nat.reduceLeDiff, List.nodup_cons, List.nodup_nil, List.not_mem_nil, not_false_eq_true, not_true_eq_false, and_self, and_true, true_and, and_false, false_and, if_true, if_false, reduceIte, Bool.false_eq_true, decide_eq_true_eq, decide_eq_false_iff_not, Bool.not_true, Bool.not_false, Bool.not_eq_true', Bool.not_eq_false', List.zip_cons_cons, List.zip_nil_right, List.zip_nil_left, List.foldl_cons, List.foldl_nil, tgN, tgT, tgT.go, tgL, mYes, wm_ret, List.headD_cons, addD, subD, mulD, modD, fdivD, powD, negD, cmpD, eqD, neD, isND, notND, isNone, lenD, intD, strD, listD, tupleD, ixD, min2D, max2D, appendM, popM, reverseM, clearM, rangeD1, rangeD, itemsD, truD, inKD, ixKD, splitD, joinD, slD, isiD, notD]
    exact hE _
  | [a], h, hE =>
    have ha := asc_ok (h a List.mem_cons_self).1
    simp (decide := true) only [wf_seqZ, wf_seqL, wf_kill, wf_expr, wf_fret, wf_retN, wf_ifS, wf_setN, wf_setV, wf_setT, wf_par, wf_augI, wf_break, wf_cont, wf_thru, wf_raise, wf_tryAs, wm_xf, wm_is, wf_skip, wf_for, wm_var, wm_c, wm_frz, wm_frN, wm_nn, wm_un, wm_bin, wm_evs_nil, wm_evs_cons, wm_n, wm_tup, wm_lst, wm_bool, wm_notB, wm_andB, wm_orB, wm_and, wm_or, wm_if, wm_chain, wm_asInt, wm_noInt, wm_sl, wm_srcD, wm_srcN, wm_fmt, wm_js_nil, wm_js_cons, wm_tru, wm_strM, wm_mutL, wm_call, wm_comp, wc, EV.set, EV.kill, EV.kills, EV.put, EV.obj, EV.look, EV.looks, EV.objs, EV.key, EV.puts, argIx, argSl, gets, oD, oR, settled, List.set_cons_zero, List.set_cons_succ, List.getElem?_cons_zero, List.getElem?_cons_succ, List.replicate_succ, List.replicate_zero, List.map_cons, List.map_nil, List.length_cons, List.length_nil, List.nil_append, List.cons_append, Nat.reduceAdd, Nat.reduceSub, Nat.reduceLT, Nat.reduceLeDiff, List.nodup_cons, List.nodup_nil, List.not_mem_nil, not_false_eq_true, not_true_eq_false, and_self, and_true, true_and, and_false, false_and, if_true, if_false, reduceIte, Bool.false_eq_true, decide_eq_true_eq, decide_eq_false_iff_not, Bool.not_true, Bool.not_false, Bool.not_eq_true', Bool.not_eq_false', List.zip_cons_cons, List.zip_nil_right, List.zip_nil_left, List.foldl_cons, List.foldl_nil, tgN, tgT, tgT.go, tgL, mYes, wm_ret, List.headD_cons, slD, cut_to _ (show (0 : Int) ≤ 1 by decide), List.take_succ_cons, List.take_zero, List.take_nil, Int.toNat_one, eqD_one (a := a) (b := "any") ha (by decide +kernel)]
    by_cases e : a = "any"
    · have e' : (a == ("any" : Str)) = true := by simp [e]
      have hE : ∀ ρ', E.rt (.v (.int 1)) ρ' := fun ρ' => by have := hE ρ'; rw [show tsz [a] = 1 by rw [tsz_one, if_pos e]] at this; exact this
      simp (decide := true) only [wf_seqZ, wf_seqL, wf_kill, wf_expr, wf_fret, wf_retN, wf_ifS, wf_setN, wf_setV, wf_setT, wf_par, wf_augI, wf_break, wf_cont, wf_thru, wf_raise, wf_tryAs, wm_xf, wm_is, wf_skip, wf_for, wm_var, wm_c, wm_frz, wm_frN, wm_nn, wm_un, wm_bin, wm_evs_nil, wm_evs_cons, wm_n, wm_tup, wm_lst, wm_bool, wm_notB, wm_andB, wm_orB, wm_and, wm_or, wm_if, wm_chain, wm_asInt, wm_noInt, wm_sl, wm_srcD, wm_srcN, wm_fmt, wm_js_nil, wm_js_cons, wm_tru, wm_strM, wm_mutL, wm_call, wm_comp, wc, EV.set, EV.kill, EV.kills, EV.put, EV.obj, EV.look, EV.looks, EV.objs, EV.key, EV.puts, argIx, argSl, gets, oD, oR, settled, List.set_cons_zero, List.set_cons_succ, List.getElem?_cons_zero, List.getElem?_cons_succ, List.replicate_succ, List.replicate_zero, List.map_cons, List.map_nil, List.length_cons, List.length_nil, List.nil_append, List.cons_append, Nat.reduceAdd, Nat.reduceSub, Nat.reduceLT, Nat.reduceLeDiff, List.nodup_cons, List.nodup_nil, List.not_mem_nil, not_false_eq_true, not_true_eq_false, and_self, and_true, true_and, and_false, false_and, if_true, if_false, reduceIte, Bool.false_eq_true, decide_eq_true_eq, decide_eq_false_iff_not, Bool.not_true, Bool.not_false, Bool.not_eq_true', Bool.not_eq_false', List.zip_cons_cons, List.zip_nil_right, List.zip_nil_left, List.foldl_cons, List.foldl_nil, tgN, tgT, tgT.go, tgL, mYes, wm_ret, List.headD_cons, e']
      exact hE _
    · have e' : (a == ("any" : Str)) = false := by simp [e]
      have hE : ∀ ρ', E.rt (.v (.int 0)) ρ' := fun ρ' => by have := hE ρ'; rw [show tsz [a] = 0 by rw [tsz_one, if_neg e]] at this; exact this
      simp (decide := true) only [wf_seqZ, wf_seqL, wf_kill, wf_expr, wf_fret, wf_retN, wf_ifS, wf_setN, wf_setV, wf_setT, wf_par, wf_augI, wf_break, wf_cont, wf_thru, wf_raise, wf_tryAs, wm_xf, wm_is, wf_skip, wf_for, wm_var, wm_c, wm_frz, wm_frN, wm_nn, wm_un, wm_bin, wm_evs_nil, wm_evs_cons, wm_n, wm_tup, wm_lst, wm_bool, wm_notB, wm_andB, wm_orB, wm_and, wm_or, wm_if, wm_chain, wm_asInt, wm_noInt, wm_sl, wm_srcD, wm_srcN, wm_fmt, wm_js_nil, wm_js_cons, wm_tru, wm_strM, wm_mutL, wm_call, wm_comp, wc, EV.set, EV.kill, EV.kills, EV.put, EV.obj, EV.look, EV.looks, EV.objs, EV.key, EV.puts, argIx, argSl, gets, oD, oR, settled, List.set_cons_zero, List.set_cons_succ, List.getElem?_cons_zero, List.getElem?_cons_succ, List.replicate_succ, List.replicate_zero, List.map_cons, List.map_nil, List.length_cons, List.length_nil, List.nil_append, List.cons_append, Nat.reduceAdd, Nat.reduceSub, Nat.reduceLT, Nat.reduceLeDiff, List.nodup_cons, List.nodup_nil, List.not_mem_nil, not_false_eq_true, not_true_eq_false, and_self, and_true, true_and, and_false, false_and, if_true, if_false, reduceIte, Bool.false_eq_true, decide_eq_true_eq, decide_eq_false_iff_not, Bool.not_true, Bool.not_false, Bool.not_eq_true', Bool.not_eq_false', List.zip_cons_cons, List.zip_nil_right, List.zip_nil_left, List.foldl_cons, List.foldl_nil, tgN, tgT, tgT.go, tgL, mYes, wm_ret, List.headD_cons, e']
      rw [later_eq]
      simp (decide := true) only [wf_seqZ, wf_seqL, wf_kill, wf_expr, wf_fret, wf_retN, wf_ifS, wf_setN, wf_setV, wf_setT, wf_par, wf_augI, wf_break, wf_cont, wf_thru, wf_raise, wf_tryAs, wm_xf, wm_is, wf_skip, wf_for, wm_var, wm_c, wm_frz, wm_frN, wm_nn, wm_un, wm_bin, wm_evs_nil, wm_evs_cons, wm_n, wm_tup, wm_lst, wm_bool, wm_notB, wm_andB, wm_orB, wm_and, wm_or, wm_if, wm_chain, wm_asInt, wm_noInt, wm_sl, wm_srcD, wm_srcN, wm_fmt, wm_js_nil, wm_js_cons, wm_tru, wm_strM, wm_mutL, wm_call, wm_comp, wc, EV.set, EV.kill, EV.kills, EV.put, EV.obj, EV.look, EV.looks, EV.objs, EV.key, EV.puts, argIx, argSl, gets, oD, oR, settled, List.set_cons_zero, List.set_cons_succ, List.getElem?_cons_zero, List.getElem?_cons_succ, List.replicate_succ, List.replicate_zero, List.map_cons, List.map_nil, List.length_cons, List.length_nil, List.nil_append, List.cons_append, Nat.reduceAdd, Nat.reduceSub, Nat.reduceLT, Nat.reduceLeDiff, List.nodup_cons, List.nodup_nil, List.not_mem_nil, not_false_eq_true, not_true_eq_false, and_self, and_true, true_and, and_false, false_and, if_true, if_false, reduceIte, Bool.false_eq_true, decide_eq_true_eq, decide_eq_false_iff_not, Bool.not_true, Bool.not_false, Bool.not_eq_true', Bool.not_eq_false', List.zip_cons_cons, List.zip_nil_right, List.zip_nil_left, List.foldl_cons, List.foldl_nil, tgN, tgT, tgT.go, tgL, mYes, wm_ret, List.headD_cons, addD, subD, mulD, modD, fdivD, powD, negD, cmpD, eqD, neD, isND, notND, isNone, lenD, intD, strD, listD, tupleD, ixD, min2D, max2D, appendM, popM, reverseM, clearM, rangeD1, rangeD, itemsD, truD, inKD, ixKD, splitD, joinD, slD, isiD, notD]
      exact hE _
  | a :: b :: r, h, hE =>
    have ha := asc_ok (h a List.mem_cons_self).1
    have hb := h b (List.mem_cons_of_mem _ List.mem_cons_self)
    simp (decide := true) only [wf_seqZ, wf_seqL, wf_kill, wf_expr, wf_fret, wf_retN, wf_ifS, wf_setN, wf_setV, wf_setT, wf_par, wf_augI, wf_break, wf_cont, wf_thru, wf_raise, wf_tryAs, wm_xf, wm_is, wf_skip, wf_for, wm_var, wm_c, wm_frz, wm_frN, wm_nn, wm_un, wm_bin, wm_evs_nil, wm_evs_cons, wm_n, wm_tup, wm_lst, wm_bool, wm_notB, wm_andB, wm_orB, wm_and, wm_or, wm_if, wm_chain, wm_asInt, wm_noInt, wm_sl, wm_srcD, wm_srcN, wm_fmt, wm_js_nil, wm_js_cons, wm_tru, wm_strM, wm_mutL, wm_call, wm_comp, wc, EV.set, EV.kill, EV.kills, EV.put, EV.obj, EV.look, EV.looks, EV.objs, EV.key, EV.puts, argIx, argSl, gets, oD, oR, settled, List.set_cons_zero, List.set_cons_succ, List.getElem?_cons_zero, List.getElem?_cons_succ, List.replicate_succ, List.replicate_zero, List.map_cons, List.map_nil, List.length_cons, List.length_nil, List.nil_append, List.cons_append, Nat.reduceAdd, Nat.reduceSub, Nat.reduceLT, Nat.reduceLeDiff, List.nodup_cons, List.nodup_nil, List.not_mem_nil, not_false_eq_true, not_true_eq_false, and_self, and_true, true_and, and_false, false_and, if_true, if_false, reduceIte, Bool.false_eq_true, decide_eq_true_eq, decide_eq_false_iff_not, Bool.not_true, Bool.not_false, Bool.not_eq_true', Bool.not_eq_false', List.zip_cons_cons, List.zip_nil_right, List.zip_nil_left, List.foldl_cons, List.foldl_nil, tgN, tgT, tgT.go, tgL, mYes, wm_ret, List.headD_cons, slD, cut_to _ (show (0 : Int) ≤ 1 by decide), List.take_succ_cons, List.take_zero, Int.toNat_one, eqD_one (a := a) (b := "any") ha (by decide +kernel)]
    by_cases e : a = "any"
    · have e' : (a == ("any" : Str)) = true := by simp [e]
      have hE : ∀ ρ', E.rt (.v (.int 1)) ρ' := fun ρ' => by have := hE ρ'; rw [show tsz (a :: b :: r) = 1 by rw [tsz_two, if_pos e]] at this; exact this
      simp (decide := true) only [wf_seqZ, wf_seqL, wf_kill, wf_expr, wf_fret, wf_retN, wf_ifS, wf_setN, wf_setV, wf_setT, wf_par, wf_augI, wf_break, wf_cont, wf_thru, wf_raise, wf_tryAs, wm_xf, wm_is, wf_skip, wf_for, wm_var, wm_c, wm_frz, wm_frN, wm_nn, wm_un, wm_bin, wm_evs_nil, wm_evs_cons, wm_n, wm_tup, wm_lst, wm_bool, wm_notB, wm_andB, wm_orB, wm_and, wm_or, wm_if, wm_chain, wm_asInt, wm_noInt, wm_sl, wm_srcD, wm_srcN, wm_fmt, wm_js_nil, wm_js_cons, wm_tru, wm_strM, wm_mutL, wm_call, wm_comp, wc, EV.set, EV.kill, EV.kills, EV.put, EV.obj, EV.look, EV.looks, EV.objs, EV.key, EV.puts, argIx, argSl, gets, oD, oR, settled, List.set_cons_zero, List.set_cons_succ, List.getElem?_cons_zero, List.getElem?_cons_succ, List.replicate_succ, List.replicate_zero, List.map_cons, List.map_nil, List.length_cons, List.length_nil, List.nil_append, List.cons_append, Nat.reduceAdd, Nat.reduceSub, Nat.reduceLT, Nat.reduceLeDiff, List.nodup_cons, List.nodup_nil, List.not_mem_nil, not_false_eq_true, not_true_eq_false, and_self, and_true, true_and, and_false, false_and, if_true, if_false, reduceIte, Bool.false_eq_true, decide_eq_true_eq, decide_eq_false_iff_not, Bool.not_true, Bool.not_false, Bool.not_eq_true', Bool.not_eq_false', List.zip_cons_cons, List.zip_nil_right, List.zip_nil_left, List.foldl_cons, List.foldl_nil, tgN, tgT, tgT.go, tgL, mYes, wm_ret, List.headD_cons, e']
      exact hE _
    · have e' : (a == ("any" : Str)) = false := by simp [e]
      simp (decide := true) only [wf_seqZ, wf_seqL, wf_kill, wf_expr, wf_fret, wf_retN, wf_ifS, wf_setN, wf_setV, wf_setT, wf_par, wf_augI, wf_break, wf_cont, wf_thru, wf_raise, wf_tryAs, wm_xf, wm_is, wf_skip, wf_for, wm_var, wm_c, wm_frz, wm_frN, wm_nn, wm_un, wm_bin, wm_evs_nil, wm_evs_cons, wm_n, wm_tup, wm_lst, wm_bool, wm_notB, wm_andB, wm_orB, wm_and, wm_or, wm_if, wm_chain, wm_asInt, wm_noInt, wm_sl, wm_srcD, wm_srcN, wm_fmt, wm_js_nil, wm_js_cons, wm_tru, wm_strM, wm_mutL, wm_call, wm_comp, wc, EV.set, EV.kill, EV.kills, EV.put, EV.obj, EV.look, EV.looks, EV.objs, EV.key, EV.puts, argIx, argSl, gets, oD, oR, settled, List.set_cons_zero, List.set_cons_succ, List.getElem?_cons_zero, List.getElem?_cons_succ, List.replicate_succ, List.replicate_zero, List.map_cons, List.map_nil, List.length_cons, List.length_nil, List.nil_append, List.cons_append, Nat.reduceAdd, Nat.reduceSub, Nat.reduceLT, Nat.reduceLeDiff, List.nodup_cons, List.nodup_nil, List.not_mem_nil, not_false_eq_true, not_true_eq_false, and_self, and_true, true_and, and_false, false_and, if_true, if_false, reduceIte, Bool.false_eq_true, decide_eq_true_eq, decide_eq_false_iff_not, Bool.not_true, Bool.not_false, Bool.not_eq_true', Bool.not_eq_false', List.zip_cons_cons, List.zip_nil_right, List.zip_nil_left, List.foldl_cons, List.foldl_nil, tgN, tgT, tgT.go, tgL, mYes, wm_ret, List.headD_cons, e']
      rw [later_eq]
      simp (decide := true) only [wf_seqZ, wf_seqL, wf_kill, wf_expr, wf_fret, wf_retN, wf_ifS, wf_setN, wf_setV, wf_setT, wf_par, wf_augI, wf_break, wf_cont, wf_thru, wf_raise, wf_tryAs, wm_xf, wm_is, wf_skip, wf_for, wm_var, wm_c, wm_frz, wm_frN, wm_nn, wm_un, wm_bin, wm_evs_nil, wm_evs_cons, wm_n, wm_tup, wm_lst, wm_bool, wm_notB, wm_andB, wm_orB, wm_and, wm_or, wm_if, wm_chain, wm_asInt, wm_noInt, wm_sl, wm_srcD, wm_srcN, wm_fmt, wm_js_nil, wm_js_cons, wm_tru, wm_strM, wm_mutL, wm_call, wm_comp, wc, EV.set, EV.kill, EV.kills, EV.put, EV.obj, EV.look, EV.looks, EV.objs, EV.key, EV.puts, argIx, argSl, gets, oD, oR, settled, List.set_cons_zero, List.set_cons_succ, List.getElem?_cons_zero, List.getElem?_cons_succ, List.replicate_succ, List.replicate_zero, List.map_cons, List.map_nil, List.length_cons, List.length_nil, List.nil_append, List.cons_append, Nat.reduceAdd, Nat.reduceSub, Nat.reduceLT, Nat.reduceLeDiff, List.nodup_cons, List.nodup_nil, List.not_mem_nil, not_false_eq_true, not_true_eq_false, and_self, and_true, true_and, and_false, false_and, if_true, if_false, reduceIte, Bool.false_eq_true, decide_eq_true_eq, decide_eq_false_iff_not, Bool.not_true, Bool.not_false, Bool.not_eq_true', Bool.not_eq_false', List.zip_cons_cons, List.zip_nil_right, List.zip_nil_left, List.foldl_cons, List.foldl_nil, tgN, tgT, tgT.go, tgL, mYes, wm_ret, List.headD_cons, addD, subD, mulD, modD, fdivD, powD, negD, cmpD, eqD, neD, isND, notND, isNone, lenD, intD, strD, listD, tupleD, ixD, min2D, max2D, appendM, popM, reverseM, clearM, rangeD1, rangeD, itemsD, truD, inKD, ixKD, splitD, joinD, slD, isiD, notD]
      rw [if_neg (by omega), later_eq]
      simp (decide := true) only [wf_seqZ, wf_seqL, wf_kill, wf_expr, wf_fret, wf_retN, wf_ifS, wf_setN, wf_setV, wf_setT, wf_par, wf_augI, wf_break, wf_cont, wf_thru, wf_raise, wf_tryAs, wm_xf, wm_is, wf_skip, wf_for, wm_var, wm_c, wm_frz, wm_frN, wm_nn, wm_un, wm_bin, wm_evs_nil, wm_evs_cons, wm_n, wm_tup, wm_lst, wm_bool, wm_notB, wm_andB, wm_orB, wm_and, wm_or, wm_if, wm_chain, wm_asInt, wm_noInt, wm_sl, wm_srcD, wm_srcN, wm_fmt, wm_js_nil, wm_js_cons, wm_tru, wm_strM, wm_mutL, wm_call, wm_comp, wc, EV.set, EV.kill, EV.kills, EV.put, EV.obj, EV.look, EV.looks, EV.objs, EV.key, EV.puts, argIx, argSl, gets, oD, oR, settled, List.set_cons_zero, List.set_cons_succ, List.getElem?_cons_zero, List.getElem?_cons_succ, List.replicate_succ, List.replicate_zero, List.map_cons, List.map_nil, List.length_cons, List.length_nil, List.nil_append, List.cons_append, Nat.reduceAdd, Nat.reduceSub, Nat.reduceLT, Nat.reduceLeDiff, List.nodup_cons, List.nodup_nil, List.not_mem_nil, not_false_eq_true, not_true_eq_false, and_self, and_true, true_and, and_false, false_and, if_true, if_false, reduceIte, Bool.false_eq_true, decide_eq_true_eq, decide_eq_false_iff_not, Bool.not_true, Bool.not_false, Bool.not_eq_true', Bool.not_eq_false', List.zip_cons_cons, List.zip_nil_right, List.zip_nil_left, List.foldl_cons, List.foldl_nil, tgN, tgT, tgT.go, tgL, mYes, wm_ret, List.headD_cons, addD, subD, mulD, modD, fdivD, powD, negD, cmpD, eqD, neD, isND, notND, isNone, lenD, intD, strD, listD, tupleD, ixD, min2D, max2D, appendM, popM, reverseM, clearM, rangeD1, rangeD, itemsD, truD, inKD, ixKD, splitD, joinD, slD, isiD, notD, at0, at1]
      by_cases e2 : a = "own" ∧ isPart b = true
      · have hE : ∀ ρ', E.rt (.v (.int 2)) ρ' := fun ρ' => by have := hE ρ'; rw [show tsz (a :: b :: r) = 2 by rw [tsz_two, if_neg e, if_pos e2]] at this; exact this
        have hi : (kd_PARTS.lookup b).isSome = true := e2.2
        simp (decide := true) only [wf_seqZ, wf_seqL, wf_kill, wf_expr, wf_fret, wf_retN, wf_ifS, wf_setN, wf_setV, wf_setT, wf_par, wf_augI, wf_break, wf_cont, wf_thru, wf_raise, wf_tryAs, wm_xf, wm_is, wf_skip, wf_for, wm_var, wm_c, wm_frz, wm_frN, wm_nn, wm_un, wm_bin, wm_evs_nil, wm_evs_cons, wm_n, wm_tup, wm_lst, wm_bool, wm_notB, wm_andB, wm_orB, wm_and, wm_or, wm_if, wm_chain, wm_asInt, wm_noInt, wm_sl, wm_srcD, wm_srcN, wm_fmt, wm_js_nil, wm_js_cons, wm_tru, wm_strM, wm_mutL, wm_call, wm_comp, wc, EV.set, EV.kill, EV.kills, EV.put, EV.obj, EV.look, EV.looks, EV.objs, EV.key, EV.puts, argIx, argSl, gets, oD, oR, settled, List.set_cons_zero, List.set_cons_succ, List.getElem?_cons_zero, List.getElem?_cons_succ, List.replicate_succ, List.replicate_zero, List.map_cons, List.map_nil, List.length_cons, List.length_nil, List.nil_append, List.cons_append, Nat.reduceAdd, Nat.reduceSub, Nat.reduceLT, Nat.reduceLeDiff, List.nodup_cons, List.nodup_nil, List.not_mem_nil, not_false_eq_true, not_true_eq_false, and_self, and_true, true_and, and_false, false_and, if_true, if_false, reduceIte, Bool.false_eq_true, decide_eq_true_eq, decide_eq_false_iff_not, Bool.not_true, Bool.not_false, Bool.not_eq_true', Bool.not_eq_false', List.zip_cons_cons, List.zip_nil_right, List.zip_nil_left, List.foldl_cons, List.foldl_nil, tgN, tgT, tgT.go, tgL, mYes, wm_ret, List.headD_cons, e2.1, hi]
        exact hE _
      · have go : later (fSeqL (fIfS (fAndB (fBool (fUn (inKD kd_PARTS) (fBin ixD (fVar 0) (fC (.int 0))))) (fBool (fFrN (fCall fb_is_name 2 [fNN (fBin ixD (fVar 0) (fC (.int 1)))]))))
              (fRet (fC (.int 2)))
              fSkip)
              rb_tally_size_1) E ⟨[some (.val (.lst (D.str a :: D.str b :: r.map D.str)))], []⟩ := by
          rw [later_eq]
          simp (decide := true) only [wf_seqZ, wf_seqL, wf_kill, wf_expr, wf_fret, wf_retN, wf_ifS, wf_setN, wf_setV, wf_setT, wf_par, wf_augI, wf_break, wf_cont, wf_thru, wf_raise, wf_tryAs, wm_xf, wm_is, wf_skip, wf_for, wm_var, wm_c, wm_frz, wm_frN, wm_nn, wm_un, wm_bin, wm_evs_nil, wm_evs_cons, wm_n, wm_tup, wm_lst, wm_bool, wm_notB, wm_andB, wm_orB, wm_and, wm_or, wm_if, wm_chain, wm_asInt, wm_noInt, wm_sl, wm_srcD, wm_srcN, wm_fmt, wm_js_nil, wm_js_cons, wm_tru, wm_strM, wm_mutL, wm_call, wm_comp, wc, EV.set, EV.kill, EV.kills, EV.put, EV.obj, EV.look, EV.looks, EV.objs, EV.key, EV.puts, argIx, argSl, gets, oD, oR, settled, List.set_cons_zero, List.set_cons_succ, List.getElem?_cons_zero, List.getElem?_cons_succ, List.replicate_succ, List.replicate_zero, List.map_cons, List.map_nil, List.length_cons, List.length_nil, List.nil_append, List.cons_append, Nat.reduceAdd, Nat.reduceSub, Nat.reduceLT, Nat.reduceLeDiff, List.nodup_cons, List.nodup_nil, List.not_mem_nil, not_false_eq_true, not_true_eq_false, and_self, and_true, true_and, and_false, false_and, if_true, if_false, reduceIte, Bool.false_eq_true, decide_eq_true_eq, decide_eq_false_iff_not, Bool.not_true, Bool.not_false, Bool.not_eq_true', Bool.not_eq_false', List.zip_cons_cons, List.zip_nil_right, List.zip_nil_left, List.foldl_cons, List.foldl_nil, tgN, tgT, tgT.go, tgL, mYes, wm_ret, List.headD_cons, addD, subD, mulD, modD, fdivD, powD, negD, cmpD, eqD, neD, isND, notND, isNone, lenD, intD, strD, listD, tupleD, ixD, min2D, max2D, appendM, popM, reverseM, clearM, rangeD1, rangeD, itemsD, truD, inKD, ixKD, splitD, joinD, slD, isiD, notD, at0, at1]
          cases hp : (kd_PARTS.lookup a).isSome with
          | false =>
            simp (decide := true) only [wf_seqZ, wf_seqL, wf_kill, wf_expr, wf_fret, wf_retN, wf_ifS, wf_setN, wf_setV, wf_setT, wf_par, wf_augI, wf_break, wf_cont, wf_thru, wf_raise, wf_tryAs, wm_xf, wm_is, wf_skip, wf_for, wm_var, wm_c, wm_frz, wm_frN, wm_nn, wm_un, wm_bin, wm_evs_nil, wm_evs_cons, wm_n, wm_tup, wm_lst, wm_bool, wm_notB, wm_andB, wm_orB, wm_and, wm_or, wm_if, wm_chain, wm_asInt, wm_noInt, wm_sl, wm_srcD, wm_srcN, wm_fmt, wm_js_nil, wm_js_cons, wm_tru, wm_strM, wm_mutL, wm_call, wm_comp, wc, EV.set, EV.kill, EV.kills, EV.put, EV.obj, EV.look, EV.looks, EV.objs, EV.key, EV.puts, argIx, argSl, gets, oD, oR, settled, List.set_cons_zero, List.set_cons_succ, List.getElem?_cons_zero, List.getElem?_cons_succ, List.replicate_succ, List.replicate_zero, List.map_cons, List.map_nil, List.length_cons, List.length_nil, List.nil_append, List.cons_append, Nat.reduceAdd, Nat.reduceSub, Nat.reduceLT, Nat.reduceLeDiff, List.nodup_cons, List.nodup_nil, List.not_mem_nil, not_false_eq_true, not_true_eq_false, and_self, and_true, true_and, and_false, false_and, if_true, if_false, reduceIte, Bool.false_eq_true, decide_eq_true_eq, decide_eq_false_iff_not, Bool.not_true, Bool.not_false, Bool.not_eq_true', Bool.not_eq_false', List.zip_cons_cons, List.zip_nil_right, List.zip_nil_left, List.foldl_cons, List.foldl_nil, tgN, tgT, tgT.go, tgL, mYes, wm_ret, List.headD_cons]
            unfold later rb_tally_size_1
            simp (decide := true) only [wf_seqZ, wf_seqL, wf_kill, wf_expr, wf_fret, wf_retN, wf_ifS, wf_setN, wf_setV, wf_setT, wf_par, wf_augI, wf_break, wf_cont, wf_thru, wf_raise, wf_tryAs, wm_xf, wm_is, wf_skip, wf_for, wm_var, wm_c, wm_frz, wm_frN, wm_nn, wm_un, wm_bin, wm_evs_nil, wm_evs_cons, wm_n, wm_tup, wm_lst, wm_bool, wm_notB, wm_andB, wm_orB, wm_and, wm_or, wm_if, wm_chain, wm_asInt, wm_noInt, wm_sl, wm_srcD, wm_srcN, wm_fmt, wm_js_nil, wm_js_cons, wm_tru, wm_strM, wm_mutL, wm_call, wm_comp, wc, EV.set, EV.kill, EV.kills, EV.put, EV.obj, EV.look, EV.looks, EV.objs, EV.key, EV.puts, argIx, argSl, gets, oD, oR, settled, List.set_cons_zero, List.set_cons_succ, List.getElem?_cons_zero, List.getElem?_cons_succ, List.replicate_succ, List.replicate_zero, List.map_cons, List.map_nil, List.length_cons, List.length_nil, List.nil_append, List.cons_append, Nat.reduceAdd, Nat.reduceSub, Nat.reduceLT, Nat.reduceLeDiff, List.nodup_cons, List.nodup_nil, List.not_mem_nil, not_false_eq_true, not_true_eq_false, and_self, and_true, true_and, and_false, false_and, if_true, if_false, reduceIte, Bool.false_eq_true, decide_eq_true_eq, decide_eq_false_iff_not, Bool.not_true, Bool.not_false, Bool.not_eq_true', Bool.not_eq_false', List.zip_cons_cons, List.zip_nil_right, List.zip_nil_left, List.foldl_cons, List.foldl_nil, tgN, tgT, tgT.go, tgL, mYes, wm_ret, List.headD_cons]
            have := hE ⟨[some (.val (.lst (D.str a :: D.str b :: r.map D.str)))], []⟩
            rw [show tsz (a :: b :: r) = 0 by rw [tsz_two, if_neg e, if_neg e2, if_neg (fun z => by have := z.1; unfold isPart at this; rw [hp] at this; cases this)]] at this
            exact this
          | true =>
            simp (decide := true) only [wf_seqZ, wf_seqL, wf_kill, wf_expr, wf_fret, wf_retN, wf_ifS, wf_setN, wf_setV, wf_setT, wf_par, wf_augI, wf_break, wf_cont, wf_thru, wf_raise, wf_tryAs, wm_xf, wm_is, wf_skip, wf_for, wm_var, wm_c, wm_frz, wm_frN, wm_nn, wm_un, wm_bin, wm_evs_nil, wm_evs_cons, wm_n, wm_tup, wm_lst, wm_bool, wm_notB, wm_andB, wm_orB, wm_and, wm_or, wm_if, wm_chain, wm_asInt, wm_noInt, wm_sl, wm_srcD, wm_srcN, wm_fmt, wm_js_nil, wm_js_cons, wm_tru, wm_strM, wm_mutL, wm_call, wm_comp, wc, EV.set, EV.kill, EV.kills, EV.put, EV.obj, EV.look, EV.looks, EV.objs, EV.key, EV.puts, argIx, argSl, gets, oD, oR, settled, List.set_cons_zero, List.set_cons_succ, List.getElem?_cons_zero, List.getElem?_cons_succ, List.replicate_succ, List.replicate_zero, List.map_cons, List.map_nil, List.length_cons, List.length_nil, List.nil_append, List.cons_append, Nat.reduceAdd, Nat.reduceSub, Nat.reduceLT, Nat.reduceLeDiff, List.nodup_cons, List.nodup_nil, List.not_mem_nil, not_false_eq_true, not_true_eq_false, and_self, and_true, true_and, and_false, false_and, if_true, if_false, reduceIte, Bool.false_eq_true, decide_eq_true_eq, decide_eq_false_iff_not, Bool.not_true, Bool.not_false, Bool.not_eq_true', Bool.not_eq_false', List.zip_cons_cons, List.zip_nil_right, List.zip_nil_left, List.foldl_cons, List.foldl_nil, tgN, tgT, tgT.go, tgL, mYes, wm_ret, List.headD_cons]
            refine is_name_tot hb.1 (by have := hb.2; omega) _ fun ρ' => ?_
            simp (decide := true) only [wf_seqZ, wf_seqL, wf_kill, wf_expr, wf_fret, wf_retN, wf_ifS, wf_setN, wf_setV, wf_setT, wf_par, wf_augI, wf_break, wf_cont, wf_thru, wf_raise, wf_tryAs, wm_xf, wm_is, wf_skip, wf_for, wm_var, wm_c, wm_frz, wm_frN, wm_nn, wm_un, wm_bin, wm_evs_nil, wm_evs_cons, wm_n, wm_tup, wm_lst, wm_bool, wm_notB, wm_andB, wm_orB, wm_and, wm_or, wm_if, wm_chain, wm_asInt, wm_noInt, wm_sl, wm_srcD, wm_srcN, wm_fmt, wm_js_nil, wm_js_cons, wm_tru, wm_strM, wm_mutL, wm_call, wm_comp, wc, EV.set, EV.kill, EV.kills, EV.put, EV.obj, EV.look, EV.looks, EV.objs, EV.key, EV.puts, argIx, argSl, gets, oD, oR, settled, List.set_cons_zero, List.set_cons_succ, List.getElem?_cons_zero, List.getElem?_cons_succ, List.replicate_succ, List.replicate_zero, List.map_cons, List.map_nil, List.length_cons, List.length_nil, List.nil_append, List.cons_append, Nat.reduceAdd, Nat.reduceSub, Nat.reduceLT, Nat.reduceLeDiff, List.nodup_cons, List.nodup_nil, List.not_mem_nil, not_false_eq_true, not_true_eq_false, and_self, and_true, true_and, and_false, false_and, if_true, if_false, reduceIte, Bool.false_eq_true, decide_eq_true_eq, decide_eq_false_iff_not, Bool.not_true, Bool.not_false, Bool.not_eq_true', Bool.not_eq_false', List.zip_cons_cons, List.zip_nil_right, List.zip_nil_left, List.foldl_cons, List.foldl_nil, tgN, tgT, tgT.go, tgL, mYes, wm_ret, List.headD_cons]
            cases hn : isNm b with
            | true =>
              simp (decide := true) only [wf_seqZ, wf_seqL, wf_kill, wf_expr, wf_fret, wf_retN, wf_ifS, wf_setN, wf_setV, wf_setT, wf_par, wf_augI, wf_break, wf_cont, wf_thru, wf_raise, wf_tryAs, wm_xf, wm_is, wf_skip, wf_for, wm_var, wm_c, wm_frz, wm_frN, wm_nn, wm_un, wm_bin, wm_evs_nil, wm_evs_cons, wm_n, wm_tup, wm_lst, wm_bool, wm_notB, wm_andB, wm_orB, wm_and, wm_or, wm_if, wm_chain, wm_asInt, wm_noInt, wm_sl, wm_srcD, wm_srcN, wm_fmt, wm_js_nil, wm_js_cons, wm_tru, wm_strM, wm_mutL, wm_call, wm_comp, wc, EV.set, EV.kill, EV.kills, EV.put, EV.obj, EV.look, EV.looks, EV.objs, EV.key, EV.puts, argIx, argSl, gets, oD, oR, settled, List.set_cons_zero, List.set_cons_succ, List.getElem?_cons_zero, List.getElem?_cons_succ, List.replicate_succ, List.replicate_zero, List.map_cons, List.map_nil, List.length_cons, List.length_nil, List.nil_append, List.cons_append, Nat.reduceAdd, Nat.reduceSub, Nat.reduceLT, Nat.reduceLeDiff, List.nodup_cons, List.nodup_nil, List.not_mem_nil, not_false_eq_true, not_true_eq_false, and_self, and_true, true_and, and_false, false_and, if_true, if_false, reduceIte, Bool.false_eq_true, decide_eq_true_eq, decide_eq_false_iff_not, Bool.not_true, Bool.not_false, Bool.not_eq_true', Bool.not_eq_false', List.zip_cons_cons, List.zip_nil_right, List.zip_nil_left, List.foldl_cons, List.foldl_nil, tgN, tgT, tgT.go, tgL, mYes, wm_ret, List.headD_cons]
              have := hE ⟨[some (.val (.lst (D.str a :: D.str b :: r.map D.str)))], []⟩
              rw [show tsz (a :: b :: r) = 2 by rw [tsz_two, if_neg e, if_neg e2, if_pos ⟨hp, hn⟩]] at this
              exact this
            | false =>
              simp (decide := true) only [wf_seqZ, wf_seqL, wf_kill, wf_expr, wf_fret, wf_retN, wf_ifS, wf_setN, wf_setV, wf_setT, wf_par, wf_augI, wf_break, wf_cont, wf_thru, wf_raise, wf_tryAs, wm_xf, wm_is, wf_skip, wf_for, wm_var, wm_c, wm_frz, wm_frN, wm_nn, wm_un, wm_bin, wm_evs_nil, wm_evs_cons, wm_n, wm_tup, wm_lst, wm_bool, wm_notB, wm_andB, wm_orB, wm_and, wm_or, wm_if, wm_chain, wm_asInt, wm_noInt, wm_sl, wm_srcD, wm_srcN, wm_fmt, wm_js_nil, wm_js_cons, wm_tru, wm_strM, wm_mutL, wm_call, wm_comp, wc, EV.set, EV.kill, EV.kills, EV.put, EV.obj, EV.look, EV.looks, EV.objs, EV.key, EV.puts, argIx, argSl, gets, oD, oR, settled, List.set_cons_zero, List.set_cons_succ, List.getElem?_cons_zero, List.getElem?_cons_succ, List.replicate_succ, List.replicate_zero, List.map_cons, List.map_nil, List.length_cons, List.length_nil, List.nil_append, List.cons_append, Nat.reduceAdd, Nat.reduceSub, Nat.reduceLT, Nat.reduceLeDiff, List.nodup_cons, List.nodup_nil, List.not_mem_nil, not_false_eq_true, not_true_eq_false, and_self, and_true, true_and, and_false, false_and, if_true, if_false, reduceIte, Bool.false_eq_true, decide_eq_true_eq, decide_eq_false_iff_not, Bool.not_true, Bool.not_false, Bool.not_eq_true', Bool.not_eq_false', List.zip_cons_cons, List.zip_nil_right, List.zip_nil_left, List.foldl_cons, List.foldl_nil, tgN, tgT, tgT.go, tgL, mYes, wm_ret, List.headD_cons]
              unfold later rb_tally_size_1
              simp (decide := true) only [wf_seqZ, wf_seqL, wf_kill, wf_expr, wf_fret, wf_retN, wf_ifS, wf_setN, wf_setV, wf_setT, wf_par, wf_augI, wf_break, wf_cont, wf_thru, wf_raise, wf_tryAs, wm_xf, wm_is, wf_skip, wf_for, wm_var, wm_c, wm_frz, wm_frN, wm_nn, wm_un, wm_bin, wm_evs_nil, wm_evs_cons, wm_n, wm_tup, wm_lst, wm_bool, wm_notB, wm_andB, wm_orB, wm_and, wm_or, wm_if, wm_chain, wm_asInt, wm_noInt, wm_sl, wm_srcD, wm_srcN, wm_fmt, wm_js_nil, wm_js_cons, wm_tru, wm_strM, wm_mutL, wm_call, wm_comp, wc, EV.set, EV.kill, EV.kills, EV.put, EV.obj, EV.look, EV.looks, EV.objs, EV.key, EV.puts, argIx, argSl, gets, oD, oR, settled, List.set_cons_zero, List.set_cons_succ, List.getElem?_cons_zero, List.getElem?_cons_succ, List.replicate_succ, List.replicate_zero, List.map_cons, List.map_nil, List.length_cons, List.length_nil, List.nil_append, List.cons_append, Nat.reduceAdd, Nat.reduceSub, Nat.reduceLT, Nat.reduceLeDiff, List.nodup_cons, List.nodup_nil, List.not_mem_nil, not_false_eq_true, not_true_eq_false, and_self, and_true, true_and, and_false, false_and, if_true, if_false, reduceIte, Bool.false_eq_true, decide_eq_true_eq, decide_eq_false_iff_not, Bool.not_true, Bool.not_false, Bool.not_eq_true', Bool.not_eq_false', List.zip_cons_cons, List.zip_nil_right, List.zip_nil_left, List.foldl_cons, List.foldl_nil, tgN, tgT, tgT.go, tgL, mYes, wm_ret, List.headD_cons]
              have := hE ⟨[some (.val (.lst (D.str a :: D.str b :: r.map D.str)))], []⟩
              rw [show tsz (a :: b :: r) = 0 by rw [tsz_two, if_neg e, if_neg e2, if_neg (fun z => by have := z.2; rw [hn] at this; cases this)]] at this
              exact this
        by_cases e3 : a = "own"
        · have hi : (kd_PARTS.lookup b).isSome = false := by
            cases z : (kd_PARTS.lookup b).isSome with
            | false => rfl
            | true => exact absurd ⟨e3, z⟩ e2
          rw [e3] at go ⊢
          simp (decide := true) only [wf_seqZ, wf_seqL, wf_kill, wf_expr, wf_fret, wf_retN, wf_ifS, wf_setN, wf_setV, wf_setT, wf_par, wf_augI, wf_break, wf_cont, wf_thru, wf_raise, wf_tryAs, wm_xf, wm_is, wf_skip, wf_for, wm_var, wm_c, wm_frz, wm_frN, wm_nn, wm_un, wm_bin, wm_evs_nil, wm_evs_cons, wm_n, wm_tup, wm_lst, wm_bool, wm_notB, wm_andB, wm_orB, wm_and, wm_or, wm_if, wm_chain, wm_asInt, wm_noInt, wm_sl, wm_srcD, wm_srcN, wm_fmt, wm_js_nil, wm_js_cons, wm_tru, wm_strM, wm_mutL, wm_call, wm_comp, wc, EV.set, EV.kill, EV.kills, EV.put, EV.obj, EV.look, EV.looks, EV.objs, EV.key, EV.puts, argIx, argSl, gets, oD, oR, settled, List.set_cons_zero, List.set_cons_succ, List.getElem?_cons_zero, List.getElem?_cons_succ, List.replicate_succ, List.replicate_zero, List.map_cons, List.map_nil, List.length_cons, List.length_nil, List.nil_append, List.cons_append, Nat.reduceAdd, Nat.reduceSub, Nat.reduceLT, Nat.reduceLeDiff, List.nodup_cons, List.nodup_nil, List.not_mem_nil, not_false_eq_true, not_true_eq_false, and_self, and_true, true_and, and_false, false_and, if_true, if_false, reduceIte, Bool.false_eq_true, decide_eq_true_eq, decide_eq_false_iff_not, Bool.not_true, Bool.not_false, Bool.not_eq_true', Bool.not_eq_false', List.zip_cons_cons, List.zip_nil_right, List.zip_nil_left, List.foldl_cons, List.foldl_nil, tgN, tgT, tgT.go, tgL, mYes, wm_ret, List.headD_cons, hi]
          exact go
        · simp (decide := true) only [wf_seqZ, wf_seqL, wf_kill, wf_expr, wf_fret, wf_retN, wf_ifS, wf_setN, wf_setV, wf_setT, wf_par, wf_augI, wf_break, wf_cont, wf_thru, wf_raise, wf_tryAs, wm_xf, wm_is, wf_skip, wf_for, wm_var, wm_c, wm_frz, wm_frN, wm_nn, wm_un, wm_bin, wm_evs_nil, wm_evs_cons, wm_n, wm_tup, wm_lst, wm_bool, wm_notB, wm_andB, wm_orB, wm_and, wm_or, wm_if, wm_chain, wm_asInt, wm_noInt, wm_sl, wm_srcD, wm_srcN, wm_fmt, wm_js_nil, wm_js_cons, wm_tru, wm_strM, wm_mutL, wm_call, wm_comp, wc, EV.set, EV.kill, EV.kills, EV.put, EV.obj, EV.look, EV.looks, EV.objs, EV.key, EV.puts, argIx, argSl, gets, oD, oR, settled, List.set_cons_zero, List.set_cons_succ, List.getElem?_cons_zero, List.getElem?_cons_succ, List.replicate_succ, List.replicate_zero, List.map_cons, List.map_nil, List.length_cons, List.length_nil, List.nil_append, List.cons_append, Nat.reduceAdd, Nat.reduceSub, Nat.reduceLT, Nat.reduceLeDiff, List.nodup_cons, List.nodup_nil, List.not_mem_nil, not_false_eq_true, not_true_eq_false, and_self, and_true, true_and, and_false, false_and, if_true, if_false, reduceIte, Bool.false_eq_true, decide_eq_true_eq, decide_eq_false_iff_not, Bool.not_true, Bool.not_false, Bool.not_eq_true', Bool.not_eq_false', List.zip_cons_cons, List.zip_nil_right, List.zip_nil_left, List.foldl_cons, List.foldl_nil, tgN, tgT, tgT.go, tgL, mYes, wm_ret, List.headD_cons, e3]
          exact go
theorem mode_in {m : Str} (h : m ∈ (["taken", "seen"] : List Str)) : notInD (.str m) (.tup [.str "taken", .str "seen"]) = some (.v (.bl false)) := by
  rcases mem_two h with rfl | rfl <;> rfl
theorem sign_in {m : Str} (h : m ∈ (["<", ">="] : List Str)) : notInD (.str m) (.tup [.str "<", .str ">="]) = some (.v (.bl false)) := by
  rcases mem_two h with rfl | rfl <;> rfl
theorem num_in {i : Int} (h : 1 ≤ i ∧ i ≤ 4) : notInD (.str (numS i)) (.tup [.str "1", .str "2", .str "3", .str "4"]) = some (.v (.bl false)) := by
  rcases num_cases h with rfl | rfl | rfl | rfl <;> rfl
theorem num_read {i : Int} (h : 1 ≤ i ∧ i ≤ 4) : intText? (numS i) = some i := by
  rcases num_cases h with rfl | rfl | rfl | rfl <;> decide +kernel
theorem num_short {i : Int} (h : 1 ≤ i ∧ i ≤ 4) : (numS i).length ≤ 640 := Nat.le_trans (num_cw h).2.1 (by decide)
theorem cut15 {α : Type} (a b c d e : α) (l : List α) : cutD (a :: b :: c :: d :: e :: l) (some 1) (some 5) = [b, c, d, e] := by
  rw [cut_mid _ (by decide) (by decide)]
  rfl
theorem cut16 {α : Type} (a b c d e f : α) (l : List α) : cutD (a :: b :: c :: d :: e :: f :: l) (some 1) (some 6) = [b, c, d, e, f] := by
  rw [cut_mid _ (by decide) (by decide)]
  rfl
theorem cut5 {α : Type} (a b c d e : α) (l : List α) : cutD (a :: b :: c :: d :: e :: l) (some 5) none = l := by
  rw [cut_from _ (by decide)]
  rfl
theorem cut6 {α : Type} (a b c d e f : α) (l : List α) : cutD (a :: b :: c :: d :: e :: f :: l) (some 6) none = l := by
  rw [cut_from _ (by decide)]
  rfl
theorem inner4 {α : Type} (a b c d : α) : cutD [a, b, c, d] (some 1) (some (-2)) = [b] := by
  rw [cut_neg _ (by decide) (by decide) (by simp only [List.length_cons, List.length_nil]; omega)]
  rfl
theorem inner5 {α : Type} (a b c d e : α) : cutD [a, b, c, d, e] (some 1) (some (-2)) = [b, c] := by
  rw [cut_neg _ (by decide) (by decide) (by simp only [List.length_cons, List.length_nil]; omega)]
  rfl
theorem m2_4 {α : Type} (a b c d : α) : atI [a, b, c, d] (-2) = some c := rfl
theorem m1_4 {α : Type} (a b c d : α) : atI [a, b, c, d] (-1) = some d := rfl
theorem m2_5 {α : Type} (a b c d e : α) : atI [a, b, c, d, e] (-2) = some d := rfl
theorem m1_5 {α : Type} (a b c d e : α) : atI [a, b, c, d, e] (-1) = some e := rfl
theorem cond_four {mode sign : Str} {num : Int} {x : Str} (hm : mode ∈ (["taken", "seen"] : List Str)) (hs : sign ∈ (["<", ">="] : List Str)) (hn : 1 ≤ num ∧ num ≤ 4) (j : Str) (done : List D) (hz : szOk (done.length + 1)) (W : List D) (E : Ko)
    (hE : E.nx ⟨[some (.val (.lst W)), some (.own (.lst (done ++ [.tup [.str mode, .tup [.str x], .str sign, .int num]]))), some (.val (.str "and")), none, none, none, none, none], []⟩) :
    later rb_read_conditions_1 ⟨fun ρ2 => E.nx (ρ2.kills [3, 4, 5, 6, 7]), E.rt, E.bk, E.ct, E.ex⟩ ⟨[some (.val (.lst (.str j :: .str mode :: .str x :: .str sign :: .str (numS num) :: W))), some (.own (.lst done)), some (.val (.str j)), some (.val (.int 1)), none, none, none, none], []⟩ := by
  have h1 := mode_in hm
  have h2 := sign_in hs
  have h3 := num_in hn
  have h4 := num_read hn
  have h5 := num_short hn
  unfold later rb_read_conditions_1
  simp (decide := true) only [wf_seqZ, wf_seqL, wf_kill, wf_expr, wf_fret, wf_retN, wf_ifS, wf_setN, wf_setV, wf_setT, wf_par, wf_augI, wf_break, wf_cont, wf_thru, wf_raise, wf_tryAs, wm_xf, wm_is, wf_skip, wf_for, wm_var, wm_c, wm_frz, wm_frN, wm_nn, wm_un, wm_bin, wm_evs_nil, wm_evs_cons, wm_n, wm_tup, wm_lst, wm_bool, wm_notB, wm_andB, wm_orB, wm_and, wm_or, wm_if, wm_chain, wm_asInt, wm_noInt, wm_sl, wm_srcD, wm_srcN, wm_fmt, wm_js_nil, wm_js_cons, wm_tru, wm_strM, wm_mutL, wm_call, wm_comp, wc, EV.set, EV.kill, EV.kills, EV.put, EV.obj, EV.look, EV.looks, EV.objs, EV.key, EV.puts, argIx, argSl, gets, oD, oR, settled, List.set_cons_zero, List.set_cons_succ, List.getElem?_cons_zero, List.getElem?_cons_succ, List.replicate_succ, List.replicate_zero, List.map_cons, List.map_nil, List.length_cons, List.length_nil, List.nil_append, List.cons_append, Nat.reduceAdd, Nat.reduceSub, Nat.reduceLT, Nat.reduceLeDiff, List.nodup_cons, List.nodup_nil, List.not_mem_nil, not_false_eq_true, not_true_eq_false, and_self, and_true, true_and, and_false, false_and, if_true, if_false, reduceIte, Bool.false_eq_true, decide_eq_true_eq, decide_eq_false_iff_not, Bool.not_true, Bool.not_false, Bool.not_eq_true', Bool.not_eq_false', List.zip_cons_cons, List.zip_nil_right, List.zip_nil_left, List.foldl_cons, List.foldl_nil, tgN, tgT, tgT.go, tgL, mYes, wm_ret, List.headD_cons, slD, addD, Int.reduceAdd, cut15]
  rw [later_eq]
  simp (decide := true) only [wf_seqZ, wf_seqL, wf_kill, wf_expr, wf_fret, wf_retN, wf_ifS, wf_setN, wf_setV, wf_setT, wf_par, wf_augI, wf_break, wf_cont, wf_thru, wf_raise, wf_tryAs, wm_xf, wm_is, wf_skip, wf_for, wm_var, wm_c, wm_frz, wm_frN, wm_nn, wm_un, wm_bin, wm_evs_nil, wm_evs_cons, wm_n, wm_tup, wm_lst, wm_bool, wm_notB, wm_andB, wm_orB, wm_and, wm_or, wm_if, wm_chain, wm_asInt, wm_noInt, wm_sl, wm_srcD, wm_srcN, wm_fmt, wm_js_nil, wm_js_cons, wm_tru, wm_strM, wm_mutL, wm_call, wm_comp, wc, EV.set, EV.kill, EV.kills, EV.put, EV.obj, EV.look, EV.looks, EV.objs, EV.key, EV.puts, argIx, argSl, gets, oD, oR, settled, List.set_cons_zero, List.set_cons_succ, List.getElem?_cons_zero, List.getElem?_cons_succ, List.replicate_succ, List.replicate_zero, List.map_cons, List.map_nil, List.length_cons, List.length_nil, List.nil_append, List.cons_append, Nat.reduceAdd, Nat.reduceSub, Nat.reduceLT, Nat.reduceLeDiff, List.nodup_cons, List.nodup_nil, List.not_mem_nil, not_false_eq_true, not_true_eq_false, and_self, and_true, true_and, and_false, false_and, if_true, if_false, reduceIte, Bool.false_eq_true, decide_eq_true_eq, decide_eq_false_iff_not, Bool.not_true, Bool.not_false, Bool.not_eq_true', Bool.not_eq_false', List.zip_cons_cons, List.zip_nil_right, List.zip_nil_left, List.foldl_cons, List.foldl_nil, tgN, tgT, tgT.go, tgL, mYes, wm_ret, List.headD_cons, addD, subD, mulD, modD, fdivD, powD, negD, cmpD, eqD, neD, isND, notND, isNone, lenD, intD, strD, listD, tupleD, ixD, min2D, max2D, appendM, popM, reverseM, clearM, rangeD1, rangeD, itemsD, truD, inKD, ixKD, splitD, joinD, slD, isiD, notD, at0, Int.reduceAdd, Int.ofNat_eq_natCast, Int.reduceEq]
  rw [later_eq]
  simp (decide := true) only [wf_seqZ, wf_seqL, wf_kill, wf_expr, wf_fret, wf_retN, wf_ifS, wf_setN, wf_setV, wf_setT, wf_par, wf_augI, wf_break, wf_cont, wf_thru, wf_raise, wf_tryAs, wm_xf, wm_is, wf_skip, wf_for, wm_var, wm_c, wm_frz, wm_frN, wm_nn, wm_un, wm_bin, wm_evs_nil, wm_evs_cons, wm_n, wm_tup, wm_lst, wm_bool, wm_notB, wm_andB, wm_orB, wm_and, wm_or, wm_if, wm_chain, wm_asInt, wm_noInt, wm_sl, wm_srcD, wm_srcN, wm_fmt, wm_js_nil, wm_js_cons, wm_tru, wm_strM, wm_mutL, wm_call, wm_comp, wc, EV.set, EV.kill, EV.kills, EV.put, EV.obj, EV.look, EV.looks, EV.objs, EV.key, EV.puts, argIx, argSl, gets, oD, oR, settled, List.set_cons_zero, List.set_cons_succ, List.getElem?_cons_zero, List.getElem?_cons_succ, List.replicate_succ, List.replicate_zero, List.map_cons, List.map_nil, List.length_cons, List.length_nil, List.nil_append, List.cons_append, Nat.reduceAdd, Nat.reduceSub, Nat.reduceLT, Nat.reduceLeDiff, List.nodup_cons, List.nodup_nil, List.not_mem_nil, not_false_eq_true, not_true_eq_false, and_self, and_true, true_and, and_false, false_and, if_true, if_false, reduceIte, Bool.false_eq_true, decide_eq_true_eq, decide_eq_false_iff_not, Bool.not_true, Bool.not_false, Bool.not_eq_true', Bool.not_eq_false', List.zip_cons_cons, List.zip_nil_right, List.zip_nil_left, List.foldl_cons, List.foldl_nil, tgN, tgT, tgT.go, tgL, mYes, wm_ret, List.headD_cons, addD, subD, mulD, modD, fdivD, powD, negD, cmpD, eqD, neD, isND, notND, isNone, lenD, intD, strD, listD, tupleD, ixD, min2D, max2D, appendM, popM, reverseM, clearM, rangeD1, rangeD, itemsD, truD, inKD, ixKD, splitD, joinD, slD, isiD, notD, at0, Int.reduceNeg, m2_4, m1_4]
  rw [later_eq]
  simp (decide := true) only [wf_seqZ, wf_seqL, wf_kill, wf_expr, wf_fret, wf_retN, wf_ifS, wf_setN, wf_setV, wf_setT, wf_par, wf_augI, wf_break, wf_cont, wf_thru, wf_raise, wf_tryAs, wm_xf, wm_is, wf_skip, wf_for, wm_var, wm_c, wm_frz, wm_frN, wm_nn, wm_un, wm_bin, wm_evs_nil, wm_evs_cons, wm_n, wm_tup, wm_lst, wm_bool, wm_notB, wm_andB, wm_orB, wm_and, wm_or, wm_if, wm_chain, wm_asInt, wm_noInt, wm_sl, wm_srcD, wm_srcN, wm_fmt, wm_js_nil, wm_js_cons, wm_tru, wm_strM, wm_mutL, wm_call, wm_comp, wc, EV.set, EV.kill, EV.kills, EV.put, EV.obj, EV.look, EV.looks, EV.objs, EV.key, EV.puts, argIx, argSl, gets, oD, oR, settled, List.set_cons_zero, List.set_cons_succ, List.getElem?_cons_zero, List.getElem?_cons_succ, List.replicate_succ, List.replicate_zero, List.map_cons, List.map_nil, List.length_cons, List.length_nil, List.nil_append, List.cons_append, Nat.reduceAdd, Nat.reduceSub, Nat.reduceLT, Nat.reduceLeDiff, List.nodup_cons, List.nodup_nil, List.not_mem_nil, not_false_eq_true, not_true_eq_false, and_self, and_true, true_and, and_false, false_and, if_true, if_false, reduceIte, Bool.false_eq_true, decide_eq_true_eq, decide_eq_false_iff_not, Bool.not_true, Bool.not_false, Bool.not_eq_true', Bool.not_eq_false', List.zip_cons_cons, List.zip_nil_right, List.zip_nil_left, List.foldl_cons, List.foldl_nil, tgN, tgT, tgT.go, tgL, mYes, wm_ret, List.headD_cons, h1, h2, h3]
  rw [later_eq]
  simp (decide := true) only [wf_seqZ, wf_seqL, wf_kill, wf_expr, wf_fret, wf_retN, wf_ifS, wf_setN, wf_setV, wf_setT, wf_par, wf_augI, wf_break, wf_cont, wf_thru, wf_raise, wf_tryAs, wm_xf, wm_is, wf_skip, wf_for, wm_var, wm_c, wm_frz, wm_frN, wm_nn, wm_un, wm_bin, wm_evs_nil, wm_evs_cons, wm_n, wm_tup, wm_lst, wm_bool, wm_notB, wm_andB, wm_orB, wm_and, wm_or, wm_if, wm_chain, wm_asInt, wm_noInt, wm_sl, wm_srcD, wm_srcN, wm_fmt, wm_js_nil, wm_js_cons, wm_tru, wm_strM, wm_mutL, wm_call, wm_comp, wc, EV.set, EV.kill, EV.kills, EV.put, EV.obj, EV.look, EV.looks, EV.objs, EV.key, EV.puts, argIx, argSl, gets, oD, oR, settled, List.set_cons_zero, List.set_cons_succ, List.getElem?_cons_zero, List.getElem?_cons_succ, List.replicate_succ, List.replicate_zero, List.map_cons, List.map_nil, List.length_cons, List.length_nil, List.nil_append, List.cons_append, Nat.reduceAdd, Nat.reduceSub, Nat.reduceLT, Nat.reduceLeDiff, List.nodup_cons, List.nodup_nil, List.not_mem_nil, not_false_eq_true, not_true_eq_false, and_self, and_true, true_and, and_false, false_and, if_true, if_false, reduceIte, Bool.false_eq_true, decide_eq_true_eq, decide_eq_false_iff_not, Bool.not_true, Bool.not_false, Bool.not_eq_true', Bool.not_eq_false', List.zip_cons_cons, List.zip_nil_right, List.zip_nil_left, List.foldl_cons, List.foldl_nil, tgN, tgT, tgT.go, tgL, mYes, wm_ret, List.headD_cons, addD, subD, mulD, modD, fdivD, powD, negD, cmpD, eqD, neD, isND, notND, isNone, lenD, intD, strD, listD, tupleD, ixD, min2D, max2D, appendM, popM, reverseM, clearM, rangeD1, rangeD, itemsD, truD, inKD, ixKD, splitD, joinD, slD, isiD, notD, Int.reduceNeg, inner4, h4, h5, hz]
  rw [later_eq]
  simp (decide := true) only [wf_seqZ, wf_seqL, wf_kill, wf_expr, wf_fret, wf_retN, wf_ifS, wf_setN, wf_setV, wf_setT, wf_par, wf_augI, wf_break, wf_cont, wf_thru, wf_raise, wf_tryAs, wm_xf, wm_is, wf_skip, wf_for, wm_var, wm_c, wm_frz, wm_frN, wm_nn, wm_un, wm_bin, wm_evs_nil, wm_evs_cons, wm_n, wm_tup, wm_lst, wm_bool, wm_notB, wm_andB, wm_orB, wm_and, wm_or, wm_if, wm_chain, wm_asInt, wm_noInt, wm_sl, wm_srcD, wm_srcN, wm_fmt, wm_js_nil, wm_js_cons, wm_tru, wm_strM, wm_mutL, wm_call, wm_comp, wc, EV.set, EV.kill, EV.kills, EV.put, EV.obj, EV.look, EV.looks, EV.objs, EV.key, EV.puts, argIx, argSl, gets, oD, oR, settled, List.set_cons_zero, List.set_cons_succ, List.getElem?_cons_zero, List.getElem?_cons_succ, List.replicate_succ, List.replicate_zero, List.map_cons, List.map_nil, List.length_cons, List.length_nil, List.nil_append, List.cons_append, Nat.reduceAdd, Nat.reduceSub, Nat.reduceLT, Nat.reduceLeDiff, List.nodup_cons, List.nodup_nil, List.not_mem_nil, not_false_eq_true, not_true_eq_false, and_self, and_true, true_and, and_false, false_and, if_true, if_false, reduceIte, Bool.false_eq_true, decide_eq_true_eq, decide_eq_false_iff_not, Bool.not_true, Bool.not_false, Bool.not_eq_true', Bool.not_eq_false', List.zip_cons_cons, List.zip_nil_right, List.zip_nil_left, List.foldl_cons, List.foldl_nil, tgN, tgT, tgT.go, tgL, mYes, wm_ret, List.headD_cons, addD, subD, mulD, modD, fdivD, powD, negD, cmpD, eqD, neD, isND, notND, isNone, lenD, intD, strD, listD, tupleD, ixD, min2D, max2D, appendM, popM, reverseM, clearM, rangeD1, rangeD, itemsD, truD, inKD, ixKD, splitD, joinD, slD, isiD, notD, Int.reduceAdd, cut5]
  rw [later_eq]
  simp (decide := true) only [wf_seqZ, wf_seqL, wf_kill, wf_expr, wf_fret, wf_retN, wf_ifS, wf_setN, wf_setV, wf_setT, wf_par, wf_augI, wf_break, wf_cont, wf_thru, wf_raise, wf_tryAs, wm_xf, wm_is, wf_skip, wf_for, wm_var, wm_c, wm_frz, wm_frN, wm_nn, wm_un, wm_bin, wm_evs_nil, wm_evs_cons, wm_n, wm_tup, wm_lst, wm_bool, wm_notB, wm_andB, wm_orB, wm_and, wm_or, wm_if, wm_chain, wm_asInt, wm_noInt, wm_sl, wm_srcD, wm_srcN, wm_fmt, wm_js_nil, wm_js_cons, wm_tru, wm_strM, wm_mutL, wm_call, wm_comp, wc, EV.set, EV.kill, EV.kills, EV.put, EV.obj, EV.look, EV.looks, EV.objs, EV.key, EV.puts, argIx, argSl, gets, oD, oR, settled, List.set_cons_zero, List.set_cons_succ, List.getElem?_cons_zero, List.getElem?_cons_succ, List.replicate_succ, List.replicate_zero, List.map_cons, List.map_nil, List.length_cons, List.length_nil, List.nil_append, List.cons_append, Nat.reduceAdd, Nat.reduceSub, Nat.reduceLT, Nat.reduceLeDiff, List.nodup_cons, List.nodup_nil, List.not_mem_nil, not_false_eq_true, not_true_eq_false, and_self, and_true, true_and, and_false, false_and, if_true, if_false, reduceIte, Bool.false_eq_true, decide_eq_true_eq, decide_eq_false_iff_not, Bool.not_true, Bool.not_false, Bool.not_eq_true', Bool.not_eq_false', List.zip_cons_cons, List.zip_nil_right, List.zip_nil_left, List.foldl_cons, List.foldl_nil, tgN, tgT, tgT.go, tgL, mYes, wm_ret, List.headD_cons]
  exact hE
theorem cond_five {mode sign : Str} {num : Int} {x y : Str} (hm : mode ∈ (["taken", "seen"] : List Str)) (hs : sign ∈ (["<", ">="] : List Str)) (hn : 1 ≤ num ∧ num ≤ 4) (j : Str) (done : List D) (hz : szOk (done.length + 1)) (W : List D) (E : Ko)
    (hE : E.nx ⟨[some (.val (.lst W)), some (.own (.lst (done ++ [.tup [.str mode, .tup [.str x, .str y], .str sign, .int num]]))), some (.val (.str "and")), none, none, none, none, none], []⟩) :
    later rb_read_conditions_1 ⟨fun ρ2 => E.nx (ρ2.kills [3, 4, 5, 6, 7]), E.rt, E.bk, E.ct, E.ex⟩ ⟨[some (.val (.lst (.str j :: .str mode :: .str x :: .str y :: .str sign :: .str (numS num) :: W))), some (.own (.lst done)), some (.val (.str j)), some (.val (.int 2)), none, none, none, none], []⟩ := by
  have h1 := mode_in hm
  have h2 := sign_in hs
  have h3 := num_in hn
  have h4 := num_read hn
  have h5 := num_short hn
  unfold later rb_read_conditions_1
  simp (decide := true) only [wf_seqZ, wf_seqL, wf_kill, wf_expr, wf_fret, wf_retN, wf_ifS, wf_setN, wf_setV, wf_setT, wf_par, wf_augI, wf_break, wf_cont, wf_thru, wf_raise, wf_tryAs, wm_xf, wm_is, wf_skip, wf_for, wm_var, wm_c, wm_frz, wm_frN, wm_nn, wm_un, wm_bin, wm_evs_nil, wm_evs_cons, wm_n, wm_tup, wm_lst, wm_bool, wm_notB, wm_andB, wm_orB, wm_and, wm_or, wm_if, wm_chain, wm_asInt, wm_noInt, wm_sl, wm_srcD, wm_srcN, wm_fmt, wm_js_nil, wm_js_cons, wm_tru, wm_strM, wm_mutL, wm_call, wm_comp, wc, EV.set, EV.kill, EV.kills, EV.put, EV.obj, EV.look, EV.looks, EV.objs, EV.key, EV.puts, argIx, argSl, gets, oD, oR, settled, List.set_cons_zero, List.set_cons_succ, List.getElem?_cons_zero, List.getElem?_cons_succ, List.replicate_succ, List.replicate_zero, List.map_cons, List.map_nil, List.length_cons, List.length_nil, List.nil_append, List.cons_append, Nat.reduceAdd, Nat.reduceSub, Nat.reduceLT, Nat.reduceLeDiff, List.nodup_cons, List.nodup_nil, List.not_mem_nil, not_false_eq_true, not_true_eq_false, and_self, and_true, true_and, and_false, false_and, if_true, if_false, reduceIte, Bool.false_eq_true, decide_eq_true_eq, decide_eq_false_iff_not, Bool.not_true, Bool.not_false, Bool.not_eq_true', Bool.not_eq_false', List.zip_cons_cons, List.zip_nil_right, List.zip_nil_left, List.foldl_cons, List.foldl_nil, tgN, tgT, tgT.go, tgL, mYes, wm_ret, List.headD_cons, slD, addD, Int.reduceAdd, cut16]
  rw [later_eq]
  simp (decide := true) only [wf_seqZ, wf_seqL, wf_kill, wf_expr, wf_fret, wf_retN, wf_ifS, wf_setN, wf_setV, wf_setT, wf_par, wf_augI, wf_break, wf_cont, wf_thru, wf_raise, wf_tryAs, wm_xf, wm_is, wf_skip, wf_for, wm_var, wm_c, wm_frz, wm_frN, wm_nn, wm_un, wm_bin, wm_evs_nil, wm_evs_cons, wm_n, wm_tup, wm_lst, wm_bool, wm_notB, wm_andB, wm_orB, wm_and, wm_or, wm_if, wm_chain, wm_asInt, wm_noInt, wm_sl, wm_srcD, wm_srcN, wm_fmt, wm_js_nil, wm_js_cons, wm_tru, wm_strM, wm_mutL, wm_call, wm_comp, wc, EV.set, EV.kill, EV.kills, EV.put, EV.obj, EV.look, EV.looks, EV.objs, EV.key, EV.puts, argIx, argSl, gets, oD, oR, settled, List.set_cons_zero, List.set_cons_succ, List.getElem?_cons_zero, List.getElem?_cons_succ, List.replicate_succ, List.replicate_zero, List.map_cons, List.map_nil, List.length_cons, List.length_nil, List.nil_append, List.cons_append, Nat.reduceAdd, Nat.reduceSub, Nat.reduceLT, Nat.reduceLeDiff, List.nodup_cons, List.nodup_nil, List.not_mem_nil, not_false_eq_true, not_true_eq_false, and_self, and_true, true_and, and_false, false_and, if_true, if_false, reduceIte, Bool.false_eq_true, decide_eq_true_eq, decide_eq_false_iff_not, Bool.not_true, Bool.not_false, Bool.not_eq_true', Bool.not_eq_false', List.zip_cons_cons, List.zip_nil_right, List.zip_nil_left, List.foldl_cons, List.foldl_nil, tgN, tgT, tgT.go, tgL, mYes, wm_ret, List.headD_cons, addD, subD, mulD, modD, fdivD, powD, negD, cmpD, eqD, neD, isND, notND, isNone, lenD, intD, strD, listD, tupleD, ixD, min2D, max2D, appendM, popM, reverseM, clearM, rangeD1, rangeD, itemsD, truD, inKD, ixKD, splitD, joinD, slD, isiD, notD, at0, Int.reduceAdd, Int.ofNat_eq_natCast, Int.reduceEq]
  rw [later_eq]
  simp (decide := true) only [wf_seqZ, wf_seqL, wf_kill, wf_expr, wf_fret, wf_retN, wf_ifS, wf_setN, wf_setV, wf_setT, wf_par, wf_augI, wf_break, wf_cont, wf_thru, wf_raise, wf_tryAs, wm_xf, wm_is, wf_skip, wf_for, wm_var, wm_c, wm_frz, wm_frN, wm_nn, wm_un, wm_bin, wm_evs_nil, wm_evs_cons, wm_n, wm_tup, wm_lst, wm_bool, wm_notB, wm_andB, wm_orB, wm_and, wm_or, wm_if, wm_chain, wm_asInt, wm_noInt, wm_sl, wm_srcD, wm_srcN, wm_fmt, wm_js_nil, wm_js_cons, wm_tru, wm_strM, wm_mutL, wm_call, wm_comp, wc, EV.set, EV.kill, EV.kills, EV.put, EV.obj, EV.look, EV.looks, EV.objs, EV.key, EV.puts, argIx, argSl, gets, oD, oR, settled, List.set_cons_zero, List.set_cons_succ, List.getElem?_cons_zero, List.getElem?_cons_succ, List.replicate_succ, List.replicate_zero, List.map_cons, List.map_nil, List.length_cons, List.length_nil, List.nil_append, List.cons_append, Nat.reduceAdd, Nat.reduceSub, Nat.reduceLT, Nat.reduceLeDiff, List.nodup_cons, List.nodup_nil, List.not_mem_nil, not_false_eq_true, not_true_eq_false, and_self, and_true, true_and, and_false, false_and, if_true, if_false, reduceIte, Bool.false_eq_true, decide_eq_true_eq, decide_eq_false_iff_not, Bool.not_true, Bool.not_false, Bool.not_eq_true', Bool.not_eq_false', List.zip_cons_cons, List.zip_nil_right, List.zip_nil_left, List.foldl_cons, List.foldl_nil, tgN, tgT, tgT.go, tgL, mYes, wm_ret, List.headD_cons, addD, subD, mulD, modD, fdivD, powD, negD, cmpD, eqD, neD, isND, notND, isNone, lenD, intD, strD, listD, tupleD, ixD, min2D, max2D, appendM, popM, reverseM, clearM, rangeD1, rangeD, itemsD, truD, inKD, ixKD, splitD, joinD, slD, isiD, notD, at0, Int.reduceNeg, m2_5, m1_5]
  rw [later_eq]
  simp (decide := true) only [wf_seqZ, wf_seqL, wf_kill, wf_expr, wf_fret, wf_retN, wf_ifS, wf_setN, wf_setV, wf_setT, wf_par, wf_augI, wf_break, wf_cont, wf_thru, wf_raise, wf_tryAs, wm_xf, wm_is, wf_skip, wf_for, wm_var, wm_c, wm_frz, wm_frN, wm_nn, wm_un, wm_bin, wm_evs_nil, wm_evs_cons, wm_n, wm_tup, wm_lst, wm_bool, wm_notB, wm_andB, wm_orB, wm_and, wm_or, wm_if, wm_chain, wm_asInt, wm_noInt, wm_sl, wm_srcD, wm_srcN, wm_fmt, wm_js_nil, wm_js_cons, wm_tru, wm_strM, wm_mutL, wm_call, wm_comp, wc, EV.set, EV.kill, EV.kills, EV.put, EV.obj, EV.look, EV.looks, EV.objs, EV.key, EV.puts, argIx, argSl, gets, oD, oR, settled, List.set_cons_zero, List.set_cons_succ, List.getElem?_cons_zero, List.getElem?_cons_succ, List.replicate_succ, List.replicate_zero, List.map_cons, List.map_nil, List.length_cons, List.length_nil, List.nil_append, List.cons_append, Nat.reduceAdd, Nat.reduceSub, Nat.reduceLT, Nat.reduceLeDiff, List.nodup_cons, List.nodup_nil, List.not_mem_nil, not_false_eq_true, not_true_eq_false, and_self, and_true, true_and, and_false, false_and, if_true, if_false, reduceIte, Bool.false_eq_true, decide_eq_true_eq, decide_eq_false_iff_not, Bool.not_true, Bool.not_false, Bool.not_eq_true', Bool.not_eq_false', List.zip_cons_cons, List.zip_nil_right, List.zip_nil_left, List.foldl_cons, List.foldl_nil, tgN, tgT, tgT.go, tgL, mYes, wm_ret, List.headD_cons, h1, h2, h3]
  rw [later_eq]
  simp (decide := true) only [wf_seqZ, wf_seqL, wf_kill, wf_expr, wf_fret, wf_retN, wf_ifS, wf_setN, wf_setV, wf_setT, wf_par, wf_augI, wf_break, wf_cont, wf_thru, wf_raise, wf_tryAs, wm_xf, wm_is, wf_skip, wf_for, wm_var, wm_c, wm_frz, wm_frN, wm_nn, wm_un, wm_bin, wm_evs_nil, wm_evs_cons, wm_n, wm_tup, wm_lst, wm_bool, wm_notB, wm_andB, wm_orB, wm_and, wm_or, wm_if, wm_chain, wm_asInt, wm_noInt, wm_sl, wm_srcD, wm_srcN, wm_fmt, wm_js_nil, wm_js_cons, wm_tru, wm_strM, wm_mutL, wm_call, wm_comp, wc, EV.set, EV.kill, EV.kills, EV.put, EV.obj, EV.look, EV.looks, EV.objs, EV.key, EV.puts, argIx, argSl, gets, oD, oR, settled, List.set_cons_zero, List.set_cons_succ, List.getElem?_cons_zero, List.getElem?_cons_succ, List.replicate_succ, List.replicate_zero, List.map_cons, List.map_nil, List.length_cons, List.length_nil, List.nil_append, List.cons_append, Nat.reduceAdd, Nat.reduceSub, Nat.reduceLT, Nat.reduceLeDiff, List.nodup_cons, List.nodup_nil, List.not_mem_nil, not_false_eq_true, not_true_eq_false, and_self, and_true, true_and, and_false, false_and, if_true, if_false, reduceIte, Bool.false_eq_true, decide_eq_true_eq, decide_eq_false_iff_not, Bool.not_true, Bool.not_false, Bool.not_eq_true', Bool.not_eq_false', List.zip_cons_cons, List.zip_nil_right, List.zip_nil_left, List.foldl_cons, List.foldl_nil, tgN, tgT, tgT.go, tgL, mYes, wm_ret, List.headD_cons, addD, subD, mulD, modD, fdivD, powD, negD, cmpD, eqD, neD, isND, notND, isNone, lenD, intD, strD, listD, tupleD, ixD, min2D, max2D, appendM, popM, reverseM, clearM, rangeD1, rangeD, itemsD, truD, inKD, ixKD, splitD, joinD, slD, isiD, notD, Int.reduceNeg, inner5, h4, h5, hz]
  rw [later_eq]
  simp (decide := true) only [wf_seqZ, wf_seqL, wf_kill, wf_expr, wf_fret, wf_retN, wf_ifS, wf_setN, wf_setV, wf_setT, wf_par, wf_augI, wf_break, wf_cont, wf_thru, wf_raise, wf_tryAs, wm_xf, wm_is, wf_skip, wf_for, wm_var, wm_c, wm_frz, wm_frN, wm_nn, wm_un, wm_bin, wm_evs_nil, wm_evs_cons, wm_n, wm_tup, wm_lst, wm_bool, wm_notB, wm_andB, wm_orB, wm_and, wm_or, wm_if, wm_chain, wm_asInt, wm_noInt, wm_sl, wm_srcD, wm_srcN, wm_fmt, wm_js_nil, wm_js_cons, wm_tru, wm_strM, wm_mutL, wm_call, wm_comp, wc, EV.set, EV.kill, EV.kills, EV.put, EV.obj, EV.look, EV.looks, EV.objs, EV.key, EV.puts, argIx, argSl, gets, oD, oR, settled, List.set_cons_zero, List.set_cons_succ, List.getElem?_cons_zero, List.getElem?_cons_succ, List.replicate_succ, List.replicate_zero, List.map_cons, List.map_nil, List.length_cons, List.length_nil, List.nil_append, List.cons_append, Nat.reduceAdd, Nat.reduceSub, Nat.reduceLT, Nat.reduceLeDiff, List.nodup_cons, List.nodup_nil, List.not_mem_nil, not_false_eq_true, not_true_eq_false, and_self, and_true, true_and, and_false, false_and, if_true, if_false, reduceIte, Bool.false_eq_true, decide_eq_true_eq, decide_eq_false_iff_not, Bool.not_true, Bool.not_false, Bool.not_eq_true', Bool.not_eq_false', List.zip_cons_cons, List.zip_nil_right, List.zip_nil_left, List.foldl_cons, List.foldl_nil, tgN, tgT, tgT.go, tgL, mYes, wm_ret, List.headD_cons, addD, subD, mulD, modD, fdivD, powD, negD, cmpD, eqD, neD, isND, notND, isNone, lenD, intD, strD, listD, tupleD, ixD, min2D, max2D, appendM, popM, reverseM, clearM, rangeD1, rangeD, itemsD, truD, inKD, ixKD, splitD, joinD, slD, isiD, notD, Int.reduceAdd, cut6]
  rw [later_eq]
  simp (decide := true) only [wf_seqZ, wf_seqL, wf_kill, wf_expr, wf_fret, wf_retN, wf_ifS, wf_setN, wf_setV, wf_setT, wf_par, wf_augI, wf_break, wf_cont, wf_thru, wf_raise, wf_tryAs, wm_xf, wm_is, wf_skip, wf_for, wm_var, wm_c, wm_frz, wm_frN, wm_nn, wm_un, wm_bin, wm_evs_nil, wm_evs_cons, wm_n, wm_tup, wm_lst, wm_bool, wm_notB, wm_andB, wm_orB, wm_and, wm_or, wm_if, wm_chain, wm_asInt, wm_noInt, wm_sl, wm_srcD, wm_srcN, wm_fmt, wm_js_nil, wm_js_cons, wm_tru, wm_strM, wm_mutL, wm_call, wm_comp, wc, EV.set, EV.kill, EV.kills, EV.put, EV.obj, EV.look, EV.looks, EV.objs, EV.key, EV.puts, argIx, argSl, gets, oD, oR, settled, List.set_cons_zero, List.set_cons_succ, List.getElem?_cons_zero, List.getElem?_cons_succ, List.replicate_succ, List.replicate_zero, List.map_cons, List.map_nil, List.length_cons, List.length_nil, List.nil_append, List.cons_append, Nat.reduceAdd, Nat.reduceSub, Nat.reduceLT, Nat.reduceLeDiff, List.nodup_cons, List.nodup_nil, List.not_mem_nil, not_false_eq_true, not_true_eq_false, and_self, and_true, true_and, and_false, false_and, if_true, if_false, reduceIte, Bool.false_eq_true, decide_eq_true_eq, decide_eq_false_iff_not, Bool.not_true, Bool.not_false, Bool.not_eq_true', Bool.not_eq_false', List.zip_cons_cons, List.zip_nil_right, List.zip_nil_left, List.foldl_cons, List.foldl_nil, tgN, tgT, tgT.go, tgL, mYes, wm_ret, List.headD_cons]
  exact hE
theorem cond_pass {c : Cd} (hc : c.ok) (j : Str) (done : List D) (hz : szOk (done.length + 1)) (W : List D) (E : Ko) (hE : E.nx ⟨[some (.val (.lst W)), some (.own (.lst (done ++ [c.d]))), some (.val (.str "and")), none, none, none, none, none], []⟩) :
    wf lb_read_conditions_1 ⟨[some (.val (.lst (.str j :: (c.words.map D.str ++ W)))), some (.own (.lst done)), some (.val (.str j)), none, none, none, none, none], []⟩ ⟨fun ρ2 => E.nx (ρ2.kills [3, 4, 5, 6, 7]), E.rt, E.bk, E.ct, E.ex⟩ := by
  obtain ⟨mode, tl, sign, num⟩ := c
  have ht : tl.ok := hc.2.1
  unfold lb_read_conditions_1
  simp (decide := true) only [wf_seq, wf_seqL, wf_kill, wf_expr, wf_fret, wf_retN, wf_ifS, wf_setN, wf_setV, wf_setT, wf_par, wf_augI, wf_break, wf_cont, wf_thru, wf_raise, wf_tryAs, wm_xf, wm_is, wf_skip, wf_for, wm_var, wm_c, wm_frz, wm_frN, wm_nn, wm_un, wm_bin, wm_evs_nil, wm_evs_cons, wm_n, wm_tup, wm_lst, wm_bool, wm_notB, wm_andB, wm_orB, wm_and, wm_or, wm_if, wm_chain, wm_asInt, wm_noInt, wm_sl, wm_srcD, wm_srcN, wm_fmt, wm_js_nil, wm_js_cons, wm_tru, wm_strM, wm_mutL, wm_call, wm_comp, wc, EV.set, EV.kill, EV.kills, EV.put, EV.obj, EV.look, EV.looks, EV.objs, EV.key, EV.puts, argIx, argSl, gets, oD, oR, settled, List.set_cons_zero, List.set_cons_succ, List.getElem?_cons_zero, List.getElem?_cons_succ, List.replicate_succ, List.replicate_zero, List.map_cons, List.map_nil, List.length_cons, List.length_nil, List.nil_append, List.cons_append, Nat.reduceAdd, Nat.reduceSub, Nat.reduceLT, Nat.reduceLeDiff, List.nodup_cons, List.nodup_nil, List.not_mem_nil, not_false_eq_true, not_true_eq_false, and_self, and_true, true_and, and_false, false_and, if_true, if_false, reduceIte, Bool.false_eq_true, decide_eq_true_eq, decide_eq_false_iff_not, Bool.not_true, Bool.not_false, Bool.not_eq_true', Bool.not_eq_false', List.zip_cons_cons, List.zip_nil_right, List.zip_nil_left, List.foldl_cons, List.foldl_nil, tgN, tgT, tgT.go, tgL, mYes, wm_ret, List.headD_cons, Cd.words, slD, cut_from _ (show (0 : Int) ≤ 2 by decide), Int.reduceToNat, List.drop_succ_cons, List.drop_zero, List.map_append, List.append_assoc]
  refine tally_size_spec ht _ _ fun ρ' => ?_
  simp (decide := true) only [wf_seq, wf_seqL, wf_kill, wf_expr, wf_fret, wf_retN, wf_ifS, wf_setN, wf_setV, wf_setT, wf_par, wf_augI, wf_break, wf_cont, wf_thru, wf_raise, wf_tryAs, wm_xf, wm_is, wf_skip, wf_for, wm_var, wm_c, wm_frz, wm_frN, wm_nn, wm_un, wm_bin, wm_evs_nil, wm_evs_cons, wm_n, wm_tup, wm_lst, wm_bool, wm_notB, wm_andB, wm_orB, wm_and, wm_or, wm_if, wm_chain, wm_asInt, wm_noInt, wm_sl, wm_srcD, wm_srcN, wm_fmt, wm_js_nil, wm_js_cons, wm_tru, wm_strM, wm_mutL, wm_call, wm_comp, wc, EV.set, EV.kill, EV.kills, EV.put, EV.obj, EV.look, EV.looks, EV.objs, EV.key, EV.puts, argIx, argSl, gets, oD, oR, settled, List.set_cons_zero, List.set_cons_succ, List.getElem?_cons_zero, List.getElem?_cons_succ, List.replicate_succ, List.replicate_zero, List.map_cons, List.map_nil, List.length_cons, List.length_nil, List.nil_append, List.cons_append, Nat.reduceAdd, Nat.reduceSub, Nat.reduceLT, Nat.reduceLeDiff, List.nodup_cons, List.nodup_nil, List.not_mem_nil, not_false_eq_true, not_true_eq_false, and_self, and_true, true_and, and_false, false_and, if_true, if_false, reduceIte, Bool.false_eq_true, decide_eq_true_eq, decide_eq_false_iff_not, Bool.not_true, Bool.not_false, Bool.not_eq_true', Bool.not_eq_false', List.zip_cons_cons, List.zip_nil_right, List.zip_nil_left, List.foldl_cons, List.foldl_nil, tgN, tgT, tgT.go, tgL, mYes, wm_ret, List.headD_cons]
  cases tl with
  | any => exact cond_four hc.1 hc.2.2.1 hc.2.2.2 j done hz W E hE
  | part p w => exact cond_five hc.1 hc.2.2.1 hc.2.2.2 j done hz W E hE
  | own p => exact cond_five hc.1 hc.2.2.1 hc.2.2.2 j done hz W E hE
theorem fuel_big {n : Nat} (h : n ≤ 6) : n < fuel := Nat.lt_of_le_of_lt h (by decide)
theorem read_conditions_spec {cs : List Cd} (h : ∀ c ∈ cs, c.ok) (hl : cs.length ≤ 6) (E : Ko) (hE : ∀ ρ', E.rt (.v (.tup (cs.map Cd.d))) ρ') :
    wf fb_read_conditions ⟨[some (.val (.lst ((cw "if" cs).map D.str))), none, none, none, none, none, none, none], []⟩ E := by
  unfold fb_read_conditions
  simp (decide := true) only [wf_seq, wf_seqL, wf_kill, wf_expr, wf_fret, wf_retN, wf_ifS, wf_setN, wf_setV, wf_setT, wf_par, wf_augI, wf_break, wf_cont, wf_thru, wf_raise, wf_tryAs, wm_xf, wm_is, wf_skip, wf_for, wm_var, wm_c, wm_frz, wm_frN, wm_nn, wm_un, wm_bin, wm_evs_nil, wm_evs_cons, wm_n, wm_tup, wm_lst, wm_bool, wm_notB, wm_andB, wm_orB, wm_and, wm_or, wm_if, wm_chain, wm_asInt, wm_noInt, wm_sl, wm_srcD, wm_srcN, wm_fmt, wm_js_nil, wm_js_cons, wm_tru, wm_strM, wm_mutL, wm_call, wm_comp, wc, EV.set, EV.kill, EV.kills, EV.put, EV.obj, EV.look, EV.looks, EV.objs, EV.key, EV.puts, argIx, argSl, gets, oD, oR, settled, List.set_cons_zero, List.set_cons_succ, List.getElem?_cons_zero, List.getElem?_cons_succ, List.replicate_succ, List.replicate_zero, List.map_cons, List.map_nil, List.length_cons, List.length_nil, List.nil_append, List.cons_append, Nat.reduceAdd, Nat.reduceSub, Nat.reduceLT, Nat.reduceLeDiff, List.nodup_cons, List.nodup_nil, List.not_mem_nil, not_false_eq_true, not_true_eq_false, and_self, and_true, true_and, and_false, false_and, if_true, if_false, reduceIte, Bool.false_eq_true, decide_eq_true_eq, decide_eq_false_iff_not, Bool.not_true, Bool.not_false, Bool.not_eq_true', Bool.not_eq_false', List.zip_cons_cons, List.zip_nil_right, List.zip_nil_left, List.foldl_cons, List.foldl_nil, tgN, tgT, tgT.go, tgL, mYes, wm_ret, List.headD_cons]
  refine wf_while (fun n ρ => ∃ (done rest : List Cd) (j : Str), cs = done ++ rest ∧ n = rest.length ∧ ρ = ⟨[some (.val (.lst ((cw j rest).map D.str))), some (.own (.lst (done.map Cd.d))), some (.val (.str j)), none, none, none, none, none], []⟩) ?_ _ _ _ (fuel_big hl) ⟨[], cs, "if", rfl, rfl, rfl⟩
  rintro n ρ ⟨done, rest, j, e, rfl, rfl⟩
  cases rest with
  | nil =>
    simp (decide := true) only [wf_seq, wf_seqL, wf_kill, wf_expr, wf_fret, wf_retN, wf_ifS, wf_setN, wf_setV, wf_setT, wf_par, wf_augI, wf_break, wf_cont, wf_thru, wf_raise, wf_tryAs, wm_xf, wm_is, wf_skip, wf_for, wm_var, wm_c, wm_frz, wm_frN, wm_nn, wm_un, wm_bin, wm_evs_nil, wm_evs_cons, wm_n, wm_tup, wm_lst, wm_bool, wm_notB, wm_andB, wm_orB, wm_and, wm_or, wm_if, wm_chain, wm_asInt, wm_noInt, wm_sl, wm_srcD, wm_srcN, wm_fmt, wm_js_nil, wm_js_cons, wm_tru, wm_strM, wm_mutL, wm_call, wm_comp, wc, EV.set, EV.kill, EV.kills, EV.put, EV.obj, EV.look, EV.looks, EV.objs, EV.key, EV.puts, argIx, argSl, gets, oD, oR, settled, List.set_cons_zero, List.set_cons_succ, List.getElem?_cons_zero, List.getElem?_cons_succ, List.replicate_succ, List.replicate_zero, List.map_cons, List.map_nil, List.length_cons, List.length_nil, List.nil_append, List.cons_append, Nat.reduceAdd, Nat.reduceSub, Nat.reduceLT, Nat.reduceLeDiff, List.nodup_cons, List.nodup_nil, List.not_mem_nil, not_false_eq_true, not_true_eq_false, and_self, and_true, true_and, and_false, false_and, if_true, if_false, reduceIte, Bool.false_eq_true, decide_eq_true_eq, decide_eq_false_iff_not, Bool.not_true, Bool.not_false, Bool.not_eq_true', Bool.not_eq_false', List.zip_cons_cons, List.zip_nil_right, List.zip_nil_left, List.foldl_cons, List.foldl_nil, tgN, tgT, tgT.go, tgL, mYes, wm_ret, List.headD_cons, addD, subD, mulD, modD, fdivD, powD, negD, cmpD, eqD, neD, isND, notND, isNone, lenD, intD, strD, listD, tupleD, ixD, min2D, max2D, appendM, popM, reverseM, clearM, rangeD1, rangeD, itemsD, truD, inKD, ixKD, splitD, joinD, slD, isiD, notD, cw, List.isEmpty_nil]
    unfold later rb_read_conditions_2
    rw [List.append_nil] at e
    subst e
    simp (decide := true) only [wf_seq, wf_seqL, wf_kill, wf_expr, wf_fret, wf_retN, wf_ifS, wf_setN, wf_setV, wf_setT, wf_par, wf_augI, wf_break, wf_cont, wf_thru, wf_raise, wf_tryAs, wm_xf, wm_is, wf_skip, wf_for, wm_var, wm_c, wm_frz, wm_frN, wm_nn, wm_un, wm_bin, wm_evs_nil, wm_evs_cons, wm_n, wm_tup, wm_lst, wm_bool, wm_notB, wm_andB, wm_orB, wm_and, wm_or, wm_if, wm_chain, wm_asInt, wm_noInt, wm_sl, wm_srcD, wm_srcN, wm_fmt, wm_js_nil, wm_js_cons, wm_tru, wm_strM, wm_mutL, wm_call, wm_comp, wc, EV.set, EV.kill, EV.kills, EV.put, EV.obj, EV.look, EV.looks, EV.objs, EV.key, EV.puts, argIx, argSl, gets, oD, oR, settled, List.set_cons_zero, List.set_cons_succ, List.getElem?_cons_zero, List.getElem?_cons_succ, List.replicate_succ, List.replicate_zero, List.map_cons, List.map_nil, List.length_cons, List.length_nil, List.nil_append, List.cons_append, Nat.reduceAdd, Nat.reduceSub, Nat.reduceLT, Nat.reduceLeDiff, List.nodup_cons, List.nodup_nil, List.not_mem_nil, not_false_eq_true, not_true_eq_false, and_self, and_true, true_and, and_false, false_and, if_true, if_false, reduceIte, Bool.false_eq_true, decide_eq_true_eq, decide_eq_false_iff_not, Bool.not_true, Bool.not_false, Bool.not_eq_true', Bool.not_eq_false', List.zip_cons_cons, List.zip_nil_right, List.zip_nil_left, List.foldl_cons, List.foldl_nil, tgN, tgT, tgT.go, tgL, mYes, wm_ret, List.headD_cons, addD, subD, mulD, modD, fdivD, powD, negD, cmpD, eqD, neD, isND, notND, isNone, lenD, intD, strD, listD, tupleD, ixD, min2D, max2D, appendM, popM, reverseM, clearM, rangeD1, rangeD, itemsD, truD, inKD, ixKD, splitD, joinD, slD, isiD, notD, List.length_map]
    rw [if_neg (by omega)]
    exact hE _
  | cons c rest =>
    simp (decide := true) only [wf_seq, wf_seqL, wf_kill, wf_expr, wf_fret, wf_retN, wf_ifS, wf_setN, wf_setV, wf_setT, wf_par, wf_augI, wf_break, wf_cont, wf_thru, wf_raise, wf_tryAs, wm_xf, wm_is, wf_skip, wf_for, wm_var, wm_c, wm_frz, wm_frN, wm_nn, wm_un, wm_bin, wm_evs_nil, wm_evs_cons, wm_n, wm_tup, wm_lst, wm_bool, wm_notB, wm_andB, wm_orB, wm_and, wm_or, wm_if, wm_chain, wm_asInt, wm_noInt, wm_sl, wm_srcD, wm_srcN, wm_fmt, wm_js_nil, wm_js_cons, wm_tru, wm_strM, wm_mutL, wm_call, wm_comp, wc, EV.set, EV.kill, EV.kills, EV.put, EV.obj, EV.look, EV.looks, EV.objs, EV.key, EV.puts, argIx, argSl, gets, oD, oR, settled, List.set_cons_zero, List.set_cons_succ, List.getElem?_cons_zero, List.getElem?_cons_succ, List.replicate_succ, List.replicate_zero, List.map_cons, List.map_nil, List.length_cons, List.length_nil, List.nil_append, List.cons_append, Nat.reduceAdd, Nat.reduceSub, Nat.reduceLT, Nat.reduceLeDiff, List.nodup_cons, List.nodup_nil, List.not_mem_nil, not_false_eq_true, not_true_eq_false, and_self, and_true, true_and, and_false, false_and, if_true, if_false, reduceIte, Bool.false_eq_true, decide_eq_true_eq, decide_eq_false_iff_not, Bool.not_true, Bool.not_false, Bool.not_eq_true', Bool.not_eq_false', List.zip_cons_cons, List.zip_nil_right, List.zip_nil_left, List.foldl_cons, List.foldl_nil, tgN, tgT, tgT.go, tgL, mYes, wm_ret, List.headD_cons, addD, subD, mulD, modD, fdivD, powD, negD, cmpD, eqD, neD, isND, notND, isNone, lenD, intD, strD, listD, tupleD, ixD, min2D, max2D, appendM, popM, reverseM, clearM, rangeD1, rangeD, itemsD, truD, inKD, ixKD, splitD, joinD, slD, isiD, notD, cw, List.isEmpty_cons]
    have hc : c.ok := h c (by rw [e]; simp)
    have hz : szOk (done.map Cd.d).length.succ := by
      have := congrArg List.length e
      rw [List.length_append, List.length_cons] at this
      unfold szOk
      rw [List.length_map]
      omega
    refine ⟨rest.length, Nat.lt_succ_self _, ?_⟩
    have := cond_pass hc j (done.map Cd.d) hz ((cw "and" rest).map D.str) ⟨fun ρ2 => ∃ (done' rest' : List Cd) (j : Str), cs = done' ++ rest' ∧ rest.length = rest'.length ∧ ρ2 = ⟨[some (.val (.lst ((cw j rest').map D.str))), some (.own (.lst (done'.map Cd.d))), some (.val (.str j)), none, none, none, none, none], []⟩, E.rt, fun ρ' => later rb_read_conditions_2 E ({ sl := (((((((ρ'.sl.set 0 none).set 2 none).set 3 none).set 4 none).set 5 none).set 6 none).set 7 none), ps := ρ'.ps }), fun ρ2 => ∃ (done' rest' : List Cd) (j : Str), cs = done' ++ rest' ∧ rest.length = rest'.length ∧ ρ2.kills [3, 4, 5, 6, 7] = ⟨[some (.val (.lst ((cw j rest').map D.str))), some (.own (.lst (done'.map Cd.d))), some (.val (.str j)), none, none, none, none, none], []⟩, E.ex⟩
      ⟨done ++ [c], rest, "and", by rw [e, List.append_assoc]; rfl, rfl, by rw [List.map_append]; rfl⟩
    rw [List.map_append]
    exact this
theorem act_in {a : Str} (h : a ∈ (["take", "pass"] : List Str)) : notInD (.str a) (.tup [.str "take", .str "pass"]) = some (.v (.bl false)) := by
  rcases mem_two h with rfl | rfl <;> rfl
theorem cut1 {α : Type} (a : α) (l : List α) : cutD (a :: l) (some 1) none = l := by
  rw [cut_from _ (by decide)]
  rfl
theorem cut2 {α : Type} (a b : α) (l : List α) : cutD (a :: b :: l) (some 2) none = l := by
  rw [cut_from _ (by decide)]
  rfl
theorem cut3 {α : Type} (a b c : α) (l : List α) : cutD (a :: b :: c :: l) (some 3) none = l := by
  rw [cut_from _ (by decide)]
  rfl
theorem cut12 {α : Type} (a b : α) (l : List α) : cutD (a :: b :: l) (some 1) (some 2) = [b] := by
  rw [cut_mid _ (by decide) (by decide)]
  rfl
theorem cut13 {α : Type} (a b c : α) (l : List α) : cutD (a :: b :: c :: l) (some 1) (some 3) = [b, c] := by
  rw [cut_mid _ (by decide) (by decide)]
  rfl
theorem read_rule_spec {r : Ru} (h : r.ok) (E : Ko) (hE : ∀ ρ', E.rt (.v r.d) ρ') : wf fb_read_rule ⟨[some (.val (.str (txt r.words))), none, none, none], []⟩ E := by
  have hs := txt_split (Ru.words_cw h) (List.cons_ne_nil _ _)
  have ha := act_in h.act
  have hz : szOk ((txt r.words).length + 2) := by
    have h1 := txt_bound (Ru.words_cw h)
    have h2 := Ru.words_len h
    unfold szOk
    omega
  unfold fb_read_rule
  simp (decide := true) only [wf_seq, wf_seqL, wf_kill, wf_expr, wf_fret, wf_retN, wf_ifS, wf_setN, wf_setV, wf_setT, wf_par, wf_augI, wf_break, wf_cont, wf_thru, wf_raise, wf_tryAs, wm_xf, wm_is, wf_skip, wf_for, wm_var, wm_c, wm_frz, wm_frN, wm_nn, wm_un, wm_bin, wm_evs_nil, wm_evs_cons, wm_n, wm_tup, wm_lst, wm_bool, wm_notB, wm_andB, wm_orB, wm_and, wm_or, wm_if, wm_chain, wm_asInt, wm_noInt, wm_sl, wm_srcD, wm_srcN, wm_fmt, wm_js_nil, wm_js_cons, wm_tru, wm_strM, wm_mutL, wm_call, wm_comp, wc, EV.set, EV.kill, EV.kills, EV.put, EV.obj, EV.look, EV.looks, EV.objs, EV.key, EV.puts, argIx, argSl, gets, oD, oR, settled, List.set_cons_zero, List.set_cons_succ, List.getElem?_cons_zero, List.getElem?_cons_succ, List.replicate_succ, List.replicate_zero, List.map_cons, List.map_nil, List.length_cons, List.length_nil, List.nil_append, List.cons_append, Nat.reduceAdd, Nat.reduceSub, Nat.reduceLT, Nat.reduceLeDiff, List.nodup_cons, List.nodup_nil, List.not_mem_nil, not_false_eq_true, not_true_eq_false, and_self, and_true, true_and, and_false, false_and, if_true, if_false, reduceIte, Bool.false_eq_true, decide_eq_true_eq, decide_eq_false_iff_not, Bool.not_true, Bool.not_false, Bool.not_eq_true', Bool.not_eq_false', List.zip_cons_cons, List.zip_nil_right, List.zip_nil_left, List.foldl_cons, List.foldl_nil, tgN, tgT, tgT.go, tgL, mYes, wm_ret, List.headD_cons, addD, subD, mulD, modD, fdivD, powD, negD, cmpD, eqD, neD, isND, notND, isNone, lenD, intD, strD, listD, tupleD, ixD, min2D, max2D, appendM, popM, reverseM, clearM, rangeD1, rangeD, itemsD, truD, inKD, ixKD, splitD, joinD, slD, isiD, notD, sp_len, Nat.succ_ne_zero, Nat.one_ne_zero, beq_iff_eq, Nat.reduceBEq, hz, hs]
  simp (decide := true) only [wf_seq, wf_seqL, wf_kill, wf_expr, wf_fret, wf_retN, wf_ifS, wf_setN, wf_setV, wf_setT, wf_par, wf_augI, wf_break, wf_cont, wf_thru, wf_raise, wf_tryAs, wm_xf, wm_is, wf_skip, wf_for, wm_var, wm_c, wm_frz, wm_frN, wm_nn, wm_un, wm_bin, wm_evs_nil, wm_evs_cons, wm_n, wm_tup, wm_lst, wm_bool, wm_notB, wm_andB, wm_orB, wm_and, wm_or, wm_if, wm_chain, wm_asInt, wm_noInt, wm_sl, wm_srcD, wm_srcN, wm_fmt, wm_js_nil, wm_js_cons, wm_tru, wm_strM, wm_mutL, wm_call, wm_comp, wc, EV.set, EV.kill, EV.kills, EV.put, EV.obj, EV.look, EV.looks, EV.objs, EV.key, EV.puts, argIx, argSl, gets, oD, oR, settled, List.set_cons_zero, List.set_cons_succ, List.getElem?_cons_zero, List.getElem?_cons_succ, List.replicate_succ, List.replicate_zero, List.map_cons, List.map_nil, List.length_cons, List.length_nil, List.nil_append, List.cons_append, Nat.reduceAdd, Nat.reduceSub, Nat.reduceLT, Nat.reduceLeDiff, List.nodup_cons, List.nodup_nil, List.not_mem_nil, not_false_eq_true, not_true_eq_false, and_self, and_true, true_and, and_false, false_and, if_true, if_false, reduceIte, Bool.false_eq_true, decide_eq_true_eq, decide_eq_false_iff_not, Bool.not_true, Bool.not_false, Bool.not_eq_true', Bool.not_eq_false', List.zip_cons_cons, List.zip_nil_right, List.zip_nil_left, List.foldl_cons, List.foldl_nil, tgN, tgT, tgT.go, tgL, mYes, wm_ret, List.headD_cons, Ru.words, List.map_append, cut1]
  refine tally_size_spec h.who _ _ fun ρ' => ?_
  simp (decide := true) only [wf_seq, wf_seqL, wf_kill, wf_expr, wf_fret, wf_retN, wf_ifS, wf_setN, wf_setV, wf_setT, wf_par, wf_augI, wf_break, wf_cont, wf_thru, wf_raise, wf_tryAs, wm_xf, wm_is, wf_skip, wf_for, wm_var, wm_c, wm_frz, wm_frN, wm_nn, wm_un, wm_bin, wm_evs_nil, wm_evs_cons, wm_n, wm_tup, wm_lst, wm_bool, wm_notB, wm_andB, wm_orB, wm_and, wm_or, wm_if, wm_chain, wm_asInt, wm_noInt, wm_sl, wm_srcD, wm_srcN, wm_fmt, wm_js_nil, wm_js_cons, wm_tru, wm_strM, wm_mutL, wm_call, wm_comp, wc, EV.set, EV.kill, EV.kills, EV.put, EV.obj, EV.look, EV.looks, EV.objs, EV.key, EV.puts, argIx, argSl, gets, oD, oR, settled, List.set_cons_zero, List.set_cons_succ, List.getElem?_cons_zero, List.getElem?_cons_succ, List.replicate_succ, List.replicate_zero, List.map_cons, List.map_nil, List.length_cons, List.length_nil, List.nil_append, List.cons_append, Nat.reduceAdd, Nat.reduceSub, Nat.reduceLT, Nat.reduceLeDiff, List.nodup_cons, List.nodup_nil, List.not_mem_nil, not_false_eq_true, not_true_eq_false, and_self, and_true, true_and, and_false, false_and, if_true, if_false, reduceIte, Bool.false_eq_true, decide_eq_true_eq, decide_eq_false_iff_not, Bool.not_true, Bool.not_false, Bool.not_eq_true', Bool.not_eq_false', List.zip_cons_cons, List.zip_nil_right, List.zip_nil_left, List.foldl_cons, List.foldl_nil, tgN, tgT, tgT.go, tgL, mYes, wm_ret, List.headD_cons]
  unfold later rb_read_rule_2
  obtain ⟨act, who, cs⟩ := r
  cases who with
  | own p => exact h.far.elim
  | any =>
    simp (decide := true) only [wf_seqZ, wf_seqL, wf_kill, wf_expr, wf_fret, wf_retN, wf_ifS, wf_setN, wf_setV, wf_setT, wf_par, wf_augI, wf_break, wf_cont, wf_thru, wf_raise, wf_tryAs, wm_xf, wm_is, wf_skip, wf_for, wm_var, wm_c, wm_frz, wm_frN, wm_nn, wm_un, wm_bin, wm_evs_nil, wm_evs_cons, wm_n, wm_tup, wm_lst, wm_bool, wm_notB, wm_andB, wm_orB, wm_and, wm_or, wm_if, wm_chain, wm_asInt, wm_noInt, wm_sl, wm_srcD, wm_srcN, wm_fmt, wm_js_nil, wm_js_cons, wm_tru, wm_strM, wm_mutL, wm_call, wm_comp, wc, EV.set, EV.kill, EV.kills, EV.put, EV.obj, EV.look, EV.looks, EV.objs, EV.key, EV.puts, argIx, argSl, gets, oD, oR, settled, List.set_cons_zero, List.set_cons_succ, List.getElem?_cons_zero, List.getElem?_cons_succ, List.replicate_succ, List.replicate_zero, List.map_cons, List.map_nil, List.length_cons, List.length_nil, List.nil_append, List.cons_append, Nat.reduceAdd, Nat.reduceSub, Nat.reduceLT, Nat.reduceLeDiff, List.nodup_cons, List.nodup_nil, List.not_mem_nil, not_false_eq_true, not_true_eq_false, and_self, and_true, true_and, and_false, false_and, if_true, if_false, reduceIte, Bool.false_eq_true, decide_eq_true_eq, decide_eq_false_iff_not, Bool.not_true, Bool.not_false, Bool.not_eq_true', Bool.not_eq_false', List.zip_cons_cons, List.zip_nil_right, List.zip_nil_left, List.foldl_cons, List.foldl_nil, tgN, tgT, tgT.go, tgL, mYes, wm_ret, List.headD_cons, addD, subD, mulD, modD, fdivD, powD, negD, cmpD, eqD, neD, isND, notND, isNone, lenD, intD, strD, listD, tupleD, ixD, min2D, max2D, appendM, popM, reverseM, clearM, rangeD1, rangeD, itemsD, truD, inKD, ixKD, splitD, joinD, slD, isiD, notD, Tl.size, Tl.words, at0, at1, ha]
    rw [later_eq]
    simp (decide := true) only [wf_seq, wf_seqL, wf_kill, wf_expr, wf_fret, wf_retN, wf_ifS, wf_setN, wf_setV, wf_setT, wf_par, wf_augI, wf_break, wf_cont, wf_thru, wf_raise, wf_tryAs, wm_xf, wm_is, wf_skip, wf_for, wm_var, wm_c, wm_frz, wm_frN, wm_nn, wm_un, wm_bin, wm_evs_nil, wm_evs_cons, wm_n, wm_tup, wm_lst, wm_bool, wm_notB, wm_andB, wm_orB, wm_and, wm_or, wm_if, wm_chain, wm_asInt, wm_noInt, wm_sl, wm_srcD, wm_srcN, wm_fmt, wm_js_nil, wm_js_cons, wm_tru, wm_strM, wm_mutL, wm_call, wm_comp, wc, EV.set, EV.kill, EV.kills, EV.put, EV.obj, EV.look, EV.looks, EV.objs, EV.key, EV.puts, argIx, argSl, gets, oD, oR, settled, List.set_cons_zero, List.set_cons_succ, List.getElem?_cons_zero, List.getElem?_cons_succ, List.replicate_succ, List.replicate_zero, List.map_cons, List.map_nil, List.length_cons, List.length_nil, List.nil_append, List.cons_append, Nat.reduceAdd, Nat.reduceSub, Nat.reduceLT, Nat.reduceLeDiff, List.nodup_cons, List.nodup_nil, List.not_mem_nil, not_false_eq_true, not_true_eq_false, and_self, and_true, true_and, and_false, false_and, if_true, if_false, reduceIte, Bool.false_eq_true, decide_eq_true_eq, decide_eq_false_iff_not, Bool.not_true, Bool.not_false, Bool.not_eq_true', Bool.not_eq_false', List.zip_cons_cons, List.zip_nil_right, List.zip_nil_left, List.foldl_cons, List.foldl_nil, tgN, tgT, tgT.go, tgL, mYes, wm_ret, List.headD_cons, slD, addD, Int.reduceAdd, cut2]
    refine read_conditions_spec h.cs h.most _ fun ρ' => ?_
    simp (decide := true) only [wf_seq, wf_seqL, wf_kill, wf_expr, wf_fret, wf_retN, wf_ifS, wf_setN, wf_setV, wf_setT, wf_par, wf_augI, wf_break, wf_cont, wf_thru, wf_raise, wf_tryAs, wm_xf, wm_is, wf_skip, wf_for, wm_var, wm_c, wm_frz, wm_frN, wm_nn, wm_un, wm_bin, wm_evs_nil, wm_evs_cons, wm_n, wm_tup, wm_lst, wm_bool, wm_notB, wm_andB, wm_orB, wm_and, wm_or, wm_if, wm_chain, wm_asInt, wm_noInt, wm_sl, wm_srcD, wm_srcN, wm_fmt, wm_js_nil, wm_js_cons, wm_tru, wm_strM, wm_mutL, wm_call, wm_comp, wc, EV.set, EV.kill, EV.kills, EV.put, EV.obj, EV.look, EV.looks, EV.objs, EV.key, EV.puts, argIx, argSl, gets, oD, oR, settled, List.set_cons_zero, List.set_cons_succ, List.getElem?_cons_zero, List.getElem?_cons_succ, List.replicate_succ, List.replicate_zero, List.map_cons, List.map_nil, List.length_cons, List.length_nil, List.nil_append, List.cons_append, Nat.reduceAdd, Nat.reduceSub, Nat.reduceLT, Nat.reduceLeDiff, List.nodup_cons, List.nodup_nil, List.not_mem_nil, not_false_eq_true, not_true_eq_false, and_self, and_true, true_and, and_false, false_and, if_true, if_false, reduceIte, Bool.false_eq_true, decide_eq_true_eq, decide_eq_false_iff_not, Bool.not_true, Bool.not_false, Bool.not_eq_true', Bool.not_eq_false', List.zip_cons_cons, List.zip_nil_right, List.zip_nil_left, List.foldl_cons, List.foldl_nil, tgN, tgT, tgT.go, tgL, mYes, wm_ret, List.headD_cons]
    unfold later rb_read_rule_1
    simp (decide := true) only [wf_seq, wf_seqL, wf_kill, wf_expr, wf_fret, wf_retN, wf_ifS, wf_setN, wf_setV, wf_setT, wf_par, wf_augI, wf_break, wf_cont, wf_thru, wf_raise, wf_tryAs, wm_xf, wm_is, wf_skip, wf_for, wm_var, wm_c, wm_frz, wm_frN, wm_nn, wm_un, wm_bin, wm_evs_nil, wm_evs_cons, wm_n, wm_tup, wm_lst, wm_bool, wm_notB, wm_andB, wm_orB, wm_and, wm_or, wm_if, wm_chain, wm_asInt, wm_noInt, wm_sl, wm_srcD, wm_srcN, wm_fmt, wm_js_nil, wm_js_cons, wm_tru, wm_strM, wm_mutL, wm_call, wm_comp, wc, EV.set, EV.kill, EV.kills, EV.put, EV.obj, EV.look, EV.looks, EV.objs, EV.key, EV.puts, argIx, argSl, gets, oD, oR, settled, List.set_cons_zero, List.set_cons_succ, List.getElem?_cons_zero, List.getElem?_cons_succ, List.replicate_succ, List.replicate_zero, List.map_cons, List.map_nil, List.length_cons, List.length_nil, List.nil_append, List.cons_append, Nat.reduceAdd, Nat.reduceSub, Nat.reduceLT, Nat.reduceLeDiff, List.nodup_cons, List.nodup_nil, List.not_mem_nil, not_false_eq_true, not_true_eq_false, and_self, and_true, true_and, and_false, false_and, if_true, if_false, reduceIte, Bool.false_eq_true, decide_eq_true_eq, decide_eq_false_iff_not, Bool.not_true, Bool.not_false, Bool.not_eq_true', Bool.not_eq_false', List.zip_cons_cons, List.zip_nil_right, List.zip_nil_left, List.foldl_cons, List.foldl_nil, tgN, tgT, tgT.go, tgL, mYes, wm_ret, List.headD_cons, addD, subD, mulD, modD, fdivD, powD, negD, cmpD, eqD, neD, isND, notND, isNone, lenD, intD, strD, listD, tupleD, ixD, min2D, max2D, appendM, popM, reverseM, clearM, rangeD1, rangeD, itemsD, truD, inKD, ixKD, splitD, joinD, slD, isiD, notD, at0, Int.reduceAdd, cut12]
    exact hE _
  | part p w =>
    have hn := (role_ne h.who.1).1
    simp (decide := true) only [wf_seqZ, wf_seqL, wf_kill, wf_expr, wf_fret, wf_retN, wf_ifS, wf_setN, wf_setV, wf_setT, wf_par, wf_augI, wf_break, wf_cont, wf_thru, wf_raise, wf_tryAs, wm_xf, wm_is, wf_skip, wf_for, wm_var, wm_c, wm_frz, wm_frN, wm_nn, wm_un, wm_bin, wm_evs_nil, wm_evs_cons, wm_n, wm_tup, wm_lst, wm_bool, wm_notB, wm_andB, wm_orB, wm_and, wm_or, wm_if, wm_chain, wm_asInt, wm_noInt, wm_sl, wm_srcD, wm_srcN, wm_fmt, wm_js_nil, wm_js_cons, wm_tru, wm_strM, wm_mutL, wm_call, wm_comp, wc, EV.set, EV.kill, EV.kills, EV.put, EV.obj, EV.look, EV.looks, EV.objs, EV.key, EV.puts, argIx, argSl, gets, oD, oR, settled, List.set_cons_zero, List.set_cons_succ, List.getElem?_cons_zero, List.getElem?_cons_succ, List.replicate_succ, List.replicate_zero, List.map_cons, List.map_nil, List.length_cons, List.length_nil, List.nil_append, List.cons_append, Nat.reduceAdd, Nat.reduceSub, Nat.reduceLT, Nat.reduceLeDiff, List.nodup_cons, List.nodup_nil, List.not_mem_nil, not_false_eq_true, not_true_eq_false, and_self, and_true, true_and, and_false, false_and, if_true, if_false, reduceIte, Bool.false_eq_true, decide_eq_true_eq, decide_eq_false_iff_not, Bool.not_true, Bool.not_false, Bool.not_eq_true', Bool.not_eq_false', List.zip_cons_cons, List.zip_nil_right, List.zip_nil_left, List.foldl_cons, List.foldl_nil, tgN, tgT, tgT.go, tgL, mYes, wm_ret, List.headD_cons, addD, subD, mulD, modD, fdivD, powD, negD, cmpD, eqD, neD, isND, notND, isNone, lenD, intD, strD, listD, tupleD, ixD, min2D, max2D, appendM, popM, reverseM, clearM, rangeD1, rangeD, itemsD, truD, inKD, ixKD, splitD, joinD, slD, isiD, notD, Tl.size, Tl.words, at0, at1, ha, hn]
    rw [later_eq]
    simp (decide := true) only [wf_seq, wf_seqL, wf_kill, wf_expr, wf_fret, wf_retN, wf_ifS, wf_setN, wf_setV, wf_setT, wf_par, wf_augI, wf_break, wf_cont, wf_thru, wf_raise, wf_tryAs, wm_xf, wm_is, wf_skip, wf_for, wm_var, wm_c, wm_frz, wm_frN, wm_nn, wm_un, wm_bin, wm_evs_nil, wm_evs_cons, wm_n, wm_tup, wm_lst, wm_bool, wm_notB, wm_andB, wm_orB, wm_and, wm_or, wm_if, wm_chain, wm_asInt, wm_noInt, wm_sl, wm_srcD, wm_srcN, wm_fmt, wm_js_nil, wm_js_cons, wm_tru, wm_strM, wm_mutL, wm_call, wm_comp, wc, EV.set, EV.kill, EV.kills, EV.put, EV.obj, EV.look, EV.looks, EV.objs, EV.key, EV.puts, argIx, argSl, gets, oD, oR, settled, List.set_cons_zero, List.set_cons_succ, List.getElem?_cons_zero, List.getElem?_cons_succ, List.replicate_succ, List.replicate_zero, List.map_cons, List.map_nil, List.length_cons, List.length_nil, List.nil_append, List.cons_append, Nat.reduceAdd, Nat.reduceSub, Nat.reduceLT, Nat.reduceLeDiff, List.nodup_cons, List.nodup_nil, List.not_mem_nil, not_false_eq_true, not_true_eq_false, and_self, and_true, true_and, and_false, false_and, if_true, if_false, reduceIte, Bool.false_eq_true, decide_eq_true_eq, decide_eq_false_iff_not, Bool.not_true, Bool.not_false, Bool.not_eq_true', Bool.not_eq_false', List.zip_cons_cons, List.zip_nil_right, List.zip_nil_left, List.foldl_cons, List.foldl_nil, tgN, tgT, tgT.go, tgL, mYes, wm_ret, List.headD_cons, slD, addD, Int.reduceAdd, cut3]
    refine read_conditions_spec h.cs h.most _ fun ρ' => ?_
    simp (decide := true) only [wf_seq, wf_seqL, wf_kill, wf_expr, wf_fret, wf_retN, wf_ifS, wf_setN, wf_setV, wf_setT, wf_par, wf_augI, wf_break, wf_cont, wf_thru, wf_raise, wf_tryAs, wm_xf, wm_is, wf_skip, wf_for, wm_var, wm_c, wm_frz, wm_frN, wm_nn, wm_un, wm_bin, wm_evs_nil, wm_evs_cons, wm_n, wm_tup, wm_lst, wm_bool, wm_notB, wm_andB, wm_orB, wm_and, wm_or, wm_if, wm_chain, wm_asInt, wm_noInt, wm_sl, wm_srcD, wm_srcN, wm_fmt, wm_js_nil, wm_js_cons, wm_tru, wm_strM, wm_mutL, wm_call, wm_comp, wc, EV.set, EV.kill, EV.kills, EV.put, EV.obj, EV.look, EV.looks, EV.objs, EV.key, EV.puts, argIx, argSl, gets, oD, oR, settled, List.set_cons_zero, List.set_cons_succ, List.getElem?_cons_zero, List.getElem?_cons_succ, List.replicate_succ, List.replicate_zero, List.map_cons, List.map_nil, List.length_cons, List.length_nil, List.nil_append, List.cons_append, Nat.reduceAdd, Nat.reduceSub, Nat.reduceLT, Nat.reduceLeDiff, List.nodup_cons, List.nodup_nil, List.not_mem_nil, not_false_eq_true, not_true_eq_false, and_self, and_true, true_and, and_false, false_and, if_true, if_false, reduceIte, Bool.false_eq_true, decide_eq_true_eq, decide_eq_false_iff_not, Bool.not_true, Bool.not_false, Bool.not_eq_true', Bool.not_eq_false', List.zip_cons_cons, List.zip_nil_right, List.zip_nil_left, List.foldl_cons, List.foldl_nil, tgN, tgT, tgT.go, tgL, mYes, wm_ret, List.headD_cons]
    unfold later rb_read_rule_1
    simp (decide := true) only [wf_seq, wf_seqL, wf_kill, wf_expr, wf_fret, wf_retN, wf_ifS, wf_setN, wf_setV, wf_setT, wf_par, wf_augI, wf_break, wf_cont, wf_thru, wf_raise, wf_tryAs, wm_xf, wm_is, wf_skip, wf_for, wm_var, wm_c, wm_frz, wm_frN, wm_nn, wm_un, wm_bin, wm_evs_nil, wm_evs_cons, wm_n, wm_tup, wm_lst, wm_bool, wm_notB, wm_andB, wm_orB, wm_and, wm_or, wm_if, wm_chain, wm_asInt, wm_noInt, wm_sl, wm_srcD, wm_srcN, wm_fmt, wm_js_nil, wm_js_cons, wm_tru, wm_strM, wm_mutL, wm_call, wm_comp, wc, EV.set, EV.kill, EV.kills, EV.put, EV.obj, EV.look, EV.looks, EV.objs, EV.key, EV.puts, argIx, argSl, gets, oD, oR, settled, List.set_cons_zero, List.set_cons_succ, List.getElem?_cons_zero, List.getElem?_cons_succ, List.replicate_succ, List.replicate_zero, List.map_cons, List.map_nil, List.length_cons, List.length_nil, List.nil_append, List.cons_append, Nat.reduceAdd, Nat.reduceSub, Nat.reduceLT, Nat.reduceLeDiff, List.nodup_cons, List.nodup_nil, List.not_mem_nil, not_false_eq_true, not_true_eq_false, and_self, and_true, true_and, and_false, false_and, if_true, if_false, reduceIte, Bool.false_eq_true, decide_eq_true_eq, decide_eq_false_iff_not, Bool.not_true, Bool.not_false, Bool.not_eq_true', Bool.not_eq_false', List.zip_cons_cons, List.zip_nil_right, List.zip_nil_left, List.foldl_cons, List.foldl_nil, tgN, tgT, tgT.go, tgL, mYes, wm_ret, List.headD_cons, addD, subD, mulD, modD, fdivD, powD, negD, cmpD, eqD, neD, isND, notND, isNone, lenD, intD, strD, listD, tupleD, ixD, min2D, max2D, appendM, popM, reverseM, clearM, rangeD1, rangeD, itemsD, truD, inKD, ixKD, splitD, joinD, slD, isiD, notD, at0, Int.reduceAdd, cut13]
    exact hE _
theorem act_out {a : Str} (h1 : a ≠ "take") (h2 : a ≠ "pass") : notInD (.str a) (.tup [.str "take", .str "pass"]) = some (.v (.bl true)) := by
  have e : inB (.str a) (.tup [.str "take", .str "pass"]) = some (L2.inV (.str a) [.str "take", .str "pass"]) := rfl
  have e2 : L2.inV (.str a) [.str "take", .str "pass"] = false := by
    unfold L2.inV
    have t : ∀ x : Str, a ≠ x → L2.eqV (.str x) (.str a) = false := fun x hx => by
      show (x == a) = false
      simpa using fun z : x = a => hx z.symm
    simp only [List.any_cons, List.any_nil, t _ h1, t _ h2, Bool.or_self]
  unfold notInD
  rw [e, e2]
  rfl
theorem act_in2 {a : Str} (h : a = "take" ∨ a = "pass") : notInD (.str a) (.tup [.str "take", .str "pass"]) = some (.v (.bl false)) := by
  rcases h with rfl | rfl <;> rfl
theorem cut14 {α : Type} (a : α) : cutD [a] (some 1) (some 4) = [] := by
  rw [cut_mid _ (by decide) (by decide)]
  rfl
theorem cut2_one {α : Type} (a : α) : cutD [a] (some 2) none = [] := by
  rw [cut_from _ (by decide)]
  rfl
theorem rc_one (x : Str) (E : Ko) (hE : ∀ ρ', E.rt (.v .non) ρ') : wf fb_read_conditions ⟨[some (.val (.lst [.str x])), none, none, none, none, none, none, none], []⟩ E := by
  unfold fb_read_conditions
  simp (decide := true) only [wf_seq, wf_seqL, wf_kill, wf_expr, wf_fret, wf_retN, wf_ifS, wf_setN, wf_setV, wf_setT, wf_par, wf_augI, wf_break, wf_cont, wf_thru, wf_raise, wf_tryAs, wm_xf, wm_is, wf_skip, wf_for, wm_var, wm_c, wm_frz, wm_frN, wm_nn, wm_un, wm_bin, wm_evs_nil, wm_evs_cons, wm_n, wm_tup, wm_lst, wm_bool, wm_notB, wm_andB, wm_orB, wm_and, wm_or, wm_if, wm_chain, wm_asInt, wm_noInt, wm_sl, wm_srcD, wm_srcN, wm_fmt, wm_js_nil, wm_js_cons, wm_tru, wm_strM, wm_mutL, wm_call, wm_comp, wc, EV.set, EV.kill, EV.kills, EV.put, EV.obj, EV.look, EV.looks, EV.objs, EV.key, EV.puts, argIx, argSl, gets, oD, oR, settled, List.set_cons_zero, List.set_cons_succ, List.getElem?_cons_zero, List.getElem?_cons_succ, List.replicate_succ, List.replicate_zero, List.map_cons, List.map_nil, List.length_cons, List.length_nil, List.nil_append, List.cons_append, Nat.reduceAdd, Nat.reduceSub, Nat.reduceLT, Nat.reduceLeDiff, List.nodup_cons, List.nodup_nil, List.not_mem_nil, not_false_eq_true, not_true_eq_false, and_self, and_true, true_and, and_false, false_and, if_true, if_false, reduceIte, Bool.false_eq_true, decide_eq_true_eq, decide_eq_false_iff_not, Bool.not_true, Bool.not_false, Bool.not_eq_true', Bool.not_eq_false', List.zip_cons_cons, List.zip_nil_right, List.zip_nil_left, List.foldl_cons, List.foldl_nil, tgN, tgT, tgT.go, tgL, mYes, wm_ret, List.headD_cons]
  refine wf_while (fun n ρ => n = 1 ∧ ρ = ⟨[some (.val (.lst [.str x])), some (.own (.lst [])), some (.val (.str "if")), none, none, none, none, none], []⟩) ?_ 1 _ _ (fuel_big (by decide)) ⟨rfl, rfl⟩
  rintro n ρ ⟨rfl, rfl⟩
  simp (decide := true) only [wf_seq, wf_seqL, wf_kill, wf_expr, wf_fret, wf_retN, wf_ifS, wf_setN, wf_setV, wf_setT, wf_par, wf_augI, wf_break, wf_cont, wf_thru, wf_raise, wf_tryAs, wm_xf, wm_is, wf_skip, wf_for, wm_var, wm_c, wm_frz, wm_frN, wm_nn, wm_un, wm_bin, wm_evs_nil, wm_evs_cons, wm_n, wm_tup, wm_lst, wm_bool, wm_notB, wm_andB, wm_orB, wm_and, wm_or, wm_if, wm_chain, wm_asInt, wm_noInt, wm_sl, wm_srcD, wm_srcN, wm_fmt, wm_js_nil, wm_js_cons, wm_tru, wm_strM, wm_mutL, wm_call, wm_comp, wc, EV.set, EV.kill, EV.kills, EV.put, EV.obj, EV.look, EV.looks, EV.objs, EV.key, EV.puts, argIx, argSl, gets, oD, oR, settled, List.set_cons_zero, List.set_cons_succ, List.getElem?_cons_zero, List.getElem?_cons_succ, List.replicate_succ, List.replicate_zero, List.map_cons, List.map_nil, List.length_cons, List.length_nil, List.nil_append, List.cons_append, Nat.reduceAdd, Nat.reduceSub, Nat.reduceLT, Nat.reduceLeDiff, List.nodup_cons, List.nodup_nil, List.not_mem_nil, not_false_eq_true, not_true_eq_false, and_self, and_true, true_and, and_false, false_and, if_true, if_false, reduceIte, Bool.false_eq_true, decide_eq_true_eq, decide_eq_false_iff_not, Bool.not_true, Bool.not_false, Bool.not_eq_true', Bool.not_eq_false', List.zip_cons_cons, List.zip_nil_right, List.zip_nil_left, List.foldl_cons, List.foldl_nil, tgN, tgT, tgT.go, tgL, mYes, wm_ret, List.headD_cons, addD, subD, mulD, modD, fdivD, powD, negD, cmpD, eqD, neD, isND, notND, isNone, lenD, intD, strD, listD, tupleD, ixD, min2D, max2D, appendM, popM, reverseM, clearM, rangeD1, rangeD, itemsD, truD, inKD, ixKD, splitD, joinD, slD, isiD, notD, List.isEmpty_cons]
  refine ⟨0, by decide, ?_⟩
  unfold lb_read_conditions_1
  simp (decide := true) only [wf_seqZ, wf_seqL, wf_kill, wf_expr, wf_fret, wf_retN, wf_ifS, wf_setN, wf_setV, wf_setT, wf_par, wf_augI, wf_break, wf_cont, wf_thru, wf_raise, wf_tryAs, wm_xf, wm_is, wf_skip, wf_for, wm_var, wm_c, wm_frz, wm_frN, wm_nn, wm_un, wm_bin, wm_evs_nil, wm_evs_cons, wm_n, wm_tup, wm_lst, wm_bool, wm_notB, wm_andB, wm_orB, wm_and, wm_or, wm_if, wm_chain, wm_asInt, wm_noInt, wm_sl, wm_srcD, wm_srcN, wm_fmt, wm_js_nil, wm_js_cons, wm_tru, wm_strM, wm_mutL, wm_call, wm_comp, wc, EV.set, EV.kill, EV.kills, EV.put, EV.obj, EV.look, EV.looks, EV.objs, EV.key, EV.puts, argIx, argSl, gets, oD, oR, settled, List.set_cons_zero, List.set_cons_succ, List.getElem?_cons_zero, List.getElem?_cons_succ, List.replicate_succ, List.replicate_zero, List.map_cons, List.map_nil, List.length_cons, List.length_nil, List.nil_append, List.cons_append, Nat.reduceAdd, Nat.reduceSub, Nat.reduceLT, Nat.reduceLeDiff, List.nodup_cons, List.nodup_nil, List.not_mem_nil, not_false_eq_true, not_true_eq_false, and_self, and_true, true_and, and_false, false_and, if_true, if_false, reduceIte, Bool.false_eq_true, decide_eq_true_eq, decide_eq_false_iff_not, Bool.not_true, Bool.not_false, Bool.not_eq_true', Bool.not_eq_false', List.zip_cons_cons, List.zip_nil_right, List.zip_nil_left, List.foldl_cons, List.foldl_nil, tgN, tgT, tgT.go, tgL, mYes, wm_ret, List.headD_cons, slD, cut2_one]
  refine tally_size_tot (ws := []) al_nil _ fun ρ' => ?_
  simp (decide := true) only [wf_seqZ, wf_seqL, wf_kill, wf_expr, wf_fret, wf_retN, wf_ifS, wf_setN, wf_setV, wf_setT, wf_par, wf_augI, wf_break, wf_cont, wf_thru, wf_raise, wf_tryAs, wm_xf, wm_is, wf_skip, wf_for, wm_var, wm_c, wm_frz, wm_frN, wm_nn, wm_un, wm_bin, wm_evs_nil, wm_evs_cons, wm_n, wm_tup, wm_lst, wm_bool, wm_notB, wm_andB, wm_orB, wm_and, wm_or, wm_if, wm_chain, wm_asInt, wm_noInt, wm_sl, wm_srcD, wm_srcN, wm_fmt, wm_js_nil, wm_js_cons, wm_tru, wm_strM, wm_mutL, wm_call, wm_comp, wc, EV.set, EV.kill, EV.kills, EV.put, EV.obj, EV.look, EV.looks, EV.objs, EV.key, EV.puts, argIx, argSl, gets, oD, oR, settled, List.set_cons_zero, List.set_cons_succ, List.getElem?_cons_zero, List.getElem?_cons_succ, List.replicate_succ, List.replicate_zero, List.map_cons, List.map_nil, List.length_cons, List.length_nil, List.nil_append, List.cons_append, Nat.reduceAdd, Nat.reduceSub, Nat.reduceLT, Nat.reduceLeDiff, List.nodup_cons, List.nodup_nil, List.not_mem_nil, not_false_eq_true, not_true_eq_false, and_self, and_true, true_and, and_false, false_and, if_true, if_false, reduceIte, Bool.false_eq_true, decide_eq_true_eq, decide_eq_false_iff_not, Bool.not_true, Bool.not_false, Bool.not_eq_true', Bool.not_eq_false', List.zip_cons_cons, List.zip_nil_right, List.zip_nil_left, List.foldl_cons, List.foldl_nil, tgN, tgT, tgT.go, tgL, mYes, wm_ret, List.headD_cons, tsz]
  unfold later rb_read_conditions_1
  simp (decide := true) only [wf_seqZ, wf_seqL, wf_kill, wf_expr, wf_fret, wf_retN, wf_ifS, wf_setN, wf_setV, wf_setT, wf_par, wf_augI, wf_break, wf_cont, wf_thru, wf_raise, wf_tryAs, wm_xf, wm_is, wf_skip, wf_for, wm_var, wm_c, wm_frz, wm_frN, wm_nn, wm_un, wm_bin, wm_evs_nil, wm_evs_cons, wm_n, wm_tup, wm_lst, wm_bool, wm_notB, wm_andB, wm_orB, wm_and, wm_or, wm_if, wm_chain, wm_asInt, wm_noInt, wm_sl, wm_srcD, wm_srcN, wm_fmt, wm_js_nil, wm_js_cons, wm_tru, wm_strM, wm_mutL, wm_call, wm_comp, wc, EV.set, EV.kill, EV.kills, EV.put, EV.obj, EV.look, EV.looks, EV.objs, EV.key, EV.puts, argIx, argSl, gets, oD, oR, settled, List.set_cons_zero, List.set_cons_succ, List.getElem?_cons_zero, List.getElem?_cons_succ, List.replicate_succ, List.replicate_zero, List.map_cons, List.map_nil, List.length_cons, List.length_nil, List.nil_append, List.cons_append, Nat.reduceAdd, Nat.reduceSub, Nat.reduceLT, Nat.reduceLeDiff, List.nodup_cons, List.nodup_nil, List.not_mem_nil, not_false_eq_true, not_true_eq_false, and_self, and_true, true_and, and_false, false_and, if_true, if_false, reduceIte, Bool.false_eq_true, decide_eq_true_eq, decide_eq_false_iff_not, Bool.not_true, Bool.not_false, Bool.not_eq_true', Bool.not_eq_false', List.zip_cons_cons, List.zip_nil_right, List.zip_nil_left, List.foldl_cons, List.foldl_nil, tgN, tgT, tgT.go, tgL, mYes, wm_ret, List.headD_cons, slD, addD, Int.reduceAdd, cut14]
  rw [later_eq]
  by_cases z : x = "if"
  · simp (decide := true) only [wf_seqZ, wf_seqL, wf_kill, wf_expr, wf_fret, wf_retN, wf_ifS, wf_setN, wf_setV, wf_setT, wf_par, wf_augI, wf_break, wf_cont, wf_thru, wf_raise, wf_tryAs, wm_xf, wm_is, wf_skip, wf_for, wm_var, wm_c, wm_frz, wm_frN, wm_nn, wm_un, wm_bin, wm_evs_nil, wm_evs_cons, wm_n, wm_tup, wm_lst, wm_bool, wm_notB, wm_andB, wm_orB, wm_and, wm_or, wm_if, wm_chain, wm_asInt, wm_noInt, wm_sl, wm_srcD, wm_srcN, wm_fmt, wm_js_nil, wm_js_cons, wm_tru, wm_strM, wm_mutL, wm_call, wm_comp, wc, EV.set, EV.kill, EV.kills, EV.put, EV.obj, EV.look, EV.looks, EV.objs, EV.key, EV.puts, argIx, argSl, gets, oD, oR, settled, List.set_cons_zero, List.set_cons_succ, List.getElem?_cons_zero, List.getElem?_cons_succ, List.replicate_succ, List.replicate_zero, List.map_cons, List.map_nil, List.length_cons, List.length_nil, List.nil_append, List.cons_append, Nat.reduceAdd, Nat.reduceSub, Nat.reduceLT, Nat.reduceLeDiff, List.nodup_cons, List.nodup_nil, List.not_mem_nil, not_false_eq_true, not_true_eq_false, and_self, and_true, true_and, and_false, false_and, if_true, if_false, reduceIte, Bool.false_eq_true, decide_eq_true_eq, decide_eq_false_iff_not, Bool.not_true, Bool.not_false, Bool.not_eq_true', Bool.not_eq_false', List.zip_cons_cons, List.zip_nil_right, List.zip_nil_left, List.foldl_cons, List.foldl_nil, tgN, tgT, tgT.go, tgL, mYes, wm_ret, List.headD_cons, addD, subD, mulD, modD, fdivD, powD, negD, cmpD, eqD, neD, isND, notND, isNone, lenD, intD, strD, listD, tupleD, ixD, min2D, max2D, appendM, popM, reverseM, clearM, rangeD1, rangeD, itemsD, truD, inKD, ixKD, splitD, joinD, slD, isiD, notD, at0, z]
    exact hE _
  · simp (decide := true) only [wf_seqZ, wf_seqL, wf_kill, wf_expr, wf_fret, wf_retN, wf_ifS, wf_setN, wf_setV, wf_setT, wf_par, wf_augI, wf_break, wf_cont, wf_thru, wf_raise, wf_tryAs, wm_xf, wm_is, wf_skip, wf_for, wm_var, wm_c, wm_frz, wm_frN, wm_nn, wm_un, wm_bin, wm_evs_nil, wm_evs_cons, wm_n, wm_tup, wm_lst, wm_bool, wm_notB, wm_andB, wm_orB, wm_and, wm_or, wm_if, wm_chain, wm_asInt, wm_noInt, wm_sl, wm_srcD, wm_srcN, wm_fmt, wm_js_nil, wm_js_cons, wm_tru, wm_strM, wm_mutL, wm_call, wm_comp, wc, EV.set, EV.kill, EV.kills, EV.put, EV.obj, EV.look, EV.looks, EV.objs, EV.key, EV.puts, argIx, argSl, gets, oD, oR, settled, List.set_cons_zero, List.set_cons_succ, List.getElem?_cons_zero, List.getElem?_cons_succ, List.replicate_succ, List.replicate_zero, List.map_cons, List.map_nil, List.length_cons, List.length_nil, List.nil_append, List.cons_append, Nat.reduceAdd, Nat.reduceSub, Nat.reduceLT, Nat.reduceLeDiff, List.nodup_cons, List.nodup_nil, List.not_mem_nil, not_false_eq_true, not_true_eq_false, and_self, and_true, true_and, and_false, false_and, if_true, if_false, reduceIte, Bool.false_eq_true, decide_eq_true_eq, decide_eq_false_iff_not, Bool.not_true, Bool.not_false, Bool.not_eq_true', Bool.not_eq_false', List.zip_cons_cons, List.zip_nil_right, List.zip_nil_left, List.foldl_cons, List.foldl_nil, tgN, tgT, tgT.go, tgL, mYes, wm_ret, List.headD_cons, addD, subD, mulD, modD, fdivD, powD, negD, cmpD, eqD, neD, isND, notND, isNone, lenD, intD, strD, listD, tupleD, ixD, min2D, max2D, appendM, popM, reverseM, clearM, rangeD1, rangeD, itemsD, truD, inKD, ixKD, splitD, joinD, slD, isiD, notD, at0, z]
    exact hE _
/-- words of a line that is no rule -/
inductive NoRule : List Str → Prop where
  | act {a : Str} {r : List Str} : a ≠ "take" → a ≠ "pass" → NoRule (a :: r)
  | size {a : Str} {r : List Str} : tsz r = 0 → NoRule (a :: r)
  | own {a : Str} {r : List Str} : NoRule (a :: "own" :: r)
  | cond1 {a b x : Str} : tsz [b, x] = 1 → NoRule [a, b, x]
  | cond2 {a b c x : Str} : tsz [b, c, x] = 2 → NoRule [a, b, c, x]
structure BadL (ws : List Str) : Prop where
  sh : ∀ w ∈ ws, shortW w ∧ 32 ∉ TL.tl w
  len : ws.length ≤ 10
  no : NoRule ws
theorem txt_split2 {ws : List Str} (h : ∀ w ∈ ws, shortW w ∧ 32 ∉ TL.tl w) (hn : ws ≠ []) : Txt.split (txt ws) " " = ws := TL.split_join (s := 32) (S := []) (by decide) (by decide +kernel) hn fun p hp => (h p hp).2
theorem sumN {n : Nat} : ∀ {ws : List Str}, (∀ w ∈ ws, w.length ≤ n) → (ws.map (·.length)).sum ≤ n * ws.length
  | [], _ => Nat.le_refl _
  | w :: ws, h => by
    have h1 := h w List.mem_cons_self
    have h2 := sumN (ws := ws) fun w hw => h w (List.mem_cons_of_mem _ hw)
    rw [List.map_cons, List.sum_cons, List.length_cons, Nat.mul_succ]
    omega
theorem bad_read {ws : List Str} (h : BadL ws) (E : Ko) (hE : ∀ ρ', E.ex ⟨"BadRule", [("line", .str (txt ws))]⟩ ρ') : wf fb_read_rule ⟨[some (.val (.str (txt ws))), none, none, none], []⟩ E := by
  obtain ⟨a, r, rfl⟩ : ∃ a r, ws = a :: r := by
    rcases h.no with _ | _ | _ | _ | _ <;> exact ⟨_, _, rfl⟩
  have hs := txt_split2 h.sh (List.cons_ne_nil _ _)
  have hr : ∀ w ∈ r, shortW w := fun w hw => (h.sh w (List.mem_cons_of_mem _ hw)).1
  have hz : szOk ((txt (a :: r)).length + 2) := by
    have h1 := txt_len " " (a :: r)
    have h2 := sumN (n := 100) (ws := a :: r) fun w hw => (h.sh w hw).1.2
    have h3 := h.len
    rw [sp_len] at h1
    unfold szOk
    show (Txt.join " " (a :: r)).length + 2 ≤ _
    omega
  unfold fb_read_rule
  simp (decide := true) only [wf_seq, wf_seqL, wf_kill, wf_expr, wf_fret, wf_retN, wf_ifS, wf_setN, wf_setV, wf_setT, wf_par, wf_augI, wf_break, wf_cont, wf_thru, wf_raise, wf_tryAs, wm_xf, wm_is, wf_skip, wf_for, wm_var, wm_c, wm_frz, wm_frN, wm_nn, wm_un, wm_bin, wm_evs_nil, wm_evs_cons, wm_n, wm_tup, wm_lst, wm_bool, wm_notB, wm_andB, wm_orB, wm_and, wm_or, wm_if, wm_chain, wm_asInt, wm_noInt, wm_sl, wm_srcD, wm_srcN, wm_fmt, wm_js_nil, wm_js_cons, wm_tru, wm_strM, wm_mutL, wm_call, wm_comp, wc, EV.set, EV.kill, EV.kills, EV.put, EV.obj, EV.look, EV.looks, EV.objs, EV.key, EV.puts, argIx, argSl, gets, oD, oR, settled, List.set_cons_zero, List.set_cons_succ, List.getElem?_cons_zero, List.getElem?_cons_succ, List.replicate_succ, List.replicate_zero, List.map_cons, List.map_nil, List.length_cons, List.length_nil, List.nil_append, List.cons_append, Nat.reduceAdd, Nat.reduceSub, Nat.reduceLT, Nat.reduceLeDiff, List.nodup_cons, List.nodup_nil, List.not_mem_nil, not_false_eq_true, not_true_eq_false, and_self, and_true, true_and, and_false, false_and, if_true, if_false, reduceIte, Bool.false_eq_true, decide_eq_true_eq, decide_eq_false_iff_not, Bool.not_true, Bool.not_false, Bool.not_eq_true', Bool.not_eq_false', List.zip_cons_cons, List.zip_nil_right, List.zip_nil_left, List.foldl_cons, List.foldl_nil, tgN, tgT, tgT.go, tgL, mYes, wm_ret, List.headD_cons, addD, subD, mulD, modD, fdivD, powD, negD, cmpD, eqD, neD, isND, notND, isNone, lenD, intD, strD, listD, tupleD, ixD, min2D, max2D, appendM, popM, reverseM, clearM, rangeD1, rangeD, itemsD, truD, inKD, ixKD, splitD, joinD, slD, isiD, notD, sp_len, Nat.succ_ne_zero, Nat.one_ne_zero, beq_iff_eq, Nat.reduceBEq, hz, hs]
  simp (decide := true) only [wf_seq, wf_seqL, wf_kill, wf_expr, wf_fret, wf_retN, wf_ifS, wf_setN, wf_setV, wf_setT, wf_par, wf_augI, wf_break, wf_cont, wf_thru, wf_raise, wf_tryAs, wm_xf, wm_is, wf_skip, wf_for, wm_var, wm_c, wm_frz, wm_frN, wm_nn, wm_un, wm_bin, wm_evs_nil, wm_evs_cons, wm_n, wm_tup, wm_lst, wm_bool, wm_notB, wm_andB, wm_orB, wm_and, wm_or, wm_if, wm_chain, wm_asInt, wm_noInt, wm_sl, wm_srcD, wm_srcN, wm_fmt, wm_js_nil, wm_js_cons, wm_tru, wm_strM, wm_mutL, wm_call, wm_comp, wc, EV.set, EV.kill, EV.kills, EV.put, EV.obj, EV.look, EV.looks, EV.objs, EV.key, EV.puts, argIx, argSl, gets, oD, oR, settled, List.set_cons_zero, List.set_cons_succ, List.getElem?_cons_zero, List.getElem?_cons_succ, List.replicate_succ, List.replicate_zero, List.map_cons, List.map_nil, List.length_cons, List.length_nil, List.nil_append, List.cons_append, Nat.reduceAdd, Nat.reduceSub, Nat.reduceLT, Nat.reduceLeDiff, List.nodup_cons, List.nodup_nil, List.not_mem_nil, not_false_eq_true, not_true_eq_false, and_self, and_true, true_and, and_false, false_and, if_true, if_false, reduceIte, Bool.false_eq_true, decide_eq_true_eq, decide_eq_false_iff_not, Bool.not_true, Bool.not_false, Bool.not_eq_true', Bool.not_eq_false', List.zip_cons_cons, List.zip_nil_right, List.zip_nil_left, List.foldl_cons, List.foldl_nil, tgN, tgT, tgT.go, tgL, mYes, wm_ret, List.headD_cons, cut1]
  refine tally_size_tot hr _ fun ρ' => ?_
  simp (decide := true) only [wf_seq, wf_seqL, wf_kill, wf_expr, wf_fret, wf_retN, wf_ifS, wf_setN, wf_setV, wf_setT, wf_par, wf_augI, wf_break, wf_cont, wf_thru, wf_raise, wf_tryAs, wm_xf, wm_is, wf_skip, wf_for, wm_var, wm_c, wm_frz, wm_frN, wm_nn, wm_un, wm_bin, wm_evs_nil, wm_evs_cons, wm_n, wm_tup, wm_lst, wm_bool, wm_notB, wm_andB, wm_orB, wm_and, wm_or, wm_if, wm_chain, wm_asInt, wm_noInt, wm_sl, wm_srcD, wm_srcN, wm_fmt, wm_js_nil, wm_js_cons, wm_tru, wm_strM, wm_mutL, wm_call, wm_comp, wc, EV.set, EV.kill, EV.kills, EV.put, EV.obj, EV.look, EV.looks, EV.objs, EV.key, EV.puts, argIx, argSl, gets, oD, oR, settled, List.set_cons_zero, List.set_cons_succ, List.getElem?_cons_zero, List.getElem?_cons_succ, List.replicate_succ, List.replicate_zero, List.map_cons, List.map_nil, List.length_cons, List.length_nil, List.nil_append, List.cons_append, Nat.reduceAdd, Nat.reduceSub, Nat.reduceLT, Nat.reduceLeDiff, List.nodup_cons, List.nodup_nil, List.not_mem_nil, not_false_eq_true, not_true_eq_false, and_self, and_true, true_and, and_false, false_and, if_true, if_false, reduceIte, Bool.false_eq_true, decide_eq_true_eq, decide_eq_false_iff_not, Bool.not_true, Bool.not_false, Bool.not_eq_true', Bool.not_eq_false', List.zip_cons_cons, List.zip_nil_right, List.zip_nil_left, List.foldl_cons, List.foldl_nil, tgN, tgT, tgT.go, tgL, mYes, wm_ret, List.headD_cons]
  unfold later rb_read_rule_2
  by_cases ha : a = "take" ∨ a = "pass"
  · have hn := act_in2 ha
    by_cases hsz : tsz r = 0
    · simp (decide := true) only [wf_seqZ, wf_seqL, wf_kill, wf_expr, wf_fret, wf_retN, wf_ifS, wf_setN, wf_setV, wf_setT, wf_par, wf_augI, wf_break, wf_cont, wf_thru, wf_raise, wf_tryAs, wm_xf, wm_is, wf_skip, wf_for, wm_var, wm_c, wm_frz, wm_frN, wm_nn, wm_un, wm_bin, wm_evs_nil, wm_evs_cons, wm_n, wm_tup, wm_lst, wm_bool, wm_notB, wm_andB, wm_orB, wm_and, wm_or, wm_if, wm_chain, wm_asInt, wm_noInt, wm_sl, wm_srcD, wm_srcN, wm_fmt, wm_js_nil, wm_js_cons, wm_tru, wm_strM, wm_mutL, wm_call, wm_comp, wc, EV.set, EV.kill, EV.kills, EV.put, EV.obj, EV.look, EV.looks, EV.objs, EV.key, EV.puts, argIx, argSl, gets, oD, oR, settled, List.set_cons_zero, List.set_cons_succ, List.getElem?_cons_zero, List.getElem?_cons_succ, List.replicate_succ, List.replicate_zero, List.map_cons, List.map_nil, List.length_cons, List.length_nil, List.nil_append, List.cons_append, Nat.reduceAdd, Nat.reduceSub, Nat.reduceLT, Nat.reduceLeDiff, List.nodup_cons, List.nodup_nil, List.not_mem_nil, not_false_eq_true, not_true_eq_false, and_self, and_true, true_and, and_false, false_and, if_true, if_false, reduceIte, Bool.false_eq_true, decide_eq_true_eq, decide_eq_false_iff_not, Bool.not_true, Bool.not_false, Bool.not_eq_true', Bool.not_eq_false', List.zip_cons_cons, List.zip_nil_right, List.zip_nil_left, List.foldl_cons, List.foldl_nil, tgN, tgT, tgT.go, tgL, mYes, wm_ret, List.headD_cons, addD, subD, mulD, modD, fdivD, powD, negD, cmpD, eqD, neD, isND, notND, isNone, lenD, intD, strD, listD, tupleD, ixD, min2D, max2D, appendM, popM, reverseM, clearM, rangeD1, rangeD, itemsD, truD, inKD, ixKD, splitD, joinD, slD, isiD, notD, at0, hn, hsz]
      exact hE _
    · have cases_ : (∃ l, r = ("own" : Str) :: l) ∨ (∃ b x, r = [b, x] ∧ tsz r = 1) ∨ ∃ b c x, r = [b, c, x] ∧ tsz r = 2 := by
        cases h.no with
        | act h1 h2 => rcases ha with h | h
                       · exact absurd h h1
                       · exact absurd h h2
        | size h1 => exact absurd h1 hsz
        | own => exact .inl ⟨_, rfl⟩
        | cond1 h1 => exact .inr (.inl ⟨_, _, rfl, h1⟩)
        | cond2 h1 => exact .inr (.inr ⟨_, _, _, rfl, h1⟩)
      rcases cases_ with ⟨l, rfl⟩ | ⟨b, x, rfl, e⟩ | ⟨b, c, x, rfl, e⟩
      · simp (decide := true) only [wf_seqZ, wf_seqL, wf_kill, wf_expr, wf_fret, wf_retN, wf_ifS, wf_setN, wf_setV, wf_setT, wf_par, wf_augI, wf_break, wf_cont, wf_thru, wf_raise, wf_tryAs, wm_xf, wm_is, wf_skip, wf_for, wm_var, wm_c, wm_frz, wm_frN, wm_nn, wm_un, wm_bin, wm_evs_nil, wm_evs_cons, wm_n, wm_tup, wm_lst, wm_bool, wm_notB, wm_andB, wm_orB, wm_and, wm_or, wm_if, wm_chain, wm_asInt, wm_noInt, wm_sl, wm_srcD, wm_srcN, wm_fmt, wm_js_nil, wm_js_cons, wm_tru, wm_strM, wm_mutL, wm_call, wm_comp, wc, EV.set, EV.kill, EV.kills, EV.put, EV.obj, EV.look, EV.looks, EV.objs, EV.key, EV.puts, argIx, argSl, gets, oD, oR, settled, List.set_cons_zero, List.set_cons_succ, List.getElem?_cons_zero, List.getElem?_cons_succ, List.replicate_succ, List.replicate_zero, List.map_cons, List.map_nil, List.length_cons, List.length_nil, List.nil_append, List.cons_append, Nat.reduceAdd, Nat.reduceSub, Nat.reduceLT, Nat.reduceLeDiff, List.nodup_cons, List.nodup_nil, List.not_mem_nil, not_false_eq_true, not_true_eq_false, and_self, and_true, true_and, and_false, false_and, if_true, if_false, reduceIte, Bool.false_eq_true, decide_eq_true_eq, decide_eq_false_iff_not, Bool.not_true, Bool.not_false, Bool.not_eq_true', Bool.not_eq_false', List.zip_cons_cons, List.zip_nil_right, List.zip_nil_left, List.foldl_cons, List.foldl_nil, tgN, tgT, tgT.go, tgL, mYes, wm_ret, List.headD_cons, addD, subD, mulD, modD, fdivD, powD, negD, cmpD, eqD, neD, isND, notND, isNone, lenD, intD, strD, listD, tupleD, ixD, min2D, max2D, appendM, popM, reverseM, clearM, rangeD1, rangeD, itemsD, truD, inKD, ixKD, splitD, joinD, slD, isiD, notD, at0, at1, hn, hsz, List.map_cons]
        exact hE _
      · by_cases hb : b = "own"
        · subst hb
          simp (decide := true) only [wf_seqZ, wf_seqL, wf_kill, wf_expr, wf_fret, wf_retN, wf_ifS, wf_setN, wf_setV, wf_setT, wf_par, wf_augI, wf_break, wf_cont, wf_thru, wf_raise, wf_tryAs, wm_xf, wm_is, wf_skip, wf_for, wm_var, wm_c, wm_frz, wm_frN, wm_nn, wm_un, wm_bin, wm_evs_nil, wm_evs_cons, wm_n, wm_tup, wm_lst, wm_bool, wm_notB, wm_andB, wm_orB, wm_and, wm_or, wm_if, wm_chain, wm_asInt, wm_noInt, wm_sl, wm_srcD, wm_srcN, wm_fmt, wm_js_nil, wm_js_cons, wm_tru, wm_strM, wm_mutL, wm_call, wm_comp, wc, EV.set, EV.kill, EV.kills, EV.put, EV.obj, EV.look, EV.looks, EV.objs, EV.key, EV.puts, argIx, argSl, gets, oD, oR, settled, List.set_cons_zero, List.set_cons_succ, List.getElem?_cons_zero, List.getElem?_cons_succ, List.replicate_succ, List.replicate_zero, List.map_cons, List.map_nil, List.length_cons, List.length_nil, List.nil_append, List.cons_append, Nat.reduceAdd, Nat.reduceSub, Nat.reduceLT, Nat.reduceLeDiff, List.nodup_cons, List.nodup_nil, List.not_mem_nil, not_false_eq_true, not_true_eq_false, and_self, and_true, true_and, and_false, false_and, if_true, if_false, reduceIte, Bool.false_eq_true, decide_eq_true_eq, decide_eq_false_iff_not, Bool.not_true, Bool.not_false, Bool.not_eq_true', Bool.not_eq_false', List.zip_cons_cons, List.zip_nil_right, List.zip_nil_left, List.foldl_cons, List.foldl_nil, tgN, tgT, tgT.go, tgL, mYes, wm_ret, List.headD_cons, addD, subD, mulD, modD, fdivD, powD, negD, cmpD, eqD, neD, isND, notND, isNone, lenD, intD, strD, listD, tupleD, ixD, min2D, max2D, appendM, popM, reverseM, clearM, rangeD1, rangeD, itemsD, truD, inKD, ixKD, splitD, joinD, slD, isiD, notD, at0, at1, hn, hsz, List.map_cons]
          exact hE _
        · simp (decide := true) only [wf_seqZ, wf_seqL, wf_kill, wf_expr, wf_fret, wf_retN, wf_ifS, wf_setN, wf_setV, wf_setT, wf_par, wf_augI, wf_break, wf_cont, wf_thru, wf_raise, wf_tryAs, wm_xf, wm_is, wf_skip, wf_for, wm_var, wm_c, wm_frz, wm_frN, wm_nn, wm_un, wm_bin, wm_evs_nil, wm_evs_cons, wm_n, wm_tup, wm_lst, wm_bool, wm_notB, wm_andB, wm_orB, wm_and, wm_or, wm_if, wm_chain, wm_asInt, wm_noInt, wm_sl, wm_srcD, wm_srcN, wm_fmt, wm_js_nil, wm_js_cons, wm_tru, wm_strM, wm_mutL, wm_call, wm_comp, wc, EV.set, EV.kill, EV.kills, EV.put, EV.obj, EV.look, EV.looks, EV.objs, EV.key, EV.puts, argIx, argSl, gets, oD, oR, settled, List.set_cons_zero, List.set_cons_succ, List.getElem?_cons_zero, List.getElem?_cons_succ, List.replicate_succ, List.replicate_zero, List.map_cons, List.map_nil, List.length_cons, List.length_nil, List.nil_append, List.cons_append, Nat.reduceAdd, Nat.reduceSub, Nat.reduceLT, Nat.reduceLeDiff, List.nodup_cons, List.nodup_nil, List.not_mem_nil, not_false_eq_true, not_true_eq_false, and_self, and_true, true_and, and_false, false_and, if_true, if_false, reduceIte, Bool.false_eq_true, decide_eq_true_eq, decide_eq_false_iff_not, Bool.not_true, Bool.not_false, Bool.not_eq_true', Bool.not_eq_false', List.zip_cons_cons, List.zip_nil_right, List.zip_nil_left, List.foldl_cons, List.foldl_nil, tgN, tgT, tgT.go, tgL, mYes, wm_ret, List.headD_cons, addD, subD, mulD, modD, fdivD, powD, negD, cmpD, eqD, neD, isND, notND, isNone, lenD, intD, strD, listD, tupleD, ixD, min2D, max2D, appendM, popM, reverseM, clearM, rangeD1, rangeD, itemsD, truD, inKD, ixKD, splitD, joinD, slD, isiD, notD, at0, at1, hn, e, hb, List.map_cons, List.map_nil]
          rw [later_eq]
          simp (decide := true) only [wf_seq, wf_seqL, wf_kill, wf_expr, wf_fret, wf_retN, wf_ifS, wf_setN, wf_setV, wf_setT, wf_par, wf_augI, wf_break, wf_cont, wf_thru, wf_raise, wf_tryAs, wm_xf, wm_is, wf_skip, wf_for, wm_var, wm_c, wm_frz, wm_frN, wm_nn, wm_un, wm_bin, wm_evs_nil, wm_evs_cons, wm_n, wm_tup, wm_lst, wm_bool, wm_notB, wm_andB, wm_orB, wm_and, wm_or, wm_if, wm_chain, wm_asInt, wm_noInt, wm_sl, wm_srcD, wm_srcN, wm_fmt, wm_js_nil, wm_js_cons, wm_tru, wm_strM, wm_mutL, wm_call, wm_comp, wc, EV.set, EV.kill, EV.kills, EV.put, EV.obj, EV.look, EV.looks, EV.objs, EV.key, EV.puts, argIx, argSl, gets, oD, oR, settled, List.set_cons_zero, List.set_cons_succ, List.getElem?_cons_zero, List.getElem?_cons_succ, List.replicate_succ, List.replicate_zero, List.map_cons, List.map_nil, List.length_cons, List.length_nil, List.nil_append, List.cons_append, Nat.reduceAdd, Nat.reduceSub, Nat.reduceLT, Nat.reduceLeDiff, List.nodup_cons, List.nodup_nil, List.not_mem_nil, not_false_eq_true, not_true_eq_false, and_self, and_true, true_and, and_false, false_and, if_true, if_false, reduceIte, Bool.false_eq_true, decide_eq_true_eq, decide_eq_false_iff_not, Bool.not_true, Bool.not_false, Bool.not_eq_true', Bool.not_eq_false', List.zip_cons_cons, List.zip_nil_right, List.zip_nil_left, List.foldl_cons, List.foldl_nil, tgN, tgT, tgT.go, tgL, mYes, wm_ret, List.headD_cons, slD, addD, Int.reduceAdd, cut2]
          refine rc_one x _ fun ρ' => ?_
          simp (decide := true) only [wf_seq, wf_seqL, wf_kill, wf_expr, wf_fret, wf_retN, wf_ifS, wf_setN, wf_setV, wf_setT, wf_par, wf_augI, wf_break, wf_cont, wf_thru, wf_raise, wf_tryAs, wm_xf, wm_is, wf_skip, wf_for, wm_var, wm_c, wm_frz, wm_frN, wm_nn, wm_un, wm_bin, wm_evs_nil, wm_evs_cons, wm_n, wm_tup, wm_lst, wm_bool, wm_notB, wm_andB, wm_orB, wm_and, wm_or, wm_if, wm_chain, wm_asInt, wm_noInt, wm_sl, wm_srcD, wm_srcN, wm_fmt, wm_js_nil, wm_js_cons, wm_tru, wm_strM, wm_mutL, wm_call, wm_comp, wc, EV.set, EV.kill, EV.kills, EV.put, EV.obj, EV.look, EV.looks, EV.objs, EV.key, EV.puts, argIx, argSl, gets, oD, oR, settled, List.set_cons_zero, List.set_cons_succ, List.getElem?_cons_zero, List.getElem?_cons_succ, List.replicate_succ, List.replicate_zero, List.map_cons, List.map_nil, List.length_cons, List.length_nil, List.nil_append, List.cons_append, Nat.reduceAdd, Nat.reduceSub, Nat.reduceLT, Nat.reduceLeDiff, List.nodup_cons, List.nodup_nil, List.not_mem_nil, not_false_eq_true, not_true_eq_false, and_self, and_true, true_and, and_false, false_and, if_true, if_false, reduceIte, Bool.false_eq_true, decide_eq_true_eq, decide_eq_false_iff_not, Bool.not_true, Bool.not_false, Bool.not_eq_true', Bool.not_eq_false', List.zip_cons_cons, List.zip_nil_right, List.zip_nil_left, List.foldl_cons, List.foldl_nil, tgN, tgT, tgT.go, tgL, mYes, wm_ret, List.headD_cons]
          unfold later rb_read_rule_1
          simp (decide := true) only [wf_seq, wf_seqL, wf_kill, wf_expr, wf_fret, wf_retN, wf_ifS, wf_setN, wf_setV, wf_setT, wf_par, wf_augI, wf_break, wf_cont, wf_thru, wf_raise, wf_tryAs, wm_xf, wm_is, wf_skip, wf_for, wm_var, wm_c, wm_frz, wm_frN, wm_nn, wm_un, wm_bin, wm_evs_nil, wm_evs_cons, wm_n, wm_tup, wm_lst, wm_bool, wm_notB, wm_andB, wm_orB, wm_and, wm_or, wm_if, wm_chain, wm_asInt, wm_noInt, wm_sl, wm_srcD, wm_srcN, wm_fmt, wm_js_nil, wm_js_cons, wm_tru, wm_strM, wm_mutL, wm_call, wm_comp, wc, EV.set, EV.kill, EV.kills, EV.put, EV.obj, EV.look, EV.looks, EV.objs, EV.key, EV.puts, argIx, argSl, gets, oD, oR, settled, List.set_cons_zero, List.set_cons_succ, List.getElem?_cons_zero, List.getElem?_cons_succ, List.replicate_succ, List.replicate_zero, List.map_cons, List.map_nil, List.length_cons, List.length_nil, List.nil_append, List.cons_append, Nat.reduceAdd, Nat.reduceSub, Nat.reduceLT, Nat.reduceLeDiff, List.nodup_cons, List.nodup_nil, List.not_mem_nil, not_false_eq_true, not_true_eq_false, and_self, and_true, true_and, and_false, false_and, if_true, if_false, reduceIte, Bool.false_eq_true, decide_eq_true_eq, decide_eq_false_iff_not, Bool.not_true, Bool.not_false, Bool.not_eq_true', Bool.not_eq_false', List.zip_cons_cons, List.zip_nil_right, List.zip_nil_left, List.foldl_cons, List.foldl_nil, tgN, tgT, tgT.go, tgL, mYes, wm_ret, List.headD_cons, addD, subD, mulD, modD, fdivD, powD, negD, cmpD, eqD, neD, isND, notND, isNone, lenD, intD, strD, listD, tupleD, ixD, min2D, max2D, appendM, popM, reverseM, clearM, rangeD1, rangeD, itemsD, truD, inKD, ixKD, splitD, joinD, slD, isiD, notD]
          exact hE _
      · by_cases hb : b = "own"
        · subst hb
          simp (decide := true) only [wf_seqZ, wf_seqL, wf_kill, wf_expr, wf_fret, wf_retN, wf_ifS, wf_setN, wf_setV, wf_setT, wf_par, wf_augI, wf_break, wf_cont, wf_thru, wf_raise, wf_tryAs, wm_xf, wm_is, wf_skip, wf_for, wm_var, wm_c, wm_frz, wm_frN, wm_nn, wm_un, wm_bin, wm_evs_nil, wm_evs_cons, wm_n, wm_tup, wm_lst, wm_bool, wm_notB, wm_andB, wm_orB, wm_and, wm_or, wm_if, wm_chain, wm_asInt, wm_noInt, wm_sl, wm_srcD, wm_srcN, wm_fmt, wm_js_nil, wm_js_cons, wm_tru, wm_strM, wm_mutL, wm_call, wm_comp, wc, EV.set, EV.kill, EV.kills, EV.put, EV.obj, EV.look, EV.looks, EV.objs, EV.key, EV.puts, argIx, argSl, gets, oD, oR, settled, List.set_cons_zero, List.set_cons_succ, List.getElem?_cons_zero, List.getElem?_cons_succ, List.replicate_succ, List.replicate_zero, List.map_cons, List.map_nil, List.length_cons, List.length_nil, List.nil_append, List.cons_append, Nat.reduceAdd, Nat.reduceSub, Nat.reduceLT, Nat.reduceLeDiff, List.nodup_cons, List.nodup_nil, List.not_mem_nil, not_false_eq_true, not_true_eq_false, and_self, and_true, true_and, and_false, false_and, if_true, if_false, reduceIte, Bool.false_eq_true, decide_eq_true_eq, decide_eq_false_iff_not, Bool.not_true, Bool.not_false, Bool.not_eq_true', Bool.not_eq_false', List.zip_cons_cons, List.zip_nil_right, List.zip_nil_left, List.foldl_cons, List.foldl_nil, tgN, tgT, tgT.go, tgL, mYes, wm_ret, List.headD_cons, addD, subD, mulD, modD, fdivD, powD, negD, cmpD, eqD, neD, isND, notND, isNone, lenD, intD, strD, listD, tupleD, ixD, min2D, max2D, appendM, popM, reverseM, clearM, rangeD1, rangeD, itemsD, truD, inKD, ixKD, splitD, joinD, slD, isiD, notD, at0, at1, hn, hsz, List.map_cons]
          exact hE _
        · simp (decide := true) only [wf_seqZ, wf_seqL, wf_kill, wf_expr, wf_fret, wf_retN, wf_ifS, wf_setN, wf_setV, wf_setT, wf_par, wf_augI, wf_break, wf_cont, wf_thru, wf_raise, wf_tryAs, wm_xf, wm_is, wf_skip, wf_for, wm_var, wm_c, wm_frz, wm_frN, wm_nn, wm_un, wm_bin, wm_evs_nil, wm_evs_cons, wm_n, wm_tup, wm_lst, wm_bool, wm_notB, wm_andB, wm_orB, wm_and, wm_or, wm_if, wm_chain, wm_asInt, wm_noInt, wm_sl, wm_srcD, wm_srcN, wm_fmt, wm_js_nil, wm_js_cons, wm_tru, wm_strM, wm_mutL, wm_call, wm_comp, wc, EV.set, EV.kill, EV.kills, EV.put, EV.obj, EV.look, EV.looks, EV.objs, EV.key, EV.puts, argIx, argSl, gets, oD, oR, settled, List.set_cons_zero, List.set_cons_succ, List.getElem?_cons_zero, List.getElem?_cons_succ, List.replicate_succ, List.replicate_zero, List.map_cons, List.map_nil, List.length_cons, List.length_nil, List.nil_append, List.cons_append, Nat.reduceAdd, Nat.reduceSub, Nat.reduceLT, Nat.reduceLeDiff, List.nodup_cons, List.nodup_nil, List.not_mem_nil, not_false_eq_true, not_true_eq_false, and_self, and_true, true_and, and_false, false_and, if_true, if_false, reduceIte, Bool.false_eq_true, decide_eq_true_eq, decide_eq_false_iff_not, Bool.not_true, Bool.not_false, Bool.not_eq_true', Bool.not_eq_false', List.zip_cons_cons, List.zip_nil_right, List.zip_nil_left, List.foldl_cons, List.foldl_nil, tgN, tgT, tgT.go, tgL, mYes, wm_ret, List.headD_cons, addD, subD, mulD, modD, fdivD, powD, negD, cmpD, eqD, neD, isND, notND, isNone, lenD, intD, strD, listD, tupleD, ixD, min2D, max2D, appendM, popM, reverseM, clearM, rangeD1, rangeD, itemsD, truD, inKD, ixKD, splitD, joinD, slD, isiD, notD, at0, at1, hn, e, hb, List.map_cons, List.map_nil]
          rw [later_eq]
          simp (decide := true) only [wf_seq, wf_seqL, wf_kill, wf_expr, wf_fret, wf_retN, wf_ifS, wf_setN, wf_setV, wf_setT, wf_par, wf_augI, wf_break, wf_cont, wf_thru, wf_raise, wf_tryAs, wm_xf, wm_is, wf_skip, wf_for, wm_var, wm_c, wm_frz, wm_frN, wm_nn, wm_un, wm_bin, wm_evs_nil, wm_evs_cons, wm_n, wm_tup, wm_lst, wm_bool, wm_notB, wm_andB, wm_orB, wm_and, wm_or, wm_if, wm_chain, wm_asInt, wm_noInt, wm_sl, wm_srcD, wm_srcN, wm_fmt, wm_js_nil, wm_js_cons, wm_tru, wm_strM, wm_mutL, wm_call, wm_comp, wc, EV.set, EV.kill, EV.kills, EV.put, EV.obj, EV.look, EV.looks, EV.objs, EV.key, EV.puts, argIx, argSl, gets, oD, oR, settled, List.set_cons_zero, List.set_cons_succ, List.getElem?_cons_zero, List.getElem?_cons_succ, List.replicate_succ, List.replicate_zero, List.map_cons, List.map_nil, List.length_cons, List.length_nil, List.nil_append, List.cons_append, Nat.reduceAdd, Nat.reduceSub, Nat.reduceLT, Nat.reduceLeDiff, List.nodup_cons, List.nodup_nil, List.not_mem_nil, not_false_eq_true, not_true_eq_false, and_self, and_true, true_and, and_false, false_and, if_true, if_false, reduceIte, Bool.false_eq_true, decide_eq_true_eq, decide_eq_false_iff_not, Bool.not_true, Bool.not_false, Bool.not_eq_true', Bool.not_eq_false', List.zip_cons_cons, List.zip_nil_right, List.zip_nil_left, List.foldl_cons, List.foldl_nil, tgN, tgT, tgT.go, tgL, mYes, wm_ret, List.headD_cons, slD, addD, Int.reduceAdd, cut3]
          refine rc_one x _ fun ρ' => ?_
          simp (decide := true) only [wf_seq, wf_seqL, wf_kill, wf_expr, wf_fret, wf_retN, wf_ifS, wf_setN, wf_setV, wf_setT, wf_par, wf_augI, wf_break, wf_cont, wf_thru, wf_raise, wf_tryAs, wm_xf, wm_is, wf_skip, wf_for, wm_var, wm_c, wm_frz, wm_frN, wm_nn, wm_un, wm_bin, wm_evs_nil, wm_evs_cons, wm_n, wm_tup, wm_lst, wm_bool, wm_notB, wm_andB, wm_orB, wm_and, wm_or, wm_if, wm_chain, wm_asInt, wm_noInt, wm_sl, wm_srcD, wm_srcN, wm_fmt, wm_js_nil, wm_js_cons, wm_tru, wm_strM, wm_mutL, wm_call, wm_comp, wc, EV.set, EV.kill, EV.kills, EV.put, EV.obj, EV.look, EV.looks, EV.objs, EV.key, EV.puts, argIx, argSl, gets, oD, oR, settled, List.set_cons_zero, List.set_cons_succ, List.getElem?_cons_zero, List.getElem?_cons_succ, List.replicate_succ, List.replicate_zero, List.map_cons, List.map_nil, List.length_cons, List.length_nil, List.nil_append, List.cons_append, Nat.reduceAdd, Nat.reduceSub, Nat.reduceLT, Nat.reduceLeDiff, List.nodup_cons, List.nodup_nil, List.not_mem_nil, not_false_eq_true, not_true_eq_false, and_self, and_true, true_and, and_false, false_and, if_true, if_false, reduceIte, Bool.false_eq_true, decide_eq_true_eq, decide_eq_false_iff_not, Bool.not_true, Bool.not_false, Bool.not_eq_true', Bool.not_eq_false', List.zip_cons_cons, List.zip_nil_right, List.zip_nil_left, List.foldl_cons, List.foldl_nil, tgN, tgT, tgT.go, tgL, mYes, wm_ret, List.headD_cons]
          unfold later rb_read_rule_1
          simp (decide := true) only [wf_seq, wf_seqL, wf_kill, wf_expr, wf_fret, wf_retN, wf_ifS, wf_setN, wf_setV, wf_setT, wf_par, wf_augI, wf_break, wf_cont, wf_thru, wf_raise, wf_tryAs, wm_xf, wm_is, wf_skip, wf_for, wm_var, wm_c, wm_frz, wm_frN, wm_nn, wm_un, wm_bin, wm_evs_nil, wm_evs_cons, wm_n, wm_tup, wm_lst, wm_bool, wm_notB, wm_andB, wm_orB, wm_and, wm_or, wm_if, wm_chain, wm_asInt, wm_noInt, wm_sl, wm_srcD, wm_srcN, wm_fmt, wm_js_nil, wm_js_cons, wm_tru, wm_strM, wm_mutL, wm_call, wm_comp, wc, EV.set, EV.kill, EV.kills, EV.put, EV.obj, EV.look, EV.looks, EV.objs, EV.key, EV.puts, argIx, argSl, gets, oD, oR, settled, List.set_cons_zero, List.set_cons_succ, List.getElem?_cons_zero, List.getElem?_cons_succ, List.replicate_succ, List.replicate_zero, List.map_cons, List.map_nil, List.length_cons, List.length_nil, List.nil_append, List.cons_append, Nat.reduceAdd, Nat.reduceSub, Nat.reduceLT, Nat.reduceLeDiff, List.nodup_cons, List.nodup_nil, List.not_mem_nil, not_false_eq_true, not_true_eq_false, and_self, and_true, true_and, and_false, false_and, if_true, if_false, reduceIte, Bool.false_eq_true, decide_eq_true_eq, decide_eq_false_iff_not, Bool.not_true, Bool.not_false, Bool.not_eq_true', Bool.not_eq_false', List.zip_cons_cons, List.zip_nil_right, List.zip_nil_left, List.foldl_cons, List.foldl_nil, tgN, tgT, tgT.go, tgL, mYes, wm_ret, List.headD_cons, addD, subD, mulD, modD, fdivD, powD, negD, cmpD, eqD, neD, isND, notND, isNone, lenD, intD, strD, listD, tupleD, ixD, min2D, max2D, appendM, popM, reverseM, clearM, rangeD1, rangeD, itemsD, truD, inKD, ixKD, splitD, joinD, slD, isiD, notD]
          exact hE _
  · have hn := act_out (a := a) (fun z => ha (.inl z)) (fun z => ha (.inr z))
    simp (decide := true) only [wf_seqZ, wf_seqL, wf_kill, wf_expr, wf_fret, wf_retN, wf_ifS, wf_setN, wf_setV, wf_setT, wf_par, wf_augI, wf_break, wf_cont, wf_thru, wf_raise, wf_tryAs, wm_xf, wm_is, wf_skip, wf_for, wm_var, wm_c, wm_frz, wm_frN, wm_nn, wm_un, wm_bin, wm_evs_nil, wm_evs_cons, wm_n, wm_tup, wm_lst, wm_bool, wm_notB, wm_andB, wm_orB, wm_and, wm_or, wm_if, wm_chain, wm_asInt, wm_noInt, wm_sl, wm_srcD, wm_srcN, wm_fmt, wm_js_nil, wm_js_cons, wm_tru, wm_strM, wm_mutL, wm_call, wm_comp, wc, EV.set, EV.kill, EV.kills, EV.put, EV.obj, EV.look, EV.looks, EV.objs, EV.key, EV.puts, argIx, argSl, gets, oD, oR, settled, List.set_cons_zero, List.set_cons_succ, List.getElem?_cons_zero, List.getElem?_cons_succ, List.replicate_succ, List.replicate_zero, List.map_cons, List.map_nil, List.length_cons, List.length_nil, List.nil_append, List.cons_append, Nat.reduceAdd, Nat.reduceSub, Nat.reduceLT, Nat.reduceLeDiff, List.nodup_cons, List.nodup_nil, List.not_mem_nil, not_false_eq_true, not_true_eq_false, and_self, and_true, true_and, and_false, false_and, if_true, if_false, reduceIte, Bool.false_eq_true, decide_eq_true_eq, decide_eq_false_iff_not, Bool.not_true, Bool.not_false, Bool.not_eq_true', Bool.not_eq_false', List.zip_cons_cons, List.zip_nil_right, List.zip_nil_left, List.foldl_cons, List.foldl_nil, tgN, tgT, tgT.go, tgL, mYes, wm_ret, List.headD_cons, addD, subD, mulD, modD, fdivD, powD, negD, cmpD, eqD, neD, isND, notND, isNone, lenD, intD, strD, listD, tupleD, ixD, min2D, max2D, appendM, popM, reverseM, clearM, rangeD1, rangeD, itemsD, truD, inKD, ixKD, splitD, joinD, slD, isiD, notD, at0, hn]
    exact hE _
theorem Dp.mono {n m : Nat} {d : D} (h : Dp n d) (k : n ≤ m) : Dp m d := ⟨h.1, Nat.le_trans h.2 k⟩
theorem low_ok {ws : List Str} (h : ∀ w ∈ ws, CW w) : ∀ d ∈ ws.map D.str, Dp 1 d := by
  intro d hd
  obtain ⟨w, hw, rfl⟩ := List.mem_map.mp hd
  exact Dp.str (h w hw).ok
theorem Tl.dp {t : Tl} (h : t.ok) : Dp 2 t.d := Dp.tup (low_ok (Tl.words_cw h))
theorem Cd.dp {c : Cd} (h : c.ok) : Dp 3 c.d := by
  refine Dp.tup fun d hd => ?_
  simp only [List.mem_cons, List.not_mem_nil, or_false] at hd
  rcases hd with rfl | rfl | rfl | rfl
  · exact Dp.str ((by decide : ∀ p ∈ (["taken", "seen"] : List Str), CW p) _ h.1).ok
  · exact Tl.dp h.2.1
  · exact Dp.str ((by decide : ∀ p ∈ (["<", ">="] : List Str), CW p) _ h.2.2.1).ok
  · exact Dp.int
theorem Ru.dp {r : Ru} (h : r.ok) : Dp 5 r.d := by
  refine Dp.tup fun d hd => ?_
  simp only [List.mem_cons, List.not_mem_nil, or_false] at hd
  rcases hd with rfl | rfl | rfl
  · exact Dp.str ((by decide : ∀ p ∈ (["take", "pass"] : List Str), CW p) _ h.act).ok
  · exact Dp.mono (Tl.dp h.who) (by decide)
  · refine Dp.tup fun d hd => ?_
    obtain ⟨c, hc, rfl⟩ := List.mem_map.mp hd
    exact Cd.dp (h.cs c hc)
theorem good_spec {r : Ru} (h : r.ok) (E : Ko) (hE : ∀ ρ', E.rt (.v (.bl true)) ρ') : wf fb__law_good_bare ⟨[some (.val r.d), some (.val (.str (txt r.words))), none, none], []⟩ E := by
  have n1 := neD_self (Ru.dp h) (by decide)
  have i1 : isiD [r.d, .ty "tuple"] = some (.v (.bl true)) := by
    rw [Ru.d_eq]
    rfl
  have i2 : isiD [.str (txt r.words), .ty "str"] = some (.v (.bl true)) := rfl
  unfold fb__law_good_bare
  simp (decide := true) only [wf_seqZ, wf_seqL, wf_kill, wf_expr, wf_fret, wf_retN, wf_ifS, wf_setN, wf_setV, wf_setT, wf_par, wf_augI, wf_break, wf_cont, wf_thru, wf_raise, wf_tryAs, wm_xf, wm_is, wf_skip, wf_for, wm_var, wm_c, wm_frz, wm_frN, wm_nn, wm_un, wm_bin, wm_evs_nil, wm_evs_cons, wm_n, wm_tup, wm_lst, wm_bool, wm_notB, wm_andBZ, wm_orBZ, wm_and, wm_or, wm_if, wm_chain, wm_asInt, wm_noInt, wm_sl, wm_srcD, wm_srcN, wm_fmt, wm_js_nil, wm_js_cons, wm_tru, wm_strM, wm_mutL, wm_call, wm_comp, wc, EV.set, EV.kill, EV.kills, EV.put, EV.obj, EV.look, EV.looks, EV.objs, EV.key, EV.puts, argIx, argSl, gets, oD, oR, settled, List.set_cons_zero, List.set_cons_succ, List.getElem?_cons_zero, List.getElem?_cons_succ, List.replicate_succ, List.replicate_zero, List.map_cons, List.map_nil, List.length_cons, List.length_nil, List.nil_append, List.cons_append, Nat.reduceAdd, Nat.reduceSub, Nat.reduceLT, Nat.reduceLeDiff, List.nodup_cons, List.nodup_nil, List.not_mem_nil, not_false_eq_true, not_true_eq_false, and_self, and_true, true_and, and_false, false_and, if_true, if_false, reduceIte, Bool.false_eq_true, decide_eq_true_eq, decide_eq_false_iff_not, Bool.not_true, Bool.not_false, Bool.not_eq_true', Bool.not_eq_false', List.zip_cons_cons, List.zip_nil_right, List.zip_nil_left, List.foldl_cons, List.foldl_nil, tgN, tgT, tgT.go, tgL, mYes, wm_ret, List.headD_cons]
  refine read_rule_spec h _ fun ρ' => ?_
  simp (decide := true) only [wf_seqZ, wf_seqL, wf_kill, wf_expr, wf_fret, wf_retN, wf_ifS, wf_setN, wf_setV, wf_setT, wf_par, wf_augI, wf_break, wf_cont, wf_thru, wf_raise, wf_tryAs, wm_xf, wm_is, wf_skip, wf_for, wm_var, wm_c, wm_frz, wm_frN, wm_nn, wm_un, wm_bin, wm_evs_nil, wm_evs_cons, wm_n, wm_tup, wm_lst, wm_bool, wm_notB, wm_andBZ, wm_orBZ, wm_and, wm_or, wm_if, wm_chain, wm_asInt, wm_noInt, wm_sl, wm_srcD, wm_srcN, wm_fmt, wm_js_nil, wm_js_cons, wm_tru, wm_strM, wm_mutL, wm_call, wm_comp, wc, EV.set, EV.kill, EV.kills, EV.put, EV.obj, EV.look, EV.looks, EV.objs, EV.key, EV.puts, argIx, argSl, gets, oD, oR, settled, List.set_cons_zero, List.set_cons_succ, List.getElem?_cons_zero, List.getElem?_cons_succ, List.replicate_succ, List.replicate_zero, List.map_cons, List.map_nil, List.length_cons, List.length_nil, List.nil_append, List.cons_append, Nat.reduceAdd, Nat.reduceSub, Nat.reduceLT, Nat.reduceLeDiff, List.nodup_cons, List.nodup_nil, List.not_mem_nil, not_false_eq_true, not_true_eq_false, and_self, and_true, true_and, and_false, false_and, if_true, if_false, reduceIte, Bool.false_eq_true, decide_eq_true_eq, decide_eq_false_iff_not, Bool.not_true, Bool.not_false, Bool.not_eq_true', Bool.not_eq_false', List.zip_cons_cons, List.zip_nil_right, List.zip_nil_left, List.foldl_cons, List.foldl_nil, tgN, tgT, tgT.go, tgL, mYes, wm_ret, List.headD_cons]
  unfold later rb__law_good_bare_2
  simp (decide := true) only [wf_seqZ, wf_seqL, wf_kill, wf_expr, wf_fret, wf_retN, wf_ifS, wf_setN, wf_setV, wf_setT, wf_par, wf_augI, wf_break, wf_cont, wf_thru, wf_raise, wf_tryAs, wm_xf, wm_is, wf_skip, wf_for, wm_var, wm_c, wm_frz, wm_frN, wm_nn, wm_un, wm_bin, wm_evs_nil, wm_evs_cons, wm_n, wm_tup, wm_lst, wm_bool, wm_notB, wm_andBZ, wm_orBZ, wm_and, wm_or, wm_if, wm_chain, wm_asInt, wm_noInt, wm_sl, wm_srcD, wm_srcN, wm_fmt, wm_js_nil, wm_js_cons, wm_tru, wm_strM, wm_mutL, wm_call, wm_comp, wc, EV.set, EV.kill, EV.kills, EV.put, EV.obj, EV.look, EV.looks, EV.objs, EV.key, EV.puts, argIx, argSl, gets, oD, oR, settled, List.set_cons_zero, List.set_cons_succ, List.getElem?_cons_zero, List.getElem?_cons_succ, List.replicate_succ, List.replicate_zero, List.map_cons, List.map_nil, List.length_cons, List.length_nil, List.nil_append, List.cons_append, Nat.reduceAdd, Nat.reduceSub, Nat.reduceLT, Nat.reduceLeDiff, List.nodup_cons, List.nodup_nil, List.not_mem_nil, not_false_eq_true, not_true_eq_false, and_self, and_true, true_and, and_false, false_and, if_true, if_false, reduceIte, Bool.false_eq_true, decide_eq_true_eq, decide_eq_false_iff_not, Bool.not_true, Bool.not_false, Bool.not_eq_true', Bool.not_eq_false', List.zip_cons_cons, List.zip_nil_right, List.zip_nil_left, List.foldl_cons, List.foldl_nil, tgN, tgT, tgT.go, tgL, mYes, wm_ret, List.headD_cons, i1]
  rw [laterM_eq]
  simp (decide := true) only [wf_seqZ, wf_seqL, wf_kill, wf_expr, wf_fret, wf_retN, wf_ifS, wf_setN, wf_setV, wf_setT, wf_par, wf_augI, wf_break, wf_cont, wf_thru, wf_raise, wf_tryAs, wm_xf, wm_is, wf_skip, wf_for, wm_var, wm_c, wm_frz, wm_frN, wm_nn, wm_un, wm_bin, wm_evs_nil, wm_evs_cons, wm_n, wm_tup, wm_lst, wm_bool, wm_notB, wm_andBZ, wm_orBZ, wm_and, wm_or, wm_if, wm_chain, wm_asInt, wm_noInt, wm_sl, wm_srcD, wm_srcN, wm_fmt, wm_js_nil, wm_js_cons, wm_tru, wm_strM, wm_mutL, wm_call, wm_comp, wc, EV.set, EV.kill, EV.kills, EV.put, EV.obj, EV.look, EV.looks, EV.objs, EV.key, EV.puts, argIx, argSl, gets, oD, oR, settled, List.set_cons_zero, List.set_cons_succ, List.getElem?_cons_zero, List.getElem?_cons_succ, List.replicate_succ, List.replicate_zero, List.map_cons, List.map_nil, List.length_cons, List.length_nil, List.nil_append, List.cons_append, Nat.reduceAdd, Nat.reduceSub, Nat.reduceLT, Nat.reduceLeDiff, List.nodup_cons, List.nodup_nil, List.not_mem_nil, not_false_eq_true, not_true_eq_false, and_self, and_true, true_and, and_false, false_and, if_true, if_false, reduceIte, Bool.false_eq_true, decide_eq_true_eq, decide_eq_false_iff_not, Bool.not_true, Bool.not_false, Bool.not_eq_true', Bool.not_eq_false', List.zip_cons_cons, List.zip_nil_right, List.zip_nil_left, List.foldl_cons, List.foldl_nil, tgN, tgT, tgT.go, tgL, mYes, wm_ret, List.headD_cons, n1]
  rw [later_eq]
  simp (decide := true) only [wf_seqZ, wf_seqL, wf_kill, wf_expr, wf_fret, wf_retN, wf_ifS, wf_setN, wf_setV, wf_setT, wf_par, wf_augI, wf_break, wf_cont, wf_thru, wf_raise, wf_tryAs, wm_xf, wm_is, wf_skip, wf_for, wm_var, wm_c, wm_frz, wm_frN, wm_nn, wm_un, wm_bin, wm_evs_nil, wm_evs_cons, wm_n, wm_tup, wm_lst, wm_bool, wm_notB, wm_andBZ, wm_orBZ, wm_and, wm_or, wm_if, wm_chain, wm_asInt, wm_noInt, wm_sl, wm_srcD, wm_srcN, wm_fmt, wm_js_nil, wm_js_cons, wm_tru, wm_strM, wm_mutL, wm_call, wm_comp, wc, EV.set, EV.kill, EV.kills, EV.put, EV.obj, EV.look, EV.looks, EV.objs, EV.key, EV.puts, argIx, argSl, gets, oD, oR, settled, List.set_cons_zero, List.set_cons_succ, List.getElem?_cons_zero, List.getElem?_cons_succ, List.replicate_succ, List.replicate_zero, List.map_cons, List.map_nil, List.length_cons, List.length_nil, List.nil_append, List.cons_append, Nat.reduceAdd, Nat.reduceSub, Nat.reduceLT, Nat.reduceLeDiff, List.nodup_cons, List.nodup_nil, List.not_mem_nil, not_false_eq_true, not_true_eq_false, and_self, and_true, true_and, and_false, false_and, if_true, if_false, reduceIte, Bool.false_eq_true, decide_eq_true_eq, decide_eq_false_iff_not, Bool.not_true, Bool.not_false, Bool.not_eq_true', Bool.not_eq_false', List.zip_cons_cons, List.zip_nil_right, List.zip_nil_left, List.foldl_cons, List.foldl_nil, tgN, tgT, tgT.go, tgL, mYes, wm_ret, List.headD_cons]
  refine write_rule_spec h _ fun ρ2 => ?_
  simp (decide := true) only [wf_seqZ, wf_seqL, wf_kill, wf_expr, wf_fret, wf_retN, wf_ifS, wf_setN, wf_setV, wf_setT, wf_par, wf_augI, wf_break, wf_cont, wf_thru, wf_raise, wf_tryAs, wm_xf, wm_is, wf_skip, wf_for, wm_var, wm_c, wm_frz, wm_frN, wm_nn, wm_un, wm_bin, wm_evs_nil, wm_evs_cons, wm_n, wm_tup, wm_lst, wm_bool, wm_notB, wm_andBZ, wm_orBZ, wm_and, wm_or, wm_if, wm_chain, wm_asInt, wm_noInt, wm_sl, wm_srcD, wm_srcN, wm_fmt, wm_js_nil, wm_js_cons, wm_tru, wm_strM, wm_mutL, wm_call, wm_comp, wc, EV.set, EV.kill, EV.kills, EV.put, EV.obj, EV.look, EV.looks, EV.objs, EV.key, EV.puts, argIx, argSl, gets, oD, oR, settled, List.set_cons_zero, List.set_cons_succ, List.getElem?_cons_zero, List.getElem?_cons_succ, List.replicate_succ, List.replicate_zero, List.map_cons, List.map_nil, List.length_cons, List.length_nil, List.nil_append, List.cons_append, Nat.reduceAdd, Nat.reduceSub, Nat.reduceLT, Nat.reduceLeDiff, List.nodup_cons, List.nodup_nil, List.not_mem_nil, not_false_eq_true, not_true_eq_false, and_self, and_true, true_and, and_false, false_and, if_true, if_false, reduceIte, Bool.false_eq_true, decide_eq_true_eq, decide_eq_false_iff_not, Bool.not_true, Bool.not_false, Bool.not_eq_true', Bool.not_eq_false', List.zip_cons_cons, List.zip_nil_right, List.zip_nil_left, List.foldl_cons, List.foldl_nil, tgN, tgT, tgT.go, tgL, mYes, wm_ret, List.headD_cons]
  unfold later rb__law_good_bare_1
  simp (decide := true) only [wf_seqZ, wf_seqL, wf_kill, wf_expr, wf_fret, wf_retN, wf_ifS, wf_setN, wf_setV, wf_setT, wf_par, wf_augI, wf_break, wf_cont, wf_thru, wf_raise, wf_tryAs, wm_xf, wm_is, wf_skip, wf_for, wm_var, wm_c, wm_frz, wm_frN, wm_nn, wm_un, wm_bin, wm_evs_nil, wm_evs_cons, wm_n, wm_tup, wm_lst, wm_bool, wm_notB, wm_andBZ, wm_orBZ, wm_and, wm_or, wm_if, wm_chain, wm_asInt, wm_noInt, wm_sl, wm_srcD, wm_srcN, wm_fmt, wm_js_nil, wm_js_cons, wm_tru, wm_strM, wm_mutL, wm_call, wm_comp, wc, EV.set, EV.kill, EV.kills, EV.put, EV.obj, EV.look, EV.looks, EV.objs, EV.key, EV.puts, argIx, argSl, gets, oD, oR, settled, List.set_cons_zero, List.set_cons_succ, List.getElem?_cons_zero, List.getElem?_cons_succ, List.replicate_succ, List.replicate_zero, List.map_cons, List.map_nil, List.length_cons, List.length_nil, List.nil_append, List.cons_append, Nat.reduceAdd, Nat.reduceSub, Nat.reduceLT, Nat.reduceLeDiff, List.nodup_cons, List.nodup_nil, List.not_mem_nil, not_false_eq_true, not_true_eq_false, and_self, and_true, true_and, and_false, false_and, if_true, if_false, reduceIte, Bool.false_eq_true, decide_eq_true_eq, decide_eq_false_iff_not, Bool.not_true, Bool.not_false, Bool.not_eq_true', Bool.not_eq_false', List.zip_cons_cons, List.zip_nil_right, List.zip_nil_left, List.foldl_cons, List.foldl_nil, tgN, tgT, tgT.go, tgL, mYes, wm_ret, List.headD_cons, i2, eqD, decide_true]
  exact hE _
theorem bad_spec {ws : List Str} (h : BadL ws) (E : Ko) (hE : ∀ ρ', E.rt (.v (.bl true)) ρ') : wf fb__law_bad_bare ⟨[some (.val (.str (txt ws))), none, none], []⟩ E := by
  have i2 : isiD [.str (txt ws), .ty "str"] = some (.v (.bl true)) := rfl
  unfold fb__law_bad_bare
  simp (decide := true) only [wf_seqZ, wf_seqL, wf_kill, wf_expr, wf_fret, wf_retN, wf_ifS, wf_setN, wf_setV, wf_setT, wf_par, wf_augI, wf_break, wf_cont, wf_thru, wf_raise, wf_tryAs, wm_xf, wm_is, wf_skip, wf_for, wm_var, wm_c, wm_frz, wm_frN, wm_nn, wm_un, wm_bin, wm_evs_nil, wm_evs_cons, wm_n, wm_tup, wm_lst, wm_bool, wm_notB, wm_andBZ, wm_orBZ, wm_and, wm_or, wm_if, wm_chain, wm_asInt, wm_noInt, wm_sl, wm_srcD, wm_srcN, wm_fmt, wm_js_nil, wm_js_cons, wm_tru, wm_strM, wm_mutL, wm_call, wm_comp, wc, EV.set, EV.kill, EV.kills, EV.put, EV.obj, EV.look, EV.looks, EV.objs, EV.key, EV.puts, argIx, argSl, gets, oD, oR, settled, List.set_cons_zero, List.set_cons_succ, List.getElem?_cons_zero, List.getElem?_cons_succ, List.replicate_succ, List.replicate_zero, List.map_cons, List.map_nil, List.length_cons, List.length_nil, List.nil_append, List.cons_append, Nat.reduceAdd, Nat.reduceSub, Nat.reduceLT, Nat.reduceLeDiff, List.nodup_cons, List.nodup_nil, List.not_mem_nil, not_false_eq_true, not_true_eq_false, and_self, and_true, true_and, and_false, false_and, if_true, if_false, reduceIte, Bool.false_eq_true, decide_eq_true_eq, decide_eq_false_iff_not, Bool.not_true, Bool.not_false, Bool.not_eq_true', Bool.not_eq_false', List.zip_cons_cons, List.zip_nil_right, List.zip_nil_left, List.foldl_cons, List.foldl_nil, tgN, tgT, tgT.go, tgL, mYes, wm_ret, List.headD_cons]
  rw [later_eq]
  simp (decide := true) only [wf_seqZ, wf_seqL, wf_kill, wf_expr, wf_fret, wf_retN, wf_ifS, wf_setN, wf_setV, wf_setT, wf_par, wf_augI, wf_break, wf_cont, wf_thru, wf_raise, wf_tryAs, wm_xf, wm_is, wf_skip, wf_for, wm_var, wm_c, wm_frz, wm_frN, wm_nn, wm_un, wm_bin, wm_evs_nil, wm_evs_cons, wm_n, wm_tup, wm_lst, wm_bool, wm_notB, wm_andBZ, wm_orBZ, wm_and, wm_or, wm_if, wm_chain, wm_asInt, wm_noInt, wm_sl, wm_srcD, wm_srcN, wm_fmt, wm_js_nil, wm_js_cons, wm_tru, wm_strM, wm_mutL, wm_call, wm_comp, wc, EV.set, EV.kill, EV.kills, EV.put, EV.obj, EV.look, EV.looks, EV.objs, EV.key, EV.puts, argIx, argSl, gets, oD, oR, settled, List.set_cons_zero, List.set_cons_succ, List.getElem?_cons_zero, List.getElem?_cons_succ, List.replicate_succ, List.replicate_zero, List.map_cons, List.map_nil, List.length_cons, List.length_nil, List.nil_append, List.cons_append, Nat.reduceAdd, Nat.reduceSub, Nat.reduceLT, Nat.reduceLeDiff, List.nodup_cons, List.nodup_nil, List.not_mem_nil, not_false_eq_true, not_true_eq_false, and_self, and_true, true_and, and_false, false_and, if_true, if_false, reduceIte, Bool.false_eq_true, decide_eq_true_eq, decide_eq_false_iff_not, Bool.not_true, Bool.not_false, Bool.not_eq_true', Bool.not_eq_false', List.zip_cons_cons, List.zip_nil_right, List.zip_nil_left, List.foldl_cons, List.foldl_nil, tgN, tgT, tgT.go, tgL, mYes, wm_ret, List.headD_cons]
  refine bad_read h _ fun ρ' => ?_
  simp (decide := true) only [wf_seqZ, wf_seqL, wf_kill, wf_expr, wf_fret, wf_retN, wf_ifS, wf_setN, wf_setV, wf_setT, wf_par, wf_augI, wf_break, wf_cont, wf_thru, wf_raise, wf_tryAs, wm_xf, wm_is, wf_skip, wf_for, wm_var, wm_c, wm_frz, wm_frN, wm_nn, wm_un, wm_bin, wm_evs_nil, wm_evs_cons, wm_n, wm_tup, wm_lst, wm_bool, wm_notB, wm_andBZ, wm_orBZ, wm_and, wm_or, wm_if, wm_chain, wm_asInt, wm_noInt, wm_sl, wm_srcD, wm_srcN, wm_fmt, wm_js_nil, wm_js_cons, wm_tru, wm_strM, wm_mutL, wm_call, wm_comp, wc, EV.set, EV.kill, EV.kills, EV.put, EV.obj, EV.look, EV.looks, EV.objs, EV.key, EV.puts, argIx, argSl, gets, oD, oR, settled, List.set_cons_zero, List.set_cons_succ, List.getElem?_cons_zero, List.getElem?_cons_succ, List.replicate_succ, List.replicate_zero, List.map_cons, List.map_nil, List.length_cons, List.length_nil, List.nil_append, List.cons_append, Nat.reduceAdd, Nat.reduceSub, Nat.reduceLT, Nat.reduceLeDiff, List.nodup_cons, List.nodup_nil, List.not_mem_nil, not_false_eq_true, not_true_eq_false, and_self, and_true, true_and, and_false, false_and, if_true, if_false, reduceIte, Bool.false_eq_true, decide_eq_true_eq, decide_eq_false_iff_not, Bool.not_true, Bool.not_false, Bool.not_eq_true', Bool.not_eq_false', List.zip_cons_cons, List.zip_nil_right, List.zip_nil_left, List.foldl_cons, List.foldl_nil, tgN, tgT, tgT.go, tgL, mYes, wm_ret, List.headD_cons, noXn, lk, inL, List.all_cons, List.all_nil, Bool.and_true, Bool.true_and, Bool.and_self, List.lookup_cons, List.lookup_nil, beq_self_eq_true, List.contains_cons, Bool.or_false, Bool.or_true, Bool.true_or, List.isEmpty_cons, List.isEmpty_nil]
  unfold later rb__law_bad_bare_1
  simp (decide := true) only [wf_seqZ, wf_seqL, wf_kill, wf_expr, wf_fret, wf_retN, wf_ifS, wf_setN, wf_setV, wf_setT, wf_par, wf_augI, wf_break, wf_cont, wf_thru, wf_raise, wf_tryAs, wm_xf, wm_is, wf_skip, wf_for, wm_var, wm_c, wm_frz, wm_frN, wm_nn, wm_un, wm_bin, wm_evs_nil, wm_evs_cons, wm_n, wm_tup, wm_lst, wm_bool, wm_notB, wm_andBZ, wm_orBZ, wm_and, wm_or, wm_if, wm_chain, wm_asInt, wm_noInt, wm_sl, wm_srcD, wm_srcN, wm_fmt, wm_js_nil, wm_js_cons, wm_tru, wm_strM, wm_mutL, wm_call, wm_comp, wc, EV.set, EV.kill, EV.kills, EV.put, EV.obj, EV.look, EV.looks, EV.objs, EV.key, EV.puts, argIx, argSl, gets, oD, oR, settled, List.set_cons_zero, List.set_cons_succ, List.getElem?_cons_zero, List.getElem?_cons_succ, List.replicate_succ, List.replicate_zero, List.map_cons, List.map_nil, List.length_cons, List.length_nil, List.nil_append, List.cons_append, Nat.reduceAdd, Nat.reduceSub, Nat.reduceLT, Nat.reduceLeDiff, List.nodup_cons, List.nodup_nil, List.not_mem_nil, not_false_eq_true, not_true_eq_false, and_self, and_true, true_and, and_false, false_and, if_true, if_false, reduceIte, Bool.false_eq_true, decide_eq_true_eq, decide_eq_false_iff_not, Bool.not_true, Bool.not_false, Bool.not_eq_true', Bool.not_eq_false', List.zip_cons_cons, List.zip_nil_right, List.zip_nil_left, List.foldl_cons, List.foldl_nil, tgN, tgT, tgT.go, tgL, mYes, wm_ret, List.headD_cons, i2, eqD, decide_true]
  exact hE _
def kinL : D := .lst [.bl true, .bl true, .bl false, .bl false]
theorem kin_spec {ws : List Str} (h : BadL ws) (E : Ko) (hE : ∀ ρ', E.rt (.v kinL) ρ') : wf fb__law_kin_bare ⟨[some (.val (.str (txt ws))), none, none], []⟩ E := by
  unfold fb__law_kin_bare
  simp (decide := true) only [wf_seqZ, wf_seqL, wf_kill, wf_expr, wf_fret, wf_retN, wf_ifS, wf_setN, wf_setV, wf_setT, wf_par, wf_augI, wf_break, wf_cont, wf_thru, wf_raise, wf_tryAs, wm_xf, wm_is, wf_skip, wf_for, wm_var, wm_c, wm_frz, wm_frN, wm_nn, wm_un, wm_bin, wm_evs_nil, wm_evs_cons, wm_n, wm_tup, wm_lst, wm_bool, wm_notB, wm_andBZ, wm_orBZ, wm_and, wm_or, wm_if, wm_chain, wm_asInt, wm_noInt, wm_sl, wm_srcD, wm_srcN, wm_fmt, wm_js_nil, wm_js_cons, wm_tru, wm_strM, wm_mutL, wm_call, wm_comp, wc, EV.set, EV.kill, EV.kills, EV.put, EV.obj, EV.look, EV.looks, EV.objs, EV.key, EV.puts, argIx, argSl, gets, oD, oR, settled, List.set_cons_zero, List.set_cons_succ, List.getElem?_cons_zero, List.getElem?_cons_succ, List.replicate_succ, List.replicate_zero, List.map_cons, List.map_nil, List.length_cons, List.length_nil, List.nil_append, List.cons_append, Nat.reduceAdd, Nat.reduceSub, Nat.reduceLT, Nat.reduceLeDiff, List.nodup_cons, List.nodup_nil, List.not_mem_nil, not_false_eq_true, not_true_eq_false, and_self, and_true, true_and, and_false, false_and, if_true, if_false, reduceIte, Bool.false_eq_true, decide_eq_true_eq, decide_eq_false_iff_not, Bool.not_true, Bool.not_false, Bool.not_eq_true', Bool.not_eq_false', List.zip_cons_cons, List.zip_nil_right, List.zip_nil_left, List.foldl_cons, List.foldl_nil, tgN, tgT, tgT.go, tgL, mYes, wm_ret, List.headD_cons]
  rw [later_eq]
  simp (decide := true) only [wf_seqZ, wf_seqL, wf_kill, wf_expr, wf_fret, wf_retN, wf_ifS, wf_setN, wf_setV, wf_setT, wf_par, wf_augI, wf_break, wf_cont, wf_thru, wf_raise, wf_tryAs, wm_xf, wm_is, wf_skip, wf_for, wm_var, wm_c, wm_frz, wm_frN, wm_nn, wm_un, wm_bin, wm_evs_nil, wm_evs_cons, wm_n, wm_tup, wm_lst, wm_bool, wm_notB, wm_andBZ, wm_orBZ, wm_and, wm_or, wm_if, wm_chain, wm_asInt, wm_noInt, wm_sl, wm_srcD, wm_srcN, wm_fmt, wm_js_nil, wm_js_cons, wm_tru, wm_strM, wm_mutL, wm_call, wm_comp, wc, EV.set, EV.kill, EV.kills, EV.put, EV.obj, EV.look, EV.looks, EV.objs, EV.key, EV.puts, argIx, argSl, gets, oD, oR, settled, List.set_cons_zero, List.set_cons_succ, List.getElem?_cons_zero, List.getElem?_cons_succ, List.replicate_succ, List.replicate_zero, List.map_cons, List.map_nil, List.length_cons, List.length_nil, List.nil_append, List.cons_append, Nat.reduceAdd, Nat.reduceSub, Nat.reduceLT, Nat.reduceLeDiff, List.nodup_cons, List.nodup_nil, List.not_mem_nil, not_false_eq_true, not_true_eq_false, and_self, and_true, true_and, and_false, false_and, if_true, if_false, reduceIte, Bool.false_eq_true, decide_eq_true_eq, decide_eq_false_iff_not, Bool.not_true, Bool.not_false, Bool.not_eq_true', Bool.not_eq_false', List.zip_cons_cons, List.zip_nil_right, List.zip_nil_left, List.foldl_cons, List.foldl_nil, tgN, tgT, tgT.go, tgL, mYes, wm_ret, List.headD_cons]
  refine bad_read h _ fun ρ' => ?_
  simp (decide := true) only [wf_seqZ, wf_seqL, wf_kill, wf_expr, wf_fret, wf_retN, wf_ifS, wf_setN, wf_setV, wf_setT, wf_par, wf_augI, wf_break, wf_cont, wf_thru, wf_raise, wf_tryAs, wm_xf, wm_is, wf_skip, wf_for, wm_var, wm_c, wm_frz, wm_frN, wm_nn, wm_un, wm_bin, wm_evs_nil, wm_evs_cons, wm_n, wm_tup, wm_lst, wm_bool, wm_notB, wm_andBZ, wm_orBZ, wm_and, wm_or, wm_if, wm_chain, wm_asInt, wm_noInt, wm_sl, wm_srcD, wm_srcN, wm_fmt, wm_js_nil, wm_js_cons, wm_tru, wm_strM, wm_mutL, wm_call, wm_comp, wc, EV.set, EV.kill, EV.kills, EV.put, EV.obj, EV.look, EV.looks, EV.objs, EV.key, EV.puts, argIx, argSl, gets, oD, oR, settled, List.set_cons_zero, List.set_cons_succ, List.getElem?_cons_zero, List.getElem?_cons_succ, List.replicate_succ, List.replicate_zero, List.map_cons, List.map_nil, List.length_cons, List.length_nil, List.nil_append, List.cons_append, Nat.reduceAdd, Nat.reduceSub, Nat.reduceLT, Nat.reduceLeDiff, List.nodup_cons, List.nodup_nil, List.not_mem_nil, not_false_eq_true, not_true_eq_false, and_self, and_true, true_and, and_false, false_and, if_true, if_false, reduceIte, Bool.false_eq_true, decide_eq_true_eq, decide_eq_false_iff_not, Bool.not_true, Bool.not_false, Bool.not_eq_true', Bool.not_eq_false', List.zip_cons_cons, List.zip_nil_right, List.zip_nil_left, List.foldl_cons, List.foldl_nil, tgN, tgT, tgT.go, tgL, mYes, wm_ret, List.headD_cons, noXn, lk, inL, List.all_cons, List.all_nil, Bool.and_true, Bool.true_and, Bool.and_self, List.lookup_cons, List.lookup_nil, beq_self_eq_true, List.contains_cons, Bool.or_false, Bool.or_true, Bool.true_or, List.isEmpty_cons, List.isEmpty_nil]
  unfold later rb__law_kin_bare_1
  simp (decide := true) only [wf_seqZ, wf_seqL, wf_kill, wf_expr, wf_fret, wf_retN, wf_ifS, wf_setN, wf_setV, wf_setT, wf_par, wf_augI, wf_break, wf_cont, wf_thru, wf_raise, wf_tryAs, wm_xf, wm_is, wf_skip, wf_for, wm_var, wm_c, wm_frz, wm_frN, wm_nn, wm_un, wm_bin, wm_evs_nil, wm_evs_cons, wm_n, wm_tup, wm_lst, wm_bool, wm_notB, wm_andBZ, wm_orBZ, wm_and, wm_or, wm_if, wm_chain, wm_asInt, wm_noInt, wm_sl, wm_srcD, wm_srcN, wm_fmt, wm_js_nil, wm_js_cons, wm_tru, wm_strM, wm_mutL, wm_call, wm_comp, wc, EV.set, EV.kill, EV.kills, EV.put, EV.obj, EV.look, EV.looks, EV.objs, EV.key, EV.puts, argIx, argSl, gets, oD, oR, settled, List.set_cons_zero, List.set_cons_succ, List.getElem?_cons_zero, List.getElem?_cons_succ, List.replicate_succ, List.replicate_zero, List.map_cons, List.map_nil, List.length_cons, List.length_nil, List.nil_append, List.cons_append, Nat.reduceAdd, Nat.reduceSub, Nat.reduceLT, Nat.reduceLeDiff, List.nodup_cons, List.nodup_nil, List.not_mem_nil, not_false_eq_true, not_true_eq_false, and_self, and_true, true_and, and_false, false_and, if_true, if_false, reduceIte, Bool.false_eq_true, decide_eq_true_eq, decide_eq_false_iff_not, Bool.not_true, Bool.not_false, Bool.not_eq_true', Bool.not_eq_false', List.zip_cons_cons, List.zip_nil_right, List.zip_nil_left, List.foldl_cons, List.foldl_nil, tgN, tgT, tgT.go, tgL, mYes, wm_ret, List.headD_cons]
  exact hE _
theorem kin_ne : neD kinL kinL = some (.v (.bl false)) := neD_self (n := 2) (Dp.lst fun d hd => by
  simp only [List.mem_cons, List.not_mem_nil, or_false] at hd
  rcases hd with rfl | rfl | rfl | rfl <;> exact Dp.bl) (by decide)
theorem isNm_bad {w : Str} {c : Nat} (h : c ∈ w.cps.toList) (hc : ¬ (97 ≤ c ∧ c ≤ 122)) : isNm w = false := by
  cases e : isNm w with
  | false => rfl
  | true =>
    unfold isNm at e
    simp only [Bool.and_eq_true, List.all_eq_true, decide_eq_true_eq] at e
    exact absurd (e.2.2 c h) hc
theorem isNm_long {w : Str} (h : 8 < w.length) : isNm w = false := by
  cases e : isNm w with
  | false => rfl
  | true =>
    unfold isNm at e
    simp only [Bool.and_eq_true, decide_eq_true_eq] at e
    omega
theorem WOK.nm {w : Str} (h : WOK w) : isNm w = true := by
  unfold isNm
  have h1 := h.1
  have h2 := h.2.1
  simp only [h1, h2, decide_true, Bool.true_and, List.all_eq_true, decide_eq_true_eq]
  exact h.2.2
theorem tsz_part {p w : Str} {r : List Str} (hp : p ∈ roles) (h : isNm w = true) : tsz (p :: w :: r) = 2 := by
  obtain ⟨a, b, c⟩ := (by decide : ∀ p ∈ roles, p ≠ "any" ∧ p ≠ "own" ∧ isPart p = true) p hp
  rw [tsz_two, if_neg a, if_neg (fun z => b z.1), if_pos ⟨c, h⟩]
theorem tsz_no {p w : Str} {r : List Str} (hp : p ∈ roles) (h : isNm w = false) : tsz (p :: w :: r) = 0 := by
  obtain ⟨a, b, c⟩ := (by decide : ∀ p ∈ roles, p ≠ "any" ∧ p ≠ "own" ∧ isPart p = true) p hp
  rw [tsz_two, if_neg a, if_neg (fun z => b z.1), if_neg (fun z => by rw [h] at z; cases z.2)]
def OKw (w : Str) : Prop := shortW w ∧ 32 ∉ TL.tl w
instance {w : Str} : Decidable (OKw w) := by unfold OKw; exact inferInstance
theorem WOK.okw {w : Str} (h : WOK w) : OKw w := ⟨⟨h.asc, by have := h.2.1; omega⟩, h.cw.2.2.1⟩
theorem OKw.app {w s : Str} (h : WOK w) (hs : OKw s) (hl : s.length ≤ 20) : OKw (w ++ s) := ⟨⟨asc_app h.asc hs.1.1, by rw [str_appL]; have := h.2.1; omega⟩, fun z => by
  rw [TL.tl_append] at z
  rcases List.mem_append.mp z with z | z
  · exact h.cw.2.2.1 z
  · exact hs.2 z⟩
def BadLine (z : Str) : Prop := ∃ ws, z = txt ws ∧ BadL ws
def badLs (w : Str) : List Str := ["", "take", "pass", "any", "take any ", " take any", "take  any", "Take any", "takes any", "take own kind", "pass own hall", "take own", "take kind", "take kind ", "take any if", "take any any", "pass any and", "take kind " ++ w ++ " if", "take kind " ++ w ++ " " ++ w, "take hall " ++ w ++ "A", "pass make " ++ w ++ "aaaaaaaa", "take any\n", "\ntake any", "take kind " ++ w ++ "\n"]
theorem txt3 (a b c : Str) : TL.tl (txt [a, b, c]) = TL.tl a ++ (32 :: (TL.tl b ++ (32 :: TL.tl c))) := by rw [txt_tl]; rfl
theorem txt4 (a b c d : Str) : TL.tl (txt [a, b, c, d]) = TL.tl a ++ (32 :: (TL.tl b ++ (32 :: (TL.tl c ++ (32 :: TL.tl d))))) := by rw [txt_tl]; rfl
theorem badLs_ok {w : Str} (h : WOK w) : ∀ z ∈ badLs w, BadLine z := by
  have hw := h.okw
  have hA := OKw.app h (s := "A") (by decide) (by decide)
  have ha := OKw.app h (s := "aaaaaaaa") (by decide) (by decide)
  have hn := OKw.app h (s := "\n") (by decide) (by decide)
  have nA : isNm (w ++ "A") = false := isNm_bad (c := 65) (by rw [str_app]; exact List.mem_append_right _ (by decide)) (by decide)
  have nn : isNm (w ++ "\n") = false := isNm_bad (c := 10) (by rw [str_app]; exact List.mem_append_right _ (by decide)) (by decide)
  have na : isNm (w ++ "aaaaaaaa") = false := isNm_long (by rw [str_appL]; have := h.1; have e : Str.length "aaaaaaaa" = 8 := (by decide); omega)
  have d : ∀ (ws : List Str), (∀ x ∈ ws, OKw x) → ws.length ≤ 10 → NoRule ws → BadLine (txt ws) := fun ws a b c => ⟨ws, rfl, ⟨a, b, c⟩⟩
  have cv : ∀ {z : Str} {ws : List Str}, BadLine (txt ws) → z = txt ws → BadLine z := fun a e => e ▸ a
  refine al_cons (cv (d [""] (by decide) (by decide) (.act (by decide) (by decide))) (by decide +kernel)) ?_
  refine al_cons (cv (d ["take"] (by decide) (by decide) (.size rfl)) (by decide +kernel)) ?_
  refine al_cons (cv (d ["pass"] (by decide) (by decide) (.size rfl)) (by decide +kernel)) ?_
  refine al_cons (cv (d ["any"] (by decide) (by decide) (.act (by decide) (by decide))) (by decide +kernel)) ?_
  refine al_cons (cv (d ["take", "any", ""] (by decide) (by decide) (.cond1 (by decide +kernel))) (by decide +kernel)) ?_
  refine al_cons (cv (d ["", "take", "any"] (by decide) (by decide) (.act (by decide) (by decide))) (by decide +kernel)) ?_
  refine al_cons (cv (d ["take", "", "any"] (by decide) (by decide) (.size (by decide +kernel))) (by decide +kernel)) ?_
  refine al_cons (cv (d ["Take", "any"] (by decide) (by decide) (.act (by decide) (by decide))) (by decide +kernel)) ?_
  refine al_cons (cv (d ["takes", "any"] (by decide) (by decide) (.act (by decide) (by decide))) (by decide +kernel)) ?_
  refine al_cons (cv (d ["take", "own", "kind"] (by decide) (by decide) .own) (by decide +kernel)) ?_
  refine al_cons (cv (d ["pass", "own", "hall"] (by decide) (by decide) .own) (by decide +kernel)) ?_
  refine al_cons (cv (d ["take", "own"] (by decide) (by decide) .own) (by decide +kernel)) ?_
  refine al_cons (cv (d ["take", "kind"] (by decide) (by decide) (.size (by decide +kernel))) (by decide +kernel)) ?_
  refine al_cons (cv (d ["take", "kind", ""] (by decide) (by decide) (.size (by decide +kernel))) (by decide +kernel)) ?_
  refine al_cons (cv (d ["take", "any", "if"] (by decide) (by decide) (.cond1 (by decide +kernel))) (by decide +kernel)) ?_
  refine al_cons (cv (d ["take", "any", "any"] (by decide) (by decide) (.cond1 (by decide +kernel))) (by decide +kernel)) ?_
  refine al_cons (cv (d ["pass", "any", "and"] (by decide) (by decide) (.cond1 (by decide +kernel))) (by decide +kernel)) ?_
  refine al_cons (cv (d ["take", "kind", w, "if"] (al_cons (by decide) (al_cons (by decide) (al_cons hw (al_cons (by decide) al_nil)))) (by simp) (.cond2 (tsz_part (by decide) h.nm))) (TL.ext_tl (by rw [txt4, TL.tl_append, TL.tl_append, show TL.tl ("take kind " : Str) = TL.tl ("take" : Str) ++ (32 :: (TL.tl ("kind" : Str) ++ [32])) by decide, show TL.tl (" if" : Str) = 32 :: TL.tl ("if" : Str) by decide]; simp))) ?_
  refine al_cons (cv (d ["take", "kind", w, w] (al_cons (by decide) (al_cons (by decide) (al_cons hw (al_cons hw al_nil)))) (by simp) (.cond2 (tsz_part (by decide) h.nm))) (TL.ext_tl (by rw [txt4, TL.tl_append, TL.tl_append, TL.tl_append, show TL.tl ("take kind " : Str) = TL.tl ("take" : Str) ++ (32 :: (TL.tl ("kind" : Str) ++ [32])) by decide, sp_tl]; simp))) ?_
  refine al_cons (cv (d ["take", "hall", w ++ "A"] (al_cons (by decide) (al_cons (by decide) (al_cons hA al_nil))) (by simp) (.size (tsz_no (by decide) nA))) (TL.ext_tl (by rw [txt3, TL.tl_append, TL.tl_append, TL.tl_append, show TL.tl ("take hall " : Str) = TL.tl ("take" : Str) ++ (32 :: (TL.tl ("hall" : Str) ++ [32])) by decide]; simp))) ?_
  refine al_cons (cv (d ["pass", "make", w ++ "aaaaaaaa"] (al_cons (by decide) (al_cons (by decide) (al_cons ha al_nil))) (by simp) (.size (tsz_no (by decide) na))) (TL.ext_tl (by rw [txt3, TL.tl_append, TL.tl_append, TL.tl_append, show TL.tl ("pass make " : Str) = TL.tl ("pass" : Str) ++ (32 :: (TL.tl ("make" : Str) ++ [32])) by decide]; simp))) ?_
  refine al_cons (cv (d ["take", "any\n"] (by decide) (by decide) (.size (by decide +kernel))) (by decide +kernel)) ?_
  refine al_cons (cv (d ["\ntake", "any"] (by decide) (by decide) (.act (by decide) (by decide))) (by decide +kernel)) ?_
  refine al_cons (cv (d ["take", "kind", w ++ "\n"] (al_cons (by decide) (al_cons (by decide) (al_cons hn al_nil))) (by simp) (.size (tsz_no (by decide) nn))) (TL.ext_tl (by rw [txt3, TL.tl_append, TL.tl_append, TL.tl_append, show TL.tl ("take kind " : Str) = TL.tl ("take" : Str) ++ (32 :: (TL.tl ("kind" : Str) ++ [32])) by decide]; simp))) al_nil
theorem line_eq (r : Ru) (h : r.cs = []) : r.act ++ " " ++ txt r.who.words = txt r.words := by
  rw [← write_none h]
  refine TL.ext_tl ?_
  simp only [TL.tl_append, emp_tl, List.nil_append]
theorem good_pass {r : Ru} (h : r.ok) (hc : r.cs = []) (x y z u v w : Option DL.Slot) (E : Ko) (hE : E.nx ⟨[x, y, z, some (.val (.str r.act)), some (.val r.who.d), u, v], []⟩) :
    wf lb_law_2 ⟨[x, y, z, some (.val (.str r.act)), some (.val r.who.d), u, v], []⟩ E := by
  have e := txt_join (Tl.words_cw h.who) (Nat.le_trans Tl.words_len (by decide))
  have h1 : r.act.length ≤ 8 := ((by decide : ∀ p ∈ (["take", "pass"] : List Str), CW p) _ h.act).2.1
  have h3 := txt_bound (Tl.words_cw h.who)
  have h4 := r.who.words_len
  have z1 : szOk (r.act.length + Str.length " ") := by rw [sp_len]; unfold szOk; omega
  have z2 : szOk ((r.act ++ " ").length + (txt r.who.words).length) := by rw [str_appL, sp_len]; unfold szOk; omega
  have ed : r.d = .tup [.str r.act, .tup (r.who.words.map D.str), .tup []] := by
    rw [Ru.d_eq, hc]
    rfl
  have g := fun E => good_spec h E
  rw [ed] at g
  unfold lb_law_2 Tl.d
  unfold Tl.d at hE
  simp (decide := true) only [wf_seqZ, wf_seqL, wf_kill, wf_expr, wf_fret, wf_retN, wf_ifS, wf_setN, wf_setV, wf_setT, wf_par, wf_augI, wf_break, wf_cont, wf_thru, wf_raise, wf_tryAs, wm_xf, wm_is, wf_skip, wf_for, wm_var, wm_c, wm_frz, wm_frN, wm_nn, wm_un, wm_bin, wm_evs_nil, wm_evs_cons, wm_n, wm_tup, wm_lst, wm_bool, wm_notB, wm_andBZ, wm_orBZ, wm_and, wm_or, wm_if, wm_chain, wm_asInt, wm_noInt, wm_sl, wm_srcD, wm_srcN, wm_fmt, wm_js_nil, wm_js_cons, wm_tru, wm_strM, wm_mutL, wm_call, wm_comp, wc, EV.set, EV.kill, EV.kills, EV.put, EV.obj, EV.look, EV.looks, EV.objs, EV.key, EV.puts, argIx, argSl, gets, oD, oR, settled, List.set_cons_zero, List.set_cons_succ, List.getElem?_cons_zero, List.getElem?_cons_succ, List.replicate_succ, List.replicate_zero, List.map_cons, List.map_nil, List.length_cons, List.length_nil, List.nil_append, List.cons_append, Nat.reduceAdd, Nat.reduceSub, Nat.reduceLT, Nat.reduceLeDiff, List.nodup_cons, List.nodup_nil, List.not_mem_nil, not_false_eq_true, not_true_eq_false, and_self, and_true, true_and, and_false, false_and, if_true, if_false, reduceIte, Bool.false_eq_true, decide_eq_true_eq, decide_eq_false_iff_not, Bool.not_true, Bool.not_false, Bool.not_eq_true', Bool.not_eq_false', List.zip_cons_cons, List.zip_nil_right, List.zip_nil_left, List.foldl_cons, List.foldl_nil, tgN, tgT, tgT.go, tgL, mYes, wm_ret, List.headD_cons, listD, joinD, e, addD, z1, z2, line_eq r hc]
  refine g _ fun ρ' => ?_
  simp (decide := true) only [wf_seqZ, wf_seqL, wf_kill, wf_expr, wf_fret, wf_retN, wf_ifS, wf_setN, wf_setV, wf_setT, wf_par, wf_augI, wf_break, wf_cont, wf_thru, wf_raise, wf_tryAs, wm_xf, wm_is, wf_skip, wf_for, wm_var, wm_c, wm_frz, wm_frN, wm_nn, wm_un, wm_bin, wm_evs_nil, wm_evs_cons, wm_n, wm_tup, wm_lst, wm_bool, wm_notB, wm_andBZ, wm_orBZ, wm_and, wm_or, wm_if, wm_chain, wm_asInt, wm_noInt, wm_sl, wm_srcD, wm_srcN, wm_fmt, wm_js_nil, wm_js_cons, wm_tru, wm_strM, wm_mutL, wm_call, wm_comp, wc, EV.set, EV.kill, EV.kills, EV.put, EV.obj, EV.look, EV.looks, EV.objs, EV.key, EV.puts, argIx, argSl, gets, oD, oR, settled, List.set_cons_zero, List.set_cons_succ, List.getElem?_cons_zero, List.getElem?_cons_succ, List.replicate_succ, List.replicate_zero, List.map_cons, List.map_nil, List.length_cons, List.length_nil, List.nil_append, List.cons_append, Nat.reduceAdd, Nat.reduceSub, Nat.reduceLT, Nat.reduceLeDiff, List.nodup_cons, List.nodup_nil, List.not_mem_nil, not_false_eq_true, not_true_eq_false, and_self, and_true, true_and, and_false, false_and, if_true, if_false, reduceIte, Bool.false_eq_true, decide_eq_true_eq, decide_eq_false_iff_not, Bool.not_true, Bool.not_false, Bool.not_eq_true', Bool.not_eq_false', List.zip_cons_cons, List.zip_nil_right, List.zip_nil_left, List.foldl_cons, List.foldl_nil, tgN, tgT, tgT.go, tgL, mYes, wm_ret, List.headD_cons]
  exact hE
theorem good_loop (a : Str) (ha : a ∈ (["take", "pass"] : List Str)) (x y z u v : Option DL.Slot) (E : Ko) : ∀ (l : List Tl), (∀ t ∈ l, t.ok ∧ t.far) → E.nx ⟨[x, y, z, some (.val (.str a)), none, u, v], []⟩ →
    wf (forL (tgN 4) lb_law_2 [4] (l.map Tl.d)) ⟨[x, y, z, some (.val (.str a)), none, u, v], []⟩ E := by
  intro l hl hE
  refine wf_forL (fun ds ρ => (∃ l : List Tl, ds = l.map Tl.d ∧ ∀ t ∈ l, t.ok ∧ t.far) ∧ ρ = ⟨[x, y, z, some (.val (.str a)), none, u, v], []⟩) ?_ ?_ _ _ ⟨⟨l, rfl, hl⟩, rfl⟩
  · rintro d ds ρ ⟨⟨l, e, hl⟩, rfl⟩
    cases l with
    | nil => cases e
    | cons c l =>
      obtain ⟨rfl, rfl⟩ := List.cons.inj e
      refine ⟨_, rfl, ?_⟩
      obtain ⟨hc, hf⟩ := hl c List.mem_cons_self
      refine good_pass (r := ⟨a, c, []⟩) ⟨ha, hc, hf, (fun c hc => by cases hc), Nat.zero_le _⟩ rfl x y z u v none _ ?_
      exact ⟨⟨l, rfl, fun t ht => hl t (List.mem_cons_of_mem _ ht)⟩, rfl⟩
  · rintro ρ ⟨_, rfl⟩
    exact hE
def goodTs (w : Str) : List Tl := [.any, .part "kind" w, .part "hall" w, .part "make" w]
theorem goodTs_ok {w : Str} (h : WOK w) : ∀ t ∈ goodTs w, t.ok ∧ t.far :=
  al_cons ⟨trivial, trivial⟩ (al_cons ⟨⟨by decide, h⟩, trivial⟩ (al_cons ⟨⟨by decide, h⟩, trivial⟩ (al_cons ⟨⟨by decide, h⟩, trivial⟩ al_nil)))
theorem pure_law (ns : List Int) (hl : ns.length ≤ 63) : ∃ ρ', fb_law ⟨some (.val (.scr (ns.map D.int))) :: List.replicate 6 none, []⟩ = some (.ret (.v (.bl true)) ρ') := by
  refine wf_ret ?_
  unfold fb_law
  simp (decide := true) only [wf_seq, wf_seqL, wf_kill, wf_expr, wf_fret, wf_retN, wf_ifS, wf_setN, wf_setV, wf_setT, wf_par, wf_augI, wf_break, wf_cont, wf_thru, wf_raise, wf_tryAs, wm_xf, wm_is, wf_skip, wf_for, wm_var, wm_c, wm_frz, wm_frN, wm_nn, wm_un, wm_bin, wm_evs_nil, wm_evs_cons, wm_n, wm_tup, wm_lst, wm_bool, wm_notB, wm_andB, wm_orB, wm_and, wm_or, wm_if, wm_chain, wm_asInt, wm_noInt, wm_sl, wm_srcD, wm_srcN, wm_fmt, wm_js_nil, wm_js_cons, wm_tru, wm_strM, wm_mutL, wm_call, wm_comp, wc, EV.set, EV.kill, EV.kills, EV.put, EV.obj, EV.look, EV.looks, EV.objs, EV.key, EV.puts, argIx, argSl, gets, oD, oR, settled, List.set_cons_zero, List.set_cons_succ, List.getElem?_cons_zero, List.getElem?_cons_succ, List.replicate_succ, List.replicate_zero, List.map_cons, List.map_nil, List.length_cons, List.length_nil, List.nil_append, List.cons_append, Nat.reduceAdd, Nat.reduceSub, Nat.reduceLT, Nat.reduceLeDiff, List.nodup_cons, List.nodup_nil, List.not_mem_nil, not_false_eq_true, not_true_eq_false, and_self, and_true, true_and, and_false, false_and, if_true, if_false, reduceIte, Bool.false_eq_true, decide_eq_true_eq, decide_eq_false_iff_not, Bool.not_true, Bool.not_false, Bool.not_eq_true', Bool.not_eq_false', List.zip_cons_cons, List.zip_nil_right, List.zip_nil_left, List.foldl_cons, List.foldl_nil, tgN, tgT, tgT.go, tgL, mYes, wm_ret, List.headD_cons]
  refine draws_spec ns _ fun xs ρ1 => ?_
  simp (decide := true) only [wf_seq, wf_seqL, wf_kill, wf_expr, wf_fret, wf_retN, wf_ifS, wf_setN, wf_setV, wf_setT, wf_par, wf_augI, wf_break, wf_cont, wf_thru, wf_raise, wf_tryAs, wm_xf, wm_is, wf_skip, wf_for, wm_var, wm_c, wm_frz, wm_frN, wm_nn, wm_un, wm_bin, wm_evs_nil, wm_evs_cons, wm_n, wm_tup, wm_lst, wm_bool, wm_notB, wm_andB, wm_orB, wm_and, wm_or, wm_if, wm_chain, wm_asInt, wm_noInt, wm_sl, wm_srcD, wm_srcN, wm_fmt, wm_js_nil, wm_js_cons, wm_tru, wm_strM, wm_mutL, wm_call, wm_comp, wc, EV.set, EV.kill, EV.kills, EV.put, EV.obj, EV.look, EV.looks, EV.objs, EV.key, EV.puts, argIx, argSl, gets, oD, oR, settled, List.set_cons_zero, List.set_cons_succ, List.getElem?_cons_zero, List.getElem?_cons_succ, List.replicate_succ, List.replicate_zero, List.map_cons, List.map_nil, List.length_cons, List.length_nil, List.nil_append, List.cons_append, Nat.reduceAdd, Nat.reduceSub, Nat.reduceLT, Nat.reduceLeDiff, List.nodup_cons, List.nodup_nil, List.not_mem_nil, not_false_eq_true, not_true_eq_false, and_self, and_true, true_and, and_false, false_and, if_true, if_false, reduceIte, Bool.false_eq_true, decide_eq_true_eq, decide_eq_false_iff_not, Bool.not_true, Bool.not_false, Bool.not_eq_true', Bool.not_eq_false', List.zip_cons_cons, List.zip_nil_right, List.zip_nil_left, List.foldl_cons, List.foldl_nil, tgN, tgT, tgT.go, tgL, mYes, wm_ret, List.headD_cons]
  unfold later rb_law_4
  simp (decide := true) only [wf_seq, wf_seqL, wf_kill, wf_expr, wf_fret, wf_retN, wf_ifS, wf_setN, wf_setV, wf_setT, wf_par, wf_augI, wf_break, wf_cont, wf_thru, wf_raise, wf_tryAs, wm_xf, wm_is, wf_skip, wf_for, wm_var, wm_c, wm_frz, wm_frN, wm_nn, wm_un, wm_bin, wm_evs_nil, wm_evs_cons, wm_n, wm_tup, wm_lst, wm_bool, wm_notB, wm_andB, wm_orB, wm_and, wm_or, wm_if, wm_chain, wm_asInt, wm_noInt, wm_sl, wm_srcD, wm_srcN, wm_fmt, wm_js_nil, wm_js_cons, wm_tru, wm_strM, wm_mutL, wm_call, wm_comp, wc, EV.set, EV.kill, EV.kills, EV.put, EV.obj, EV.look, EV.looks, EV.objs, EV.key, EV.puts, argIx, argSl, gets, oD, oR, settled, List.set_cons_zero, List.set_cons_succ, List.getElem?_cons_zero, List.getElem?_cons_succ, List.replicate_succ, List.replicate_zero, List.map_cons, List.map_nil, List.length_cons, List.length_nil, List.nil_append, List.cons_append, Nat.reduceAdd, Nat.reduceSub, Nat.reduceLT, Nat.reduceLeDiff, List.nodup_cons, List.nodup_nil, List.not_mem_nil, not_false_eq_true, not_true_eq_false, and_self, and_true, true_and, and_false, false_and, if_true, if_false, reduceIte, Bool.false_eq_true, decide_eq_true_eq, decide_eq_false_iff_not, Bool.not_true, Bool.not_false, Bool.not_eq_true', Bool.not_eq_false', List.zip_cons_cons, List.zip_nil_right, List.zip_nil_left, List.foldl_cons, List.foldl_nil, tgN, tgT, tgT.go, tgL, mYes, wm_ret, List.headD_cons]
  refine word_spec xs _ fun w t ρ2 h hp => ?_
  simp (decide := true) only [wf_seq, wf_seqL, wf_kill, wf_expr, wf_fret, wf_retN, wf_ifS, wf_setN, wf_setV, wf_setT, wf_par, wf_augI, wf_break, wf_cont, wf_thru, wf_raise, wf_tryAs, wm_xf, wm_is, wf_skip, wf_for, wm_var, wm_c, wm_frz, wm_frN, wm_nn, wm_un, wm_bin, wm_evs_nil, wm_evs_cons, wm_n, wm_tup, wm_lst, wm_bool, wm_notB, wm_andB, wm_orB, wm_and, wm_or, wm_if, wm_chain, wm_asInt, wm_noInt, wm_sl, wm_srcD, wm_srcN, wm_fmt, wm_js_nil, wm_js_cons, wm_tru, wm_strM, wm_mutL, wm_call, wm_comp, wc, EV.set, EV.kill, EV.kills, EV.put, EV.obj, EV.look, EV.looks, EV.objs, EV.key, EV.puts, argIx, argSl, gets, oD, oR, settled, List.set_cons_zero, List.set_cons_succ, List.getElem?_cons_zero, List.getElem?_cons_succ, List.replicate_succ, List.replicate_zero, List.map_cons, List.map_nil, List.length_cons, List.length_nil, List.nil_append, List.cons_append, Nat.reduceAdd, Nat.reduceSub, Nat.reduceLT, Nat.reduceLeDiff, List.nodup_cons, List.nodup_nil, List.not_mem_nil, not_false_eq_true, not_true_eq_false, and_self, and_true, true_and, and_false, false_and, if_true, if_false, reduceIte, Bool.false_eq_true, decide_eq_true_eq, decide_eq_false_iff_not, Bool.not_true, Bool.not_false, Bool.not_eq_true', Bool.not_eq_false', List.zip_cons_cons, List.zip_nil_right, List.zip_nil_left, List.foldl_cons, List.foldl_nil, tgN, tgT, tgT.go, tgL, mYes, wm_ret, List.headD_cons, hp]
  unfold later rb_law_3
  simp (decide := true) only [wf_seq, wf_seqL, wf_kill, wf_expr, wf_fret, wf_retN, wf_ifS, wf_setN, wf_setV, wf_setT, wf_par, wf_augI, wf_break, wf_cont, wf_thru, wf_raise, wf_tryAs, wm_xf, wm_is, wf_skip, wf_for, wm_var, wm_c, wm_frz, wm_frN, wm_nn, wm_un, wm_bin, wm_evs_nil, wm_evs_cons, wm_n, wm_tup, wm_lst, wm_bool, wm_notB, wm_andB, wm_orB, wm_and, wm_or, wm_if, wm_chain, wm_asInt, wm_noInt, wm_sl, wm_srcD, wm_srcN, wm_fmt, wm_js_nil, wm_js_cons, wm_tru, wm_strM, wm_mutL, wm_call, wm_comp, wc, EV.set, EV.kill, EV.kills, EV.put, EV.obj, EV.look, EV.looks, EV.objs, EV.key, EV.puts, argIx, argSl, gets, oD, oR, settled, List.set_cons_zero, List.set_cons_succ, List.getElem?_cons_zero, List.getElem?_cons_succ, List.replicate_succ, List.replicate_zero, List.map_cons, List.map_nil, List.length_cons, List.length_nil, List.nil_append, List.cons_append, Nat.reduceAdd, Nat.reduceSub, Nat.reduceLT, Nat.reduceLeDiff, List.nodup_cons, List.nodup_nil, List.not_mem_nil, not_false_eq_true, not_true_eq_false, and_self, and_true, true_and, and_false, false_and, if_true, if_false, reduceIte, Bool.false_eq_true, decide_eq_true_eq, decide_eq_false_iff_not, Bool.not_true, Bool.not_false, Bool.not_eq_true', Bool.not_eq_false', List.zip_cons_cons, List.zip_nil_right, List.zip_nil_left, List.foldl_cons, List.foldl_nil, tgN, tgT, tgT.go, tgL, mYes, wm_ret, List.headD_cons, itemsD]
  refine wf_forL (fun ds ρ => (∃ l : List Str, ds = l.map D.str ∧ ∀ a ∈ l, a ∈ (["take", "pass"] : List Str)) ∧ ρ = ⟨[some (.val (.scr (ns.map D.int))), some (.own (iL t)), some (.val (.str w)), none, none, none, none], []⟩) ?_ ?_ _ _ ⟨⟨["take", "pass"], rfl, fun a ha => ha⟩, rfl⟩
  · rintro d ds ρ ⟨⟨l, e, hl⟩, rfl⟩
    cases l with
    | nil => cases e
    | cons a l =>
      obtain ⟨rfl, rfl⟩ := List.cons.inj e
      refine ⟨_, rfl, ?_⟩
      unfold lb_law_1
      simp (decide := true) only [wf_seq, wf_seqL, wf_kill, wf_expr, wf_fret, wf_retN, wf_ifS, wf_setN, wf_setV, wf_setT, wf_par, wf_augI, wf_break, wf_cont, wf_thru, wf_raise, wf_tryAs, wm_xf, wm_is, wf_skip, wf_for, wm_var, wm_c, wm_frz, wm_frN, wm_nn, wm_un, wm_bin, wm_evs_nil, wm_evs_cons, wm_n, wm_tup, wm_lst, wm_bool, wm_notB, wm_andB, wm_orB, wm_and, wm_or, wm_if, wm_chain, wm_asInt, wm_noInt, wm_sl, wm_srcD, wm_srcN, wm_fmt, wm_js_nil, wm_js_cons, wm_tru, wm_strM, wm_mutL, wm_call, wm_comp, wc, EV.set, EV.kill, EV.kills, EV.put, EV.obj, EV.look, EV.looks, EV.objs, EV.key, EV.puts, argIx, argSl, gets, oD, oR, settled, List.set_cons_zero, List.set_cons_succ, List.getElem?_cons_zero, List.getElem?_cons_succ, List.replicate_succ, List.replicate_zero, List.map_cons, List.map_nil, List.length_cons, List.length_nil, List.nil_append, List.cons_append, Nat.reduceAdd, Nat.reduceSub, Nat.reduceLT, Nat.reduceLeDiff, List.nodup_cons, List.nodup_nil, List.not_mem_nil, not_false_eq_true, not_true_eq_false, and_self, and_true, true_and, and_false, false_and, if_true, if_false, reduceIte, Bool.false_eq_true, decide_eq_true_eq, decide_eq_false_iff_not, Bool.not_true, Bool.not_false, Bool.not_eq_true', Bool.not_eq_false', List.zip_cons_cons, List.zip_nil_right, List.zip_nil_left, List.foldl_cons, List.foldl_nil, tgN, tgT, tgT.go, tgL, mYes, wm_ret, List.headD_cons, itemsD]
      exact good_loop a (hl a List.mem_cons_self) _ _ _ _ _ _ (goodTs w) (goodTs_ok h) ⟨⟨l, rfl, fun a ha => hl a (List.mem_cons_of_mem _ ha)⟩, rfl⟩
  · rintro ρ ⟨_, rfl⟩
    have hw := h.2.1
    have zz : ∀ s s' : Str, s.length ≤ 200 → s'.length ≤ 200 → szOk (s.length + s'.length) := fun s s' h1 h2 => by unfold szOk; omega
    have w8 : w.length ≤ 200 := by omega
    have k1 : Str.length "take kind " ≤ 200 := by decide
    have k2 : Str.length "take hall " ≤ 200 := by decide
    have k3 : Str.length "pass make " ≤ 200 := by decide
    have a1 : ("take kind " ++ w).length ≤ 100 := by rw [str_appL]; have : Str.length "take kind " = 10 := (by decide); omega
    have a2 : ("take hall " ++ w).length ≤ 100 := by rw [str_appL]; have : Str.length "take hall " = 10 := (by decide); omega
    have a3 : ("pass make " ++ w).length ≤ 100 := by rw [str_appL]; have : Str.length "pass make " = 10 := (by decide); omega
    have a4 : ("take kind " ++ w ++ " ").length ≤ 150 := by rw [str_appL, sp_len]; omega
    have s1 := zz "take kind " w k1 w8
    have s2 := zz "take hall " w k2 w8
    have s3 := zz "pass make " w k3 w8
    have s4 := zz ("take kind " ++ w) " if" (by omega) (by decide)
    have s5 := zz ("take kind " ++ w) " " (by omega) (by decide)
    have s6 := zz ("take kind " ++ w ++ " ") w (by omega) w8
    have s7 := zz ("take hall " ++ w) "A" (by omega) (by decide)
    have s8 := zz ("pass make " ++ w) "aaaaaaaa" (by omega) (by decide)
    have s9 := zz ("take kind " ++ w) "\n" (by omega) (by decide)
    unfold later rb_law_2
    simp (decide := true) only [wf_seqZ, wf_seqL, wf_kill, wf_expr, wf_fret, wf_retN, wf_ifS, wf_setN, wf_setV, wf_setT, wf_par, wf_augI, wf_break, wf_cont, wf_thru, wf_raise, wf_tryAs, wm_xf, wm_is, wf_skip, wf_for, wm_var, wm_c, wm_frz, wm_frN, wm_nn, wm_un, wm_bin, wm_evs_nil, wm_evs_cons, wm_n, wm_tup, wm_lst, wm_bool, wm_notB, wm_andB, wm_orB, wm_and, wm_or, wm_if, wm_chain, wm_asInt, wm_noInt, wm_sl, wm_srcD, wm_srcN, wm_fmt, wm_js_nil, wm_js_cons, wm_tru, wm_strM, wm_mutL, wm_call, wm_comp, wc, EV.set, EV.kill, EV.kills, EV.put, EV.obj, EV.look, EV.looks, EV.objs, EV.key, EV.puts, argIx, argSl, gets, oD, oR, settled, List.set_cons_zero, List.set_cons_succ, List.getElem?_cons_zero, List.getElem?_cons_succ, List.replicate_succ, List.replicate_zero, List.map_cons, List.map_nil, List.length_cons, List.length_nil, List.nil_append, List.cons_append, Nat.reduceAdd, Nat.reduceSub, Nat.reduceLT, Nat.reduceLeDiff, List.nodup_cons, List.nodup_nil, List.not_mem_nil, not_false_eq_true, not_true_eq_false, and_self, and_true, true_and, and_false, false_and, if_true, if_false, reduceIte, Bool.false_eq_true, decide_eq_true_eq, decide_eq_false_iff_not, Bool.not_true, Bool.not_false, Bool.not_eq_true', Bool.not_eq_false', List.zip_cons_cons, List.zip_nil_right, List.zip_nil_left, List.foldl_cons, List.foldl_nil, tgN, tgT, tgT.go, tgL, mYes, wm_ret, List.headD_cons, addD, s1, s2, s3, s4, s5, s6, s7, s8, s9]
    rw [later_eq]
    simp (decide := true) only [wf_seqZ, wf_seqL, wf_kill, wf_expr, wf_fret, wf_retN, wf_ifS, wf_setN, wf_setV, wf_setT, wf_par, wf_augI, wf_break, wf_cont, wf_thru, wf_raise, wf_tryAs, wm_xf, wm_is, wf_skip, wf_for, wm_var, wm_c, wm_frz, wm_frN, wm_nn, wm_un, wm_bin, wm_evs_nil, wm_evs_cons, wm_n, wm_tup, wm_lst, wm_bool, wm_notB, wm_andB, wm_orB, wm_and, wm_or, wm_if, wm_chain, wm_asInt, wm_noInt, wm_sl, wm_srcD, wm_srcN, wm_fmt, wm_js_nil, wm_js_cons, wm_tru, wm_strM, wm_mutL, wm_call, wm_comp, wc, EV.set, EV.kill, EV.kills, EV.put, EV.obj, EV.look, EV.looks, EV.objs, EV.key, EV.puts, argIx, argSl, gets, oD, oR, settled, List.set_cons_zero, List.set_cons_succ, List.getElem?_cons_zero, List.getElem?_cons_succ, List.replicate_succ, List.replicate_zero, List.map_cons, List.map_nil, List.length_cons, List.length_nil, List.nil_append, List.cons_append, Nat.reduceAdd, Nat.reduceSub, Nat.reduceLT, Nat.reduceLeDiff, List.nodup_cons, List.nodup_nil, List.not_mem_nil, not_false_eq_true, not_true_eq_false, and_self, and_true, true_and, and_false, false_and, if_true, if_false, reduceIte, Bool.false_eq_true, decide_eq_true_eq, decide_eq_false_iff_not, Bool.not_true, Bool.not_false, Bool.not_eq_true', Bool.not_eq_false', List.zip_cons_cons, List.zip_nil_right, List.zip_nil_left, List.foldl_cons, List.foldl_nil, tgN, tgT, tgT.go, tgL, mYes, wm_ret, List.headD_cons, addD, s1, s2, s3, s4, s5, s6, s7, s8, s9]
    rw [later_eq]
    simp (decide := true) only [wf_seqZ, wf_seqL, wf_kill, wf_expr, wf_fret, wf_retN, wf_ifS, wf_setN, wf_setV, wf_setT, wf_par, wf_augI, wf_break, wf_cont, wf_thru, wf_raise, wf_tryAs, wm_xf, wm_is, wf_skip, wf_for, wm_var, wm_c, wm_frz, wm_frN, wm_nn, wm_un, wm_bin, wm_evs_nil, wm_evs_cons, wm_n, wm_tup, wm_lst, wm_bool, wm_notB, wm_andB, wm_orB, wm_and, wm_or, wm_if, wm_chain, wm_asInt, wm_noInt, wm_sl, wm_srcD, wm_srcN, wm_fmt, wm_js_nil, wm_js_cons, wm_tru, wm_strM, wm_mutL, wm_call, wm_comp, wc, EV.set, EV.kill, EV.kills, EV.put, EV.obj, EV.look, EV.looks, EV.objs, EV.key, EV.puts, argIx, argSl, gets, oD, oR, settled, List.set_cons_zero, List.set_cons_succ, List.getElem?_cons_zero, List.getElem?_cons_succ, List.replicate_succ, List.replicate_zero, List.map_cons, List.map_nil, List.length_cons, List.length_nil, List.nil_append, List.cons_append, Nat.reduceAdd, Nat.reduceSub, Nat.reduceLT, Nat.reduceLeDiff, List.nodup_cons, List.nodup_nil, List.not_mem_nil, not_false_eq_true, not_true_eq_false, and_self, and_true, true_and, and_false, false_and, if_true, if_false, reduceIte, Bool.false_eq_true, decide_eq_true_eq, decide_eq_false_iff_not, Bool.not_true, Bool.not_false, Bool.not_eq_true', Bool.not_eq_false', List.zip_cons_cons, List.zip_nil_right, List.zip_nil_left, List.foldl_cons, List.foldl_nil, tgN, tgT, tgT.go, tgL, mYes, wm_ret, List.headD_cons, addD, s1, s2, s3, s4, s5, s6, s7, s8, s9]
    rw [later_eq]
    simp (decide := true) only [wf_seqZ, wf_seqL, wf_kill, wf_expr, wf_fret, wf_retN, wf_ifS, wf_setN, wf_setV, wf_setT, wf_par, wf_augI, wf_break, wf_cont, wf_thru, wf_raise, wf_tryAs, wm_xf, wm_is, wf_skip, wf_for, wm_var, wm_c, wm_frz, wm_frN, wm_nn, wm_un, wm_bin, wm_evs_nil, wm_evs_cons, wm_n, wm_tup, wm_lst, wm_bool, wm_notB, wm_andB, wm_orB, wm_and, wm_or, wm_if, wm_chain, wm_asInt, wm_noInt, wm_sl, wm_srcD, wm_srcN, wm_fmt, wm_js_nil, wm_js_cons, wm_tru, wm_strM, wm_mutL, wm_call, wm_comp, wc, EV.set, EV.kill, EV.kills, EV.put, EV.obj, EV.look, EV.looks, EV.objs, EV.key, EV.puts, argIx, argSl, gets, oD, oR, settled, List.set_cons_zero, List.set_cons_succ, List.getElem?_cons_zero, List.getElem?_cons_succ, List.replicate_succ, List.replicate_zero, List.map_cons, List.map_nil, List.length_cons, List.length_nil, List.nil_append, List.cons_append, Nat.reduceAdd, Nat.reduceSub, Nat.reduceLT, Nat.reduceLeDiff, List.nodup_cons, List.nodup_nil, List.not_mem_nil, not_false_eq_true, not_true_eq_false, and_self, and_true, true_and, and_false, false_and, if_true, if_false, reduceIte, Bool.false_eq_true, decide_eq_true_eq, decide_eq_false_iff_not, Bool.not_true, Bool.not_false, Bool.not_eq_true', Bool.not_eq_false', List.zip_cons_cons, List.zip_nil_right, List.zip_nil_left, List.foldl_cons, List.foldl_nil, tgN, tgT, tgT.go, tgL, mYes, wm_ret, List.headD_cons, addD, s1, s2, s3, s4, s5, s6, s7, s8, s9]
    rw [later_eq]
    simp (decide := true) only [wf_seqZ, wf_seqL, wf_kill, wf_expr, wf_fret, wf_retN, wf_ifS, wf_setN, wf_setV, wf_setT, wf_par, wf_augI, wf_break, wf_cont, wf_thru, wf_raise, wf_tryAs, wm_xf, wm_is, wf_skip, wf_for, wm_var, wm_c, wm_frz, wm_frN, wm_nn, wm_un, wm_bin, wm_evs_nil, wm_evs_cons, wm_n, wm_tup, wm_lst, wm_bool, wm_notB, wm_andB, wm_orB, wm_and, wm_or, wm_if, wm_chain, wm_asInt, wm_noInt, wm_sl, wm_srcD, wm_srcN, wm_fmt, wm_js_nil, wm_js_cons, wm_tru, wm_strM, wm_mutL, wm_call, wm_comp, wc, EV.set, EV.kill, EV.kills, EV.put, EV.obj, EV.look, EV.looks, EV.objs, EV.key, EV.puts, argIx, argSl, gets, oD, oR, settled, List.set_cons_zero, List.set_cons_succ, List.getElem?_cons_zero, List.getElem?_cons_succ, List.replicate_succ, List.replicate_zero, List.map_cons, List.map_nil, List.length_cons, List.length_nil, List.nil_append, List.cons_append, Nat.reduceAdd, Nat.reduceSub, Nat.reduceLT, Nat.reduceLeDiff, List.nodup_cons, List.nodup_nil, List.not_mem_nil, not_false_eq_true, not_true_eq_false, and_self, and_true, true_and, and_false, false_and, if_true, if_false, reduceIte, Bool.false_eq_true, decide_eq_true_eq, decide_eq_false_iff_not, Bool.not_true, Bool.not_false, Bool.not_eq_true', Bool.not_eq_false', List.zip_cons_cons, List.zip_nil_right, List.zip_nil_left, List.foldl_cons, List.foldl_nil, tgN, tgT, tgT.go, tgL, mYes, wm_ret, List.headD_cons, itemsD]
    refine wf_forL (fun ds ρ => (∃ l : List Str, ds = l.map D.str ∧ ∀ z ∈ l, BadLine z) ∧ ∃ y, ρ = ⟨[some (.val (.scr (ns.map D.int))), some (.own (iL t)), some (.val (.str w)), none, none, y, none], []⟩) ?_ ?_ _ _ ⟨⟨badLs w, rfl, badLs_ok h⟩, _, rfl⟩
    · rintro d ds ρ ⟨⟨l, e, hl⟩, y, rfl⟩
      cases l with
      | nil => cases e
      | cons z l =>
        obtain ⟨rfl, rfl⟩ := List.cons.inj e
        refine ⟨_, rfl, ?_⟩
        obtain ⟨ws, rfl, hb⟩ := hl z List.mem_cons_self
        unfold lb_law_3
        simp (decide := true) only [wf_seqZ, wf_seqL, wf_kill, wf_expr, wf_fret, wf_retN, wf_ifS, wf_setN, wf_setV, wf_setT, wf_par, wf_augI, wf_break, wf_cont, wf_thru, wf_raise, wf_tryAs, wm_xf, wm_is, wf_skip, wf_for, wm_var, wm_c, wm_frz, wm_frN, wm_nn, wm_un, wm_bin, wm_evs_nil, wm_evs_cons, wm_n, wm_tup, wm_lst, wm_bool, wm_notB, wm_andBZ, wm_orBZ, wm_and, wm_or, wm_if, wm_chain, wm_asInt, wm_noInt, wm_sl, wm_srcD, wm_srcN, wm_fmt, wm_js_nil, wm_js_cons, wm_tru, wm_strM, wm_mutL, wm_call, wm_comp, wc, EV.set, EV.kill, EV.kills, EV.put, EV.obj, EV.look, EV.looks, EV.objs, EV.key, EV.puts, argIx, argSl, gets, oD, oR, settled, List.set_cons_zero, List.set_cons_succ, List.getElem?_cons_zero, List.getElem?_cons_succ, List.replicate_succ, List.replicate_zero, List.map_cons, List.map_nil, List.length_cons, List.length_nil, List.nil_append, List.cons_append, Nat.reduceAdd, Nat.reduceSub, Nat.reduceLT, Nat.reduceLeDiff, List.nodup_cons, List.nodup_nil, List.not_mem_nil, not_false_eq_true, not_true_eq_false, and_self, and_true, true_and, and_false, false_and, if_true, if_false, reduceIte, Bool.false_eq_true, decide_eq_true_eq, decide_eq_false_iff_not, Bool.not_true, Bool.not_false, Bool.not_eq_true', Bool.not_eq_false', List.zip_cons_cons, List.zip_nil_right, List.zip_nil_left, List.foldl_cons, List.foldl_nil, tgN, tgT, tgT.go, tgL, mYes, wm_ret, List.headD_cons]
        refine bad_spec hb _ fun ρ3 => ?_
        simp (decide := true) only [wf_seqZ, wf_seqL, wf_kill, wf_expr, wf_fret, wf_retN, wf_ifS, wf_setN, wf_setV, wf_setT, wf_par, wf_augI, wf_break, wf_cont, wf_thru, wf_raise, wf_tryAs, wm_xf, wm_is, wf_skip, wf_for, wm_var, wm_c, wm_frz, wm_frN, wm_nn, wm_un, wm_bin, wm_evs_nil, wm_evs_cons, wm_n, wm_tup, wm_lst, wm_bool, wm_notB, wm_andBZ, wm_orBZ, wm_and, wm_or, wm_if, wm_chain, wm_asInt, wm_noInt, wm_sl, wm_srcD, wm_srcN, wm_fmt, wm_js_nil, wm_js_cons, wm_tru, wm_strM, wm_mutL, wm_call, wm_comp, wc, EV.set, EV.kill, EV.kills, EV.put, EV.obj, EV.look, EV.looks, EV.objs, EV.key, EV.puts, argIx, argSl, gets, oD, oR, settled, List.set_cons_zero, List.set_cons_succ, List.getElem?_cons_zero, List.getElem?_cons_succ, List.replicate_succ, List.replicate_zero, List.map_cons, List.map_nil, List.length_cons, List.length_nil, List.nil_append, List.cons_append, Nat.reduceAdd, Nat.reduceSub, Nat.reduceLT, Nat.reduceLeDiff, List.nodup_cons, List.nodup_nil, List.not_mem_nil, not_false_eq_true, not_true_eq_false, and_self, and_true, true_and, and_false, false_and, if_true, if_false, reduceIte, Bool.false_eq_true, decide_eq_true_eq, decide_eq_false_iff_not, Bool.not_true, Bool.not_false, Bool.not_eq_true', Bool.not_eq_false', List.zip_cons_cons, List.zip_nil_right, List.zip_nil_left, List.foldl_cons, List.foldl_nil, tgN, tgT, tgT.go, tgL, mYes, wm_ret, List.headD_cons]
        rw [laterM_eq]
        simp (decide := true) only [wf_seqZ, wf_seqL, wf_kill, wf_expr, wf_fret, wf_retN, wf_ifS, wf_setN, wf_setV, wf_setT, wf_par, wf_augI, wf_break, wf_cont, wf_thru, wf_raise, wf_tryAs, wm_xf, wm_is, wf_skip, wf_for, wm_var, wm_c, wm_frz, wm_frN, wm_nn, wm_un, wm_bin, wm_evs_nil, wm_evs_cons, wm_n, wm_tup, wm_lst, wm_bool, wm_notB, wm_andBZ, wm_orBZ, wm_and, wm_or, wm_if, wm_chain, wm_asInt, wm_noInt, wm_sl, wm_srcD, wm_srcN, wm_fmt, wm_js_nil, wm_js_cons, wm_tru, wm_strM, wm_mutL, wm_call, wm_comp, wc, EV.set, EV.kill, EV.kills, EV.put, EV.obj, EV.look, EV.looks, EV.objs, EV.key, EV.puts, argIx, argSl, gets, oD, oR, settled, List.set_cons_zero, List.set_cons_succ, List.getElem?_cons_zero, List.getElem?_cons_succ, List.replicate_succ, List.replicate_zero, List.map_cons, List.map_nil, List.length_cons, List.length_nil, List.nil_append, List.cons_append, Nat.reduceAdd, Nat.reduceSub, Nat.reduceLT, Nat.reduceLeDiff, List.nodup_cons, List.nodup_nil, List.not_mem_nil, not_false_eq_true, not_true_eq_false, and_self, and_true, true_and, and_false, false_and, if_true, if_false, reduceIte, Bool.false_eq_true, decide_eq_true_eq, decide_eq_false_iff_not, Bool.not_true, Bool.not_false, Bool.not_eq_true', Bool.not_eq_false', List.zip_cons_cons, List.zip_nil_right, List.zip_nil_left, List.foldl_cons, List.foldl_nil, tgN, tgT, tgT.go, tgL, mYes, wm_ret, List.headD_cons]
        refine kin_spec hb _ fun ρ4 => ?_
        have hk := kin_ne
        unfold kinL at hk ⊢
        simp (decide := true) only [wf_seqZ, wf_seqL, wf_kill, wf_expr, wf_fret, wf_retN, wf_ifS, wf_setN, wf_setV, wf_setT, wf_par, wf_augI, wf_break, wf_cont, wf_thru, wf_raise, wf_tryAs, wm_xf, wm_is, wf_skip, wf_for, wm_var, wm_c, wm_frz, wm_frN, wm_nn, wm_un, wm_bin, wm_evs_nil, wm_evs_cons, wm_n, wm_tup, wm_lst, wm_bool, wm_notB, wm_andBZ, wm_orBZ, wm_and, wm_or, wm_if, wm_chain, wm_asInt, wm_noInt, wm_sl, wm_srcD, wm_srcN, wm_fmt, wm_js_nil, wm_js_cons, wm_tru, wm_strM, wm_mutL, wm_call, wm_comp, wc, EV.set, EV.kill, EV.kills, EV.put, EV.obj, EV.look, EV.looks, EV.objs, EV.key, EV.puts, argIx, argSl, gets, oD, oR, settled, List.set_cons_zero, List.set_cons_succ, List.getElem?_cons_zero, List.getElem?_cons_succ, List.replicate_succ, List.replicate_zero, List.map_cons, List.map_nil, List.length_cons, List.length_nil, List.nil_append, List.cons_append, Nat.reduceAdd, Nat.reduceSub, Nat.reduceLT, Nat.reduceLeDiff, List.nodup_cons, List.nodup_nil, List.not_mem_nil, not_false_eq_true, not_true_eq_false, and_self, and_true, true_and, and_false, false_and, if_true, if_false, reduceIte, Bool.false_eq_true, decide_eq_true_eq, decide_eq_false_iff_not, Bool.not_true, Bool.not_false, Bool.not_eq_true', Bool.not_eq_false', List.zip_cons_cons, List.zip_nil_right, List.zip_nil_left, List.foldl_cons, List.foldl_nil, tgN, tgT, tgT.go, tgL, mYes, wm_ret, List.headD_cons, hk]
        exact ⟨⟨l, rfl, fun t ht => hl t (List.mem_cons_of_mem _ ht)⟩, y, rfl⟩
    · rintro ρ ⟨_, y, rfl⟩
      unfold later rb_law_1
      have hr : Ru.ok ⟨"pass", .part "hall" w, []⟩ := ⟨(show ("pass" : Str) ∈ (["take", "pass"] : List Str) by decide), ⟨by decide, h⟩, trivial, (fun c hc => by cases hc), Nat.zero_le _⟩
      have el : ("pass hall " : Str) ++ w = txt (Ru.words ⟨"pass", .part "hall" w, []⟩) := by
        refine TL.ext_tl ?_
        show _ = TL.tl (txt ["pass", "hall", w])
        rw [txt3, TL.tl_append, show TL.tl ("pass hall " : Str) = TL.tl ("pass" : Str) ++ (32 :: (TL.tl ("hall" : Str) ++ [32])) by decide]
        simp
      have zl := zz "pass hall " w (by decide) w8
      simp (decide := true) only [wf_seqZ, wf_seqL, wf_kill, wf_expr, wf_fret, wf_retN, wf_ifS, wf_setN, wf_setV, wf_setT, wf_par, wf_augI, wf_break, wf_cont, wf_thru, wf_raise, wf_tryAs, wm_xf, wm_is, wf_skip, wf_for, wm_var, wm_c, wm_frz, wm_frN, wm_nn, wm_un, wm_bin, wm_evs_nil, wm_evs_cons, wm_n, wm_tup, wm_lst, wm_bool, wm_notB, wm_andBZ, wm_orBZ, wm_and, wm_or, wm_if, wm_chain, wm_asInt, wm_noInt, wm_sl, wm_srcD, wm_srcN, wm_fmt, wm_js_nil, wm_js_cons, wm_tru, wm_strM, wm_mutL, wm_call, wm_comp, wc, EV.set, EV.kill, EV.kills, EV.put, EV.obj, EV.look, EV.looks, EV.objs, EV.key, EV.puts, argIx, argSl, gets, oD, oR, settled, List.set_cons_zero, List.set_cons_succ, List.getElem?_cons_zero, List.getElem?_cons_succ, List.replicate_succ, List.replicate_zero, List.map_cons, List.map_nil, List.length_cons, List.length_nil, List.nil_append, List.cons_append, Nat.reduceAdd, Nat.reduceSub, Nat.reduceLT, Nat.reduceLeDiff, List.nodup_cons, List.nodup_nil, List.not_mem_nil, not_false_eq_true, not_true_eq_false, and_self, and_true, true_and, and_false, false_and, if_true, if_false, reduceIte, Bool.false_eq_true, decide_eq_true_eq, decide_eq_false_iff_not, Bool.not_true, Bool.not_false, Bool.not_eq_true', Bool.not_eq_false', List.zip_cons_cons, List.zip_nil_right, List.zip_nil_left, List.foldl_cons, List.foldl_nil, tgN, tgT, tgT.go, tgL, mYes, wm_ret, List.headD_cons, addD, zl, el]
      refine good_spec hr _ fun ρ3 => ?_
      simp (decide := true) only [wf_seqZ, wf_seqL, wf_kill, wf_expr, wf_fret, wf_retN, wf_ifS, wf_setN, wf_setV, wf_setT, wf_par, wf_augI, wf_break, wf_cont, wf_thru, wf_raise, wf_tryAs, wm_xf, wm_is, wf_skip, wf_for, wm_var, wm_c, wm_frz, wm_frN, wm_nn, wm_un, wm_bin, wm_evs_nil, wm_evs_cons, wm_n, wm_tup, wm_lst, wm_bool, wm_notB, wm_andBZ, wm_orBZ, wm_and, wm_or, wm_if, wm_chain, wm_asInt, wm_noInt, wm_sl, wm_srcD, wm_srcN, wm_fmt, wm_js_nil, wm_js_cons, wm_tru, wm_strM, wm_mutL, wm_call, wm_comp, wc, EV.set, EV.kill, EV.kills, EV.put, EV.obj, EV.look, EV.looks, EV.objs, EV.key, EV.puts, argIx, argSl, gets, oD, oR, settled, List.set_cons_zero, List.set_cons_succ, List.getElem?_cons_zero, List.getElem?_cons_succ, List.replicate_succ, List.replicate_zero, List.map_cons, List.map_nil, List.length_cons, List.length_nil, List.nil_append, List.cons_append, Nat.reduceAdd, Nat.reduceSub, Nat.reduceLT, Nat.reduceLeDiff, List.nodup_cons, List.nodup_nil, List.not_mem_nil, not_false_eq_true, not_true_eq_false, and_self, and_true, true_and, and_false, false_and, if_true, if_false, reduceIte, Bool.false_eq_true, decide_eq_true_eq, decide_eq_false_iff_not, Bool.not_true, Bool.not_false, Bool.not_eq_true', Bool.not_eq_false', List.zip_cons_cons, List.zip_nil_right, List.zip_nil_left, List.foldl_cons, List.foldl_nil, tgN, tgT, tgT.go, tgL, mYes, wm_ret, List.headD_cons]
end K08
set_option Elab.async false
set_option linter.all false
set_option maxRecDepth 100000
set_option maxHeartbeats 0
namespace K08
open PySem PySem.Spec PyProof.Rows L2 DL
def d__law_draws : He.DefD := ⟨("_law_draws", none), "_law_draws", "_law_draws", defArgs s__law_draws, defBody s__law_draws, defScope s__law_draws, [], []⟩
def d__law_draw : He.DefD := ⟨("_law_draw", none), "_law_draw", "_law_draw", defArgs s__law_draw, defBody s__law_draw, defScope s__law_draw, [], []⟩
def d__law_word : He.DefD := ⟨("_law_word", none), "_law_word", "_law_word", defArgs s__law_word, defBody s__law_word, defScope s__law_word, [], []⟩
def d_is_name : He.DefD := ⟨("is_name", none), "is_name", "is_name", defArgs s_is_name, defBody s_is_name, defScope s_is_name, [], []⟩
def d_tally_size : He.DefD := ⟨("tally_size", none), "tally_size", "tally_size", defArgs s_tally_size, defBody s_tally_size, defScope s_tally_size, [], []⟩
def d_read_conditions : He.DefD := ⟨("read_conditions", none), "read_conditions", "read_conditions", defArgs s_read_conditions, defBody s_read_conditions, defScope s_read_conditions, [], []⟩
def d_read_rule : He.DefD := ⟨("read_rule", none), "read_rule", "read_rule", defArgs s_read_rule, defBody s_read_rule, defScope s_read_rule, [], []⟩
def d_write_tally : He.DefD := ⟨("write_tally", none), "write_tally", "write_tally", defArgs s_write_tally, defBody s_write_tally, defScope s_write_tally, [], []⟩
def d_write_rule : He.DefD := ⟨("write_rule", none), "write_rule", "write_rule", defArgs s_write_rule, defBody s_write_rule, defScope s_write_rule, [], []⟩
def d__law_good_bare : He.DefD := ⟨("_law_good_bare", none), "_law_good_bare", "_law_good_bare", defArgs s__law_good_bare, defBody s__law_good_bare, defScope s__law_good_bare, [], []⟩
def d__law_bad_bare : He.DefD := ⟨("_law_bad_bare", none), "_law_bad_bare", "_law_bad_bare", defArgs s__law_bad_bare, defBody s__law_bad_bare, defScope s__law_bad_bare, [], []⟩
def d__law_kin_bare : He.DefD := ⟨("_law_kin_bare", none), "_law_kin_bare", "_law_kin_bare", defArgs s__law_kin_bare, defBody s__law_kin_bare, defScope s__law_kin_bare, [], []⟩
def d_law : He.DefD := ⟨("law", none), "law", "law", defArgs s_law, defBody s_law, defScope s_law, [], []⟩
def fn : List He.DefD := [d__law_draws, d__law_draw, d__law_word, d_is_name, d_tally_size, d_read_conditions, d_read_rule, d_write_tally, d_write_rule, d__law_good_bare, d__law_bad_bare, d__law_kin_bare, d_law]
def fa : List He.Fa := [.glo "_law_draws", .glo "_law_draw", .glo "_law_word", .glo "is_name", .glo "tally_size", .glo "read_conditions", .glo "read_rule", .glo "write_tally", .glo "write_rule", .glo "_law_good_bare", .glo "_law_bad_bare", .glo "_law_kin_bare", .glo "law", .glo "MODES", .glo "SIGNS", .glo "NUMBERS", .glo "PARTS", .free "list", .free "len", .free "min", .free "range", .free "int", .free "tuple", .free "isinstance", .free "str", .free "all", .free "ValueError", .free "super", .glo "BadRule", .glo "BadLine", .glo "UnknownName", .glo "PlacementError", .str "LETTERS" "abcdefghijklmnopqrstuvwxyz", .int "MOST_CONDITIONS" 6]
def ts : List He.Tab := [(fun K => He.ga K "PARTS", ["kind", "hall", "make"])]
def dv_PARTS : List (Str × He.Dv) := [("kind", .int 0), ("hall", .int 1), ("make", .int 2)]
def ex (K : PySem.W.Frag) : Bool := (He.tupB K "MODES" ((["taken", "seen"] : List Str).map He.Dv.str) && (He.tupB K "SIGNS" ((["<", ">="] : List Str).map He.Dv.str) && (He.tupB K "NUMBERS" ((["1", "2", "3", "4"] : List Str).map He.Dv.str) && (He.valsB K (He.ga K "PARTS") dv_PARTS && (errB "/claim/cut.py" K ⟨"BadRule", "line", inClass (top 3) 0, "BadRule.__init__"⟩ && (excB K (He.ga K "BadRule") && (exmB K "BadRule" "BadRule" true && (exmB K "BadRule" "PlacementError" true && (kitT K "BadRule" "ValueError" true && (kitU K "BadRule" "BadRule" true && (kitU K "BadRule" "BadLine" false && (kitU K "BadRule" "UnknownName" false && true))))))))))))
abbrev R : PySem.W.OpenRow := PySem.W.OpenLaw.row PySem.Challenge.rw_keysstayput_k08_rule_without_conditions
def ini_BadRule : IniD := ⟨"BadRule", "line", inClass (top 3) 0, "BadRule.__init__"⟩
def ini : List IniD := [ini_BadRule]
abbrev hk : PySem.W.Hook := hookZ 6 fa fn ts ex ini
def ob (s : PySem.W.SharedT) : AlZ := obsZ 6 fa fn ts ex ini (HandSHeadRun.getT s)
theorem ob_eq (s : PySem.W.SharedT) : ob s = hk.obs s.abs := obsZ_eq (HandSHeadRun.getT_eq s)
abbrev N_law : List Str := ["_law_script", "_law_draws_here", "_law_w", "_law_act", "_law_who", "_law_bad", "_law_line"]
def loose : List Str := ["PlacementError", "BadLine", "BadRule", "UnknownName", "LETTERS", "PARTS", "is_name", "MODES", "SIGNS", "NUMBERS", "MOST_CONDITIONS", "tally_size", "write_tally", "read_conditions", "read_rule", "write_rule", "_law_draws", "_law_draw", "_law_word", "_law_good_bare", "_law_bad_bare", "_law_kin_bare"]
theorem run (w : World) : HandSHeadRun.RunEq R (PySem.W.view R.prog [26]) hk ob 6000 loose w := PySem.W.byRow2 "special-get-raises" (P := fun w => HandSHeadRun.RunEq R (PySem.W.view R.prog [26]) hk ob 6000 loose w) (fun w => by
  intro os
  kernel_rfl) (fun w => by
  intro os
  kernel_rfl) w
theorem facts {w : World} {K : PySem.W.Frag} {h : Heap} {mg : Str → Option Value} {f : Addr} (X : K.In h) (G : h.Ns mainGlobals mg) (hfa : mg ("law" : Str) = some (.ref f)) (c : SaysZ fa fn ts ex ini w K) :
    let P := PySem.Challenge.rw_keysstayput_k08_rule_without_conditions.prog
    ∃ fd : FuncData, (∀ (s : Shared) (v : Value), BindsTo s fd ⟨[v], []⟩ [("_law_script", v)]) ∧ ∀ base : Heap, FnOk P w K mg base (L2.CX P w) 6 f fd ["_law_script"] (spD K ["_law_script"] ["_law_script", "_law_draws_here", "_law_w", "_law_act", "_law_who", "_law_bad", "_law_line"] fb_law) := by
  have hm := c.more
  intro P
  obtain ⟨m0, hm⟩ := He.ba hm
  obtain ⟨m1, hm⟩ := He.ba hm
  obtain ⟨m2, hm⟩ := He.ba hm
  obtain ⟨m3, hm⟩ := He.ba hm
  obtain ⟨m4, hm⟩ := He.ba hm
  obtain ⟨m5, hm⟩ := He.ba hm
  obtain ⟨m6, hm⟩ := He.ba hm
  obtain ⟨m7, hm⟩ := He.ba hm
  obtain ⟨m8, hm⟩ := He.ba hm
  obtain ⟨m9, hm⟩ := He.ba hm
  obtain ⟨m10, hm⟩ := He.ba hm
  obtain ⟨m11, hm⟩ := He.ba hm
  have D := c.t.d
  have fz : ∀ {z : He.Fa}, z ∈ fa → z.ok K = true := fun hz => He.SaysD.facts D hz
  have F__law_draws : FunG K mg "_law_draws" s__law_draws := fung_of X G D (List.mem_of_getElem? (i := 0) (l := fn) rfl) (d := d__law_draws) (List.mem_of_getElem? (i := 0) (l := fa) rfl) rfl
  have F__law_draw : FunG K mg "_law_draw" s__law_draw := fung_of X G D (List.mem_of_getElem? (i := 1) (l := fn) rfl) (d := d__law_draw) (List.mem_of_getElem? (i := 1) (l := fa) rfl) rfl
  have F__law_word : FunG K mg "_law_word" s__law_word := fung_of X G D (List.mem_of_getElem? (i := 2) (l := fn) rfl) (d := d__law_word) (List.mem_of_getElem? (i := 2) (l := fa) rfl) rfl
  have F_is_name : FunG K mg "is_name" s_is_name := fung_of X G D (List.mem_of_getElem? (i := 3) (l := fn) rfl) (d := d_is_name) (List.mem_of_getElem? (i := 3) (l := fa) rfl) rfl
  have F_tally_size : FunG K mg "tally_size" s_tally_size := fung_of X G D (List.mem_of_getElem? (i := 4) (l := fn) rfl) (d := d_tally_size) (List.mem_of_getElem? (i := 4) (l := fa) rfl) rfl
  have F_read_conditions : FunG K mg "read_conditions" s_read_conditions := fung_of X G D (List.mem_of_getElem? (i := 5) (l := fn) rfl) (d := d_read_conditions) (List.mem_of_getElem? (i := 5) (l := fa) rfl) rfl
  have F_read_rule : FunG K mg "read_rule" s_read_rule := fung_of X G D (List.mem_of_getElem? (i := 6) (l := fn) rfl) (d := d_read_rule) (List.mem_of_getElem? (i := 6) (l := fa) rfl) rfl
  have F_write_tally : FunG K mg "write_tally" s_write_tally := fung_of X G D (List.mem_of_getElem? (i := 7) (l := fn) rfl) (d := d_write_tally) (List.mem_of_getElem? (i := 7) (l := fa) rfl) rfl
  have F_write_rule : FunG K mg "write_rule" s_write_rule := fung_of X G D (List.mem_of_getElem? (i := 8) (l := fn) rfl) (d := d_write_rule) (List.mem_of_getElem? (i := 8) (l := fa) rfl) rfl
  have F__law_good_bare : FunG K mg "_law_good_bare" s__law_good_bare := fung_of X G D (List.mem_of_getElem? (i := 9) (l := fn) rfl) (d := d__law_good_bare) (List.mem_of_getElem? (i := 9) (l := fa) rfl) rfl
  have F__law_bad_bare : FunG K mg "_law_bad_bare" s__law_bad_bare := fung_of X G D (List.mem_of_getElem? (i := 10) (l := fn) rfl) (d := d__law_bad_bare) (List.mem_of_getElem? (i := 10) (l := fa) rfl) rfl
  have F__law_kin_bare : FunG K mg "_law_kin_bare" s__law_kin_bare := fung_of X G D (List.mem_of_getElem? (i := 11) (l := fn) rfl) (d := d__law_kin_bare) (List.mem_of_getElem? (i := 11) (l := fa) rfl) rfl
  obtain ⟨fd, F⟩ := He.SaysD.defs D (d := d_law) (List.mem_of_getElem? (i := 12) (l := fn) rfl)
  have e := hfa.symm.trans (He.glo_ok X G (fz (z := .glo "law") (List.mem_of_getElem? (i := 12) (l := fa) rfl)))
  cases e
  have b := FunD.bindsA (ps := ["_law_script"]) F fun _ _ _ _ _ _ us hl => match us, hl with | [_], _ => rfl
  refine ⟨fd, fun s v => b s [v] rfl, fun base => ?_⟩
  have B : Bf P w K mg base := {
    list_ := He.free_ok X G (fz (z := .free "list") (List.mem_of_getElem? (i := 17) (l := fa) rfl)),
    len_ := He.free_ok X G (fz (z := .free "len") (List.mem_of_getElem? (i := 18) (l := fa) rfl)),
    min_ := He.free_ok X G (fz (z := .free "min") (List.mem_of_getElem? (i := 19) (l := fa) rfl)),
    range_ := He.free_ok X G (fz (z := .free "range") (List.mem_of_getElem? (i := 20) (l := fa) rfl)),
    int_ := He.free_ok X G (fz (z := .free "int") (List.mem_of_getElem? (i := 21) (l := fa) rfl)),
    tuple_ := He.free_ok X G (fz (z := .free "tuple") (List.mem_of_getElem? (i := 22) (l := fa) rfl)),
    isinstance_ := He.free_ok X G (fz (z := .free "isinstance") (List.mem_of_getElem? (i := 23) (l := fa) rfl)),
    str_ := He.free_ok X G (fz (z := .free "str") (List.mem_of_getElem? (i := 24) (l := fa) rfl)),
    all_ := He.free_ok X G (fz (z := .free "all") (List.mem_of_getElem? (i := 25) (l := fa) rfl)),
    ValueError_ := He.free_ok X G (fz (z := .free "ValueError") (List.mem_of_getElem? (i := 26) (l := fa) rfl)),
    LETTERS_ := He.str_ok X G (fz (z := .str "LETTERS" "abcdefghijklmnopqrstuvwxyz") (List.mem_of_getElem? (i := 32) (l := fa) rfl)),
    MOST_CONDITIONS_ := He.int_ok X G (fz (z := .int "MOST_CONDITIONS" 6) (List.mem_of_getElem? (i := 33) (l := fa) rfl)),
    MODES_ := gtup_of X G (fz (z := .glo "MODES") (List.mem_of_getElem? (i := 13) (l := fa) rfl)) m0,
    SIGNS_ := gtup_of X G (fz (z := .glo "SIGNS") (List.mem_of_getElem? (i := 14) (l := fa) rfl)) m1,
    NUMBERS_ := gtup_of X G (fz (z := .glo "NUMBERS") (List.mem_of_getElem? (i := 15) (l := fa) rfl)) m2,
    PARTS_ := gdict_of (kvs := dv_PARTS) X G (fz (z := .glo "PARTS") (List.mem_of_getElem? (i := 16) (l := fa) rfl)) (says_tab c.t 0) m3 rfl,
    err_BadRule := ⟨errOk_of (P := P) (d := ini_BadRule) (ar := _) X G (fz (z := .glo "BadRule") (List.mem_of_getElem? (i := 28) (l := fa) rfl)) (He.free_ok X G (fz (z := .free "super") (List.mem_of_getElem? (i := 27) (l := fa) rfl))) m4 (says_ini c 0 rfl) (by decide +kernel) rfl rfl (NdefX.nscope_by (by decide +kernel)) (by decide +kernel) rfl rfl (fun _ => rfl) (fun _ _ _ _ => rfl) (fun _ _ _ _ _ us hl => match us, hl with | [_, _], _ => rfl) (fun F f A outer s H E e => by subst_eqs; exact pe_var rfl (by unfold Vis; left; show F.scope.names.lookup _ = _; rw [e]; decide +kernel)) (fun F f A outer s H E e => by exact pe_var rfl (by unfold Vis; left; show F.scope.names.lookup _ = _; rw [e]; decide +kernel)) (fun _ => rfl), errB_no m4, excB_ok m5⟩,
    cls_BadRule := He.glo_ok X G (fz (z := .glo "BadRule") (List.mem_of_getElem? (i := 28) (l := fa) rfl)),
    cls_BadLine := He.glo_ok X G (fz (z := .glo "BadLine") (List.mem_of_getElem? (i := 29) (l := fa) rfl)),
    cls_UnknownName := He.glo_ok X G (fz (z := .glo "UnknownName") (List.mem_of_getElem? (i := 30) (l := fa) rfl)),
    cls_PlacementError := He.glo_ok X G (fz (z := .glo "PlacementError") (List.mem_of_getElem? (i := 31) (l := fa) rfl)),
    exm_BadRule_BadRule := of_decide_eq_true m6,
    exm_BadRule_PlacementError := of_decide_eq_true m7,
    kit_BadRule_ValueError := of_decide_eq_true m8,
    kit_BadRule_BadRule := of_decide_eq_true m9,
    kit_BadRule_BadLine := of_decide_eq_true m10,
    kit_BadRule_UnknownName := of_decide_eq_true m11 }
  have h__law_draws := ok__law_draws (P := P) (base := base) B  F__law_draws
  have h__law_draw := ok__law_draw (P := P) (base := base) B  F__law_draw
  have h__law_word := ok__law_word (P := P) (base := base) B h__law_draw F__law_word
  have h_is_name := ok_is_name (P := P) (base := base) B  F_is_name
  have h_tally_size := ok_tally_size (P := P) (base := base) B h_is_name F_tally_size
  have h_read_conditions := ok_read_conditions (P := P) (base := base) B h_tally_size F_read_conditions
  have h_read_rule := ok_read_rule (P := P) (base := base) B h_tally_size h_read_conditions F_read_rule
  have h_write_tally := ok_write_tally (P := P) (base := base) B  F_write_tally
  have h_write_rule := ok_write_rule (P := P) (base := base) B h_write_tally F_write_rule
  have h__law_good_bare := ok__law_good_bare (P := P) (base := base) B h_read_rule h_write_rule F__law_good_bare
  have h__law_bad_bare := ok__law_bad_bare (P := P) (base := base) B h_read_rule F__law_bad_bare
  have h__law_kin_bare := ok__law_kin_bare (P := P) (base := base) B h_read_rule F__law_kin_bare
  exact ok_law B h__law_draws h__law_word h__law_good_bare h__law_bad_bare h__law_kin_bare F
end K08
open PySem PySem.W PySem.Calls PyProof.Rows
theorem PySem.Challenge.cw_keysstayput_k08_rule_without_conditions_holds : PySem.Challenge.rw_keysstayput_k08_rule_without_conditions.Holds := by
  w_on; o_law
  refine HandSHeadRun.head_any (r := OpenLaw.row PySem.Challenge.rw_keysstayput_k08_rule_without_conditions) (q := view (OpenLaw.row PySem.Challenge.rw_keysstayput_k08_rule_without_conditions).prog [26]) (H := K08.hk) (ob := K08.ob) (M := 6000) (loose := K08.loose) (d := HandSHeadRun.topDef (OpenLaw.row PySem.Challenge.rw_keysstayput_k08_rule_without_conditions).prog 26) (kwd := []) K08.ob_eq
    (by kernel_rfl) (fun s => by kernel_rfl) K08.run (by kernel_rfl) (by kernel_rfl) (by kernel_rfl) (by rfl) (by first | assumption | decide +kernel) (by decide +kernel) ⟨rfl, rfl, rfl, rfl, rfl, by decide +kernel⟩ ?hw ?hc
  case hw => w_witness2
  case hc =>
    refine L2.walk_ofE (l := PySem.Challenge.rw_keysstayput_k08_rule_without_conditions) (n := 63) (k := 6) (x := "_law_script") (CX := L2.CX0) rfl (by decide) (by kernel_rfl) ⟨rfl, by decide, by decide⟩ ?F (fun _ _ _ _ z => z)
    intro w mg fa h Y G hmg0
    obtain ⟨K, KX, c⟩ := Y
    have hmg : mg ("law" : PySem.Str) = some (.ref fa) := by
      have e : (HandSHeadRun.topDef (OpenLaw.row PySem.Challenge.rw_keysstayput_k08_rule_without_conditions).prog 26).name = ("law" : PySem.Str) := by kernel_rfl
      rw [← e]
      exact hmg0
    obtain ⟨fd, hb, hF⟩ := K08.facts (w := w) KX G hmg c
    exact ⟨K, fd, fun vs H Q _ => DL.spD K ["_law_script"] K08.N_law K08.fb_law vs H Q L2.E0, KX, hb, fun H a ns hl _ hS => DL.law_sp (N := K08.N_law) (fb := K08.fb_law) rfl hS (K08.pure_law ns hl), fun base _ _ => DL.fnOk_quiet (hF base)⟩
