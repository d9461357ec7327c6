import PyProof.Rows.All
import Wide.All
import OpenK.AllK
import Wide.FinOn
import HandS.ForMost
import HandS.Exc
import HandS.ExcOwn
import HandS.WordsExc
import HandS.HeadHook1
import KE.KeyNested
import HandS.Deep
import HandS.IsInst
import HandS.NoneIn
import HandS.FStr
import HandS.Conv
import HandS.Wide
import HandS.Zip
import HandS.Iter
import HandS.Flow
import HandS.TryOnly
import HandS.More
import HandS.Head0
import HandS.Head1
import HandS.Head2
import HandS.HeadEnd
import HandS.HeadHook2
import HandS.HeadHook3
import HandS.HeadHook4
import HandS.Style
import HandS.Defaults
import HandS.Nested
import HandS.ExcInit
import HandS.ExcSuper
import KE.KExcSuper
import HandS.ExcField
import HandS.ExcIs
import KE.KExcIs
import HandS.Property
import HandS.ClsMeth
import HandS.Star
import HandS.OwnIter
import HandS.IterVal
import KE.KCallOwn
import KE.KFmtOwn
import PyProof.InstNe
import HandS.HeadNt
import HandS.Codes
import PyProof.P3Eq
import PySem.Challenge.RW_keysstayput_k05_groups_of_tallies
import Lean
set_option Elab.async false
set_option linter.all false
set_option maxRecDepth 100000
set_option maxHeartbeats 4000000
/-! DL: data readings over the hand layer. A body is read as a total function on plain data. -/
namespace DL
open PySem PySem.Spec PyProof.Rows L2

/-- the written part with its world -/
structure KW where
  fr : PySem.W.Frag
  w : World
instance : Coe KW PySem.W.Frag := ⟨KW.fr⟩
abbrev _root_.L2.Cx.kw (X : L2.Cx) : KW := ⟨X.K, X.w⟩

/-! ### data -/
inductive D where
  | non | bl (b : Bool) | int (i : Int) | str (s : Str) | ty (n : String) | obj (a : Addr) | cls (C : Str)
  | lst (xs : List D) | tup (xs : List D) | scr (xs : List D)
  | ins (C : Str) (ns : List Str) (ds : List D)
  | dct (ks vs : List D) | set (xs : List D)
inductive Slot where
  | val (d : D) | own (d : D) | par (k : Nat) | xn
structure EV where
  sl : List (Option Slot)
  ps : List D
inductive R where
  | v (d : D) | s (i : Nat) | n (d : D)
structure XD where
  C : Str
  fs : List (Str × D)
inductive XR (α : Type) where
  | ok (a : α) (ρ : EV) | ex (e : XD) (ρ : EV)
abbrev M (α : Type) := EV → Option (XR α)
inductive Flow where
  | nx (ρ : EV) | ret (r : R) (ρ : EV) | ex (e : XD) (ρ : EV) | bk (ρ : EV) | ct (ρ : EV)
abbrev F := EV → Option Flow

def EV.obj (ρ : EV) (i : Nat) : Option D := match ρ.sl[i]? with
  | some (some (.own d)) => some d
  | some (some (.par k)) => ρ.ps[k]?
  | _ => none
def EV.look (ρ : EV) : R → Option D
  | .v d => some d
  | .s i => ρ.obj i
  | .n _ => none
def EV.set (ρ : EV) (i : Nat) (s : Slot) : EV := { ρ with sl := ρ.sl.set i (some s) }
def EV.kill (ρ : EV) (i : Nat) : EV := { ρ with sl := ρ.sl.set i none }
def EV.kills (ρ : EV) : List Nat → EV
  | [] => ρ
  | i :: r => (ρ.kill i).kills r
/-- the object at slot i has new content -/
def EV.put (ρ : EV) (i : Nat) (d : D) : EV := match ρ.sl[i]? with
  | some (some (.own _)) => ρ.set i (.own d)
  | some (some (.par k)) => { ρ with ps := ρ.ps.set k d }
  | _ => ρ

mutual
/-- data as a key -/
def keyN : D → Option NestedKey
  | .non => some .none
  | .bl b => some (.num (if b = true then 1 else 0))
  | .int i => some (.num i)
  | .str s => some (.text s)
  | .tup ds => (match keysN ds with
    | some ks => some (.tup ks)
    | none => none)
  | _ => none
def keysN : List D → Option (List NestedKey)
  | [] => some []
  | d :: ds => match keyN d with
    | some k => (match keysN ds with
      | some ks => some (k :: ks)
      | none => none)
    | none => none
end
/-- a dict by its entries: hash, key, value -/
def DctR (h : Heap) (a : Addr) (es : List (Int × V × V)) : Prop := (a == sysModules) = false ∧ ∃ o ents ep, h.get? a = some o ∧ o.ExactDict ∧ o.data = .dict ents ep ∧ Paired (fun (p : Int × V × V) (e : DictEntry) => p.1 = e.hash ∧ RelV p.2.1 e.key ∧ RelV p.2.2 e.val) es ents.toList
def DctO (a : Addr) (es : List (Int × V × V)) : HO := .ext fun h => DctR h a es
/-- the entries are of these keys, in order -/
def DctH (K : KW) (ks : List D) (es : List (Int × V × V)) : Prop := ∃ nks, keysN ks = some nks ∧ es.map (·.1) = nks.map (NestedKey.hash K.w) ∧ nks.Nodup ∧ es.length ≤ sizeLine
/-- a set of ints -/
def SetI (xs : List D) (S : Int → Bool) (n : Nat) : Prop := ∃ ns : List Int, xs = ns.map D.int ∧ ns.Nodup ∧ (∀ i, S i = ns.contains i) ∧ n = ns.length

/-! ### what data stands for -/
section
variable (K : KW) (G : Hp)
mutual
def Rep : D → V → Prop
  | .non, v => v = .non
  | .bl b, v => v = .bl b
  | .int i, v => v = .int i
  | .str s, v => v = .str s
  | .ty n, v => v = .ty n
  | .obj a, v => v = .ref a
  | .cls C, v => v = .ref (He.ga K C)
  | .lst ds, v => ∃ a xs, v = .ref a ∧ G a = some (.lst xs) ∧ RepL ds xs
  | .scr ds, v => ∃ a xs, v = .ref a ∧ SqL K G a xs ∧ RepL ds xs
  | .tup ds, v => ∃ a xs, v = .ref a ∧ SqT K G a xs ∧ RepL ds xs
  | .ins C ns ds, v => ∃ a dx vs, v = .ref a ∧ G a = some (.ins (He.ga K C) dx (ns.zip vs)) ∧ RepL ds vs
  | .dct ks ds, v => ∃ a es, v = .ref a ∧ G a = some (DctO a es) ∧ DctH K ks es ∧ RepL ks (es.map (·.2.1)) ∧ RepL ds (es.map (·.2.2))
  | .set xs, v => ∃ a S n, v = .ref a ∧ G a = some (.set S n) ∧ SetI xs S n
def RepL : List D → List V → Prop
  | [], vs => vs = []
  | d :: ds, vs => ∃ v r, vs = v :: r ∧ Rep d v ∧ RepL ds r
end
end
theorem same_l {K : KW} {H H' : Hp} {a : Addr} {xs : List V} (e : Same H H') (h : SqL K H a xs) : SqL K H' a xs := e.seq h
theorem same_t {K : KW} {H H' : Hp} {a : Addr} {xs : List V} (e : Same H H') (h : SqT K H a xs) : SqT K H' a xs := by
  rcases h with (h | ⟨o, h⟩) | h
  · exact .inl (.inl (e _ _ h))
  · exact .inl (.inr ⟨o, e _ _ h⟩)
  · exact .inr h
section
variable {K : KW} {G G' : Hp}
mutual
theorem Rep.mono (e : Same G G') : ∀ {d : D} {v : V}, Rep K G d v → Rep K G' d v
  | .non, _, h => h
  | .bl _, _, h => h
  | .int _, _, h => h
  | .str _, _, h => h
  | .ty _, _, h => h
  | .obj _, _, h => h
  | .cls _, _, h => h
  | .lst _, _, ⟨a, xs, h1, h2, h3⟩ => ⟨a, xs, h1, e _ _ h2, RepL.mono e h3⟩
  | .scr _, _, ⟨a, xs, h1, h2, h3⟩ => ⟨a, xs, h1, same_l e h2, RepL.mono e h3⟩
  | .tup _, _, ⟨a, xs, h1, h2, h3⟩ => ⟨a, xs, h1, same_t e h2, RepL.mono e h3⟩
  | .ins _ _ _, _, ⟨a, dx, vs, h1, h2, h3⟩ => ⟨a, dx, vs, h1, e _ _ h2, RepL.mono e h3⟩
  | .dct _ _, _, ⟨a, es, h1, h2, h3, h4, h5⟩ => ⟨a, es, h1, e _ _ h2, h3, RepL.mono e h4, RepL.mono e h5⟩
  | .set _, _, ⟨a, S, n, h1, h2, h3⟩ => ⟨a, S, n, h1, e _ _ h2, h3⟩
theorem RepL.mono (e : Same G G') : ∀ {ds : List D} {vs : List V}, RepL K G ds vs → RepL K G' ds vs
  | [], _, h => h
  | _ :: _, _, ⟨v, r, h1, h2, h3⟩ => ⟨v, r, h1, Rep.mono e h2, RepL.mono e h3⟩
end
theorem RepL.length : ∀ {ds : List D} {vs : List V}, RepL K G ds vs → ds.length = vs.length
  | [], vs, h => by rw [show vs = [] from h]; rfl
  | _ :: _, _, ⟨v, r, h1, _, h3⟩ => by rw [h1, List.length_cons, List.length_cons, RepL.length h3]
theorem RepL.nil : RepL K G [] [] := rfl
theorem RepL.cons {d : D} {v : V} {ds : List D} {vs : List V} (h : Rep K G d v) (t : RepL K G ds vs) : RepL K G (d :: ds) (v :: vs) := ⟨v, vs, rfl, h, t⟩
theorem RepL.append : ∀ {ds es : List D} {vs us : List V}, RepL K G ds vs → RepL K G es us → RepL K G (ds ++ es) (vs ++ us)
  | [], _, _, _, h, t => by rw [show _ = _ from h]; exact t
  | _ :: _, _, _, _, ⟨v, r, h1, h2, h3⟩, t => by rw [h1]; exact ⟨v, _, rfl, h2, RepL.append h3 t⟩
theorem RepL.get : ∀ {ds : List D} {vs : List V} {i : Nat} {d : D}, RepL K G ds vs → ds[i]? = some d → ∃ v, vs[i]? = some v ∧ Rep K G d v
  | [], _, _, _, _, e => by simp at e
  | _ :: _, _, 0, _, ⟨v, r, h1, h2, _⟩, e => by simp at e; subst e; rw [h1]; exact ⟨v, rfl, h2⟩
  | _ :: _, _, i + 1, d, ⟨v, r, h1, _, h3⟩, e => by
    rw [h1]
    obtain ⟨u, q1, q2⟩ := RepL.get (i := i) h3 (by simpa using e)
    exact ⟨u, by simpa using q1, q2⟩
theorem RepL.back : ∀ {ds : List D} {vs : List V} {i : Nat} {v : V}, RepL K G ds vs → vs[i]? = some v → ∃ d, ds[i]? = some d ∧ Rep K G d v := fun {ds vs i v} r e => by
  have l := r.length
  have hi : i < ds.length := by
    have := (List.getElem?_eq_some_iff.mp e).1
    omega
  obtain ⟨u, h1, h2⟩ := RepL.get (i := i) r (List.getElem?_eq_getElem hi)
  rw [e] at h1; cases h1
  exact ⟨_, List.getElem?_eq_getElem hi, h2⟩
theorem RepL.take : ∀ {ds : List D} {vs : List V} (n : Nat), RepL K G ds vs → RepL K G (ds.take n) (vs.take n)
  | _, _, 0, _ => by rw [List.take_zero, List.take_zero]; rfl
  | [], _, n + 1, h => by rw [show _ = _ from h]; rfl
  | _ :: _, _, n + 1, ⟨v, r, h1, h2, h3⟩ => by rw [h1]; exact ⟨v, _, rfl, h2, RepL.take n h3⟩
theorem RepL.drop : ∀ {ds : List D} {vs : List V} (n : Nat), RepL K G ds vs → RepL K G (ds.drop n) (vs.drop n)
  | _, _, 0, h => by rw [List.drop_zero, List.drop_zero]; exact h
  | [], _, n + 1, h => by rw [show _ = _ from h]; rfl
  | _ :: _, _, n + 1, ⟨v, r, h1, _, h3⟩ => by rw [h1]; exact RepL.drop n h3
theorem RepL.set : ∀ {ds : List D} {vs : List V} (i : Nat) {d : D} {v : V}, Rep K G d v → RepL K G ds vs → RepL K G (ds.set i d) (vs.set i v)
  | [], _, _, _, _, _, h => by rw [show _ = _ from h]; rfl
  | _ :: _, _, 0, _, _, q, ⟨v, r, h1, _, h3⟩ => by rw [h1]; exact ⟨_, _, rfl, q, h3⟩
  | _ :: _, _, i + 1, _, _, q, ⟨v, r, h1, h2, h3⟩ => by rw [h1]; exact ⟨_, _, rfl, h2, RepL.set i q h3⟩
theorem RepL.reverse : ∀ {ds : List D} {vs : List V}, RepL K G ds vs → RepL K G ds.reverse vs.reverse
  | [], _, h => by rw [show _ = _ from h]; rfl
  | _ :: _, _, ⟨v, r, h1, h2, h3⟩ => by
    rw [h1, List.reverse_cons, List.reverse_cons]
    exact RepL.append (RepL.reverse h3) (RepL.cons h2 RepL.nil)
end

/-- an object of one's own that is not settled yet, as it stands at a -/
def View (K : KW) (G H : Hp) : D → Addr → Prop
  | .lst ds, a => ∃ xs, H a = some (.lst xs) ∧ RepL K G ds xs
  | .ins C ns ds, a => ∃ dx vs, H a = some (.ins (He.ga K C) dx (ns.zip vs)) ∧ RepL K G ds vs
  | .dct ks ds, a => ∃ es, H a = some (DctO a es) ∧ DctH K ks es ∧ RepL K G ks (es.map (·.2.1)) ∧ RepL K G ds (es.map (·.2.2))
  | _, _ => False
/-- a value as it stands now: its own object at H, all behind it settled -/
def Vw (K : KW) (G H : Hp) : D → V → Prop
  | .lst ds, v => ∃ a xs, v = .ref a ∧ H a = some (.lst xs) ∧ RepL K G ds xs
  | .ins C ns ds, v => ∃ a dx vs, v = .ref a ∧ H a = some (.ins (He.ga K C) dx (ns.zip vs)) ∧ RepL K G ds vs
  | .dct ks ds, v => ∃ a es, v = .ref a ∧ H a = some (DctO a es) ∧ DctH K ks es ∧ RepL K G ks (es.map (·.2.1)) ∧ RepL K G ds (es.map (·.2.2))
  | d, v => Rep K G d v
section
variable {K : KW} {G G' H H' : Hp} {d : D} {a : Addr} {v : V}
theorem View.mono (e : Same G G') (k : H' a = H a) (h : View K G H d a) : View K G' H' d a := by
  cases d with
  | dct ks ds => obtain ⟨es, h1, h2, h3, h4⟩ := h; exact ⟨es, by rw [k]; exact h1, h2, h3.mono e, h4.mono e⟩
  | lst ds => obtain ⟨xs, h1, h2⟩ := h; exact ⟨xs, by rw [k]; exact h1, h2.mono e⟩
  | ins C ns ds => obtain ⟨dx, vs, h1, h2⟩ := h; exact ⟨dx, vs, by rw [k]; exact h1, h2.mono e⟩
  | _ => exact False.elim h
theorem View.there (h : View K G H d a) : ∃ o, H a = some o := by
  cases d with
  | dct ks ds => obtain ⟨es, h1, _⟩ := h; exact ⟨_, h1⟩
  | lst ds => obtain ⟨xs, h1, h2⟩ := h; exact ⟨_, h1⟩
  | ins C ns ds => obtain ⟨dx, vs, h1, h2⟩ := h; exact ⟨_, h1⟩
  | _ => exact False.elim h
theorem View.vw (h : View K G H d a) : Vw K G H d (.ref a) := by
  cases d with
  | dct ks ds => obtain ⟨es, h1, h2, h3, h4⟩ := h; exact ⟨a, es, rfl, h1, h2, h3, h4⟩
  | lst ds => obtain ⟨xs, h1, h2⟩ := h; exact ⟨a, xs, rfl, h1, h2⟩
  | ins C ns ds => obtain ⟨dx, vs, h1, h2⟩ := h; exact ⟨a, dx, vs, rfl, h1, h2⟩
  | _ => exact False.elim h
theorem Rep.vw (e : Same G H) (h : Rep K G d v) : Vw K G H d v := by
  cases d with
  | dct ks ds => obtain ⟨a, es, h1, h2, h3, h4, h5⟩ := h; exact ⟨a, es, h1, e _ _ h2, h3, h4, h5⟩
  | lst ds => obtain ⟨a, xs, h1, h2, h3⟩ := h; exact ⟨a, xs, h1, e _ _ h2, h3⟩
  | ins C ns ds => obtain ⟨a, dx, vs, h1, h2, h3⟩ := h; exact ⟨a, dx, vs, h1, e _ _ h2, h3⟩
  | _ => exact h
/-- settled: the object at a joins what is settled -/
theorem View.rep (h : View K G H d a) (e : Same G G') (k : ∀ o, H a = some o → G' a = some o) : Rep K G' d (.ref a) := by
  cases d with
  | dct ks ds => obtain ⟨es, h1, h2, h3, h4⟩ := h; exact ⟨a, es, rfl, k _ h1, h2, h3.mono e, h4.mono e⟩
  | lst ds => obtain ⟨xs, h1, h2⟩ := h; exact ⟨a, xs, rfl, k _ h1, h2.mono e⟩
  | ins C ns ds => obtain ⟨dx, vs, h1, h2⟩ := h; exact ⟨a, dx, vs, rfl, k _ h1, h2.mono e⟩
  | _ => exact False.elim h
end

/-! ### the state -/
structure Ctl where
  H0 : Hp
  G0 : Hp
  A0 : List Addr
  xa : Addr
def SlotOk (K : KW) (C : Ctl) (G H : Hp) : Slot → V → Prop
  | .val d, v => Rep K G d v
  | .own d, v => ∃ a, v = .ref a ∧ G a = none ∧ C.H0 a = none ∧ View K G H d a
  | .par k, v => ∃ a, v = .ref a ∧ C.A0[k]? = some a
  | .xn, v => v = .ref C.xa
structure Sta (K : KW) (C : Ctl) (G H : Hp) (σ : L2.St) (ρ : EV) : Prop where
  sub : Same G H
  old : Same C.G0 G
  new : ∀ a o, G a = some o → C.G0 a = some o ∨ C.H0 a = none
  base : ∀ b o, C.H0 b = some o → b ∉ C.A0 → H b = some o
  len : σ.length = ρ.sl.length
  slot : ∀ (i : Nat) s, ρ.sl[i]? = some (some s) → ∃ v, σ[i]? = some (some v) ∧ SlotOk K C G H s v
  dist : ∀ (i j : Nat) d e v, ρ.sl[i]? = some (some (.own d)) → ρ.sl[j]? = some (some (.own e)) → σ[i]? = some (some v) → σ[j]? = some (some v) → i = j
  plen : ρ.ps.length = C.A0.length
  par : ∀ (k : Nat) a d, C.A0[k]? = some a → ρ.ps[k]? = some d → G a = none ∧ View K G H d a
  pnd : C.A0.Nodup
  pin : ∀ a, a ∈ C.A0 → ∃ o, C.H0 a = some o
def RepR (K : KW) (C : Ctl) (G H : Hp) (σ : L2.St) (ρ : EV) : R → V → Prop
  | .v d, v => Rep K G d v
  | .s i, v => σ[i]? = some (some v)
  | .n d, v => ∃ a, v = .ref a ∧ G a = none ∧ C.H0 a = none ∧ View K G H d a ∧ ∀ (i : Nat) e, ρ.sl[i]? = some (some (.own e)) → σ[i]? ≠ some (some (.ref a))
section
variable {K : KW} {C : Ctl} {G G' H H' : Hp} {σ : L2.St} {ρ : EV} {d : D} {v : V} {i : Nat}
theorem Sta.parAt (S : Sta K C G H σ ρ) {a : Addr} (h : a ∈ C.A0) : G a = none ∧ ∃ d, View K G H d a := by
  obtain ⟨k, hk, e⟩ := List.getElem_of_mem h
  have hk2 : k < ρ.ps.length := by rw [S.plen]; exact hk
  obtain ⟨h1, h2⟩ := S.par k a ρ.ps[k] (by rw [List.getElem?_eq_getElem hk, e]) (List.getElem?_eq_getElem hk2)
  exact ⟨h1, _, h2⟩
/-- what is free now was free at the entry -/
theorem Sta.free (S : Sta K C G H σ ρ) {p : Addr} (h : H p = none) : C.H0 p = none ∧ G p = none ∧ p ∉ C.A0 := by
  have hA : p ∉ C.A0 := fun m => by
    obtain ⟨_, d, w⟩ := S.parAt m
    obtain ⟨o, e⟩ := w.there
    rw [h] at e; cases e
  refine ⟨?_, ?_, hA⟩
  · cases e : C.H0 p with
    | none => rfl
    | some o => rw [S.base p o e hA] at h; cases h
  · cases e : G p with
    | none => rfl
    | some o => rw [S.sub p o e] at h; cases h
/-- the heap turns, what is settled and what is held stays -/
theorem Sta.turn (S : Sta K C G H σ ρ) (sub : Same G' H') (old : Same G G') (new : ∀ a o, G' a = some o → G a = some o ∨ C.H0 a = none)
    (base : ∀ b o, H b = some o → (∃ o', C.H0 b = some o') → b ∉ C.A0 → H' b = some o)
    (own : ∀ (i : Nat) (d : D) (a : Addr), ρ.sl[i]? = some (some (.own d)) → σ[i]? = some (some (.ref a)) → G' a = none ∧ H' a = H a)
    (pars : ∀ a, a ∈ C.A0 → G' a = none ∧ H' a = H a) : Sta K C G' H' σ ρ where
  sub := sub
  old := fun b o e => old b o (S.old b o e)
  new := fun a o e => by
    rcases new a o e with h | h
    · exact S.new a o h
    · exact .inr h
  base := fun b o e hA => base b o (S.base b o e hA) ⟨o, e⟩ hA
  len := S.len
  slot := fun i s e => by
    obtain ⟨v, h1, h2⟩ := S.slot i s e
    refine ⟨v, h1, ?_⟩
    cases s with
    | val d => exact Rep.mono old h2
    | own d =>
      obtain ⟨a, rfl, g, h0, w⟩ := h2
      obtain ⟨g', k⟩ := own i d a e h1
      exact ⟨a, rfl, g', h0, w.mono old k⟩
    | par k => exact h2
    | xn => exact h2
  dist := S.dist
  plen := S.plen
  par := fun k a d h1 h2 => by
    obtain ⟨_, w⟩ := S.par k a d h1 h2
    obtain ⟨g', q⟩ := pars a (List.mem_of_getElem? h1)
    exact ⟨g', w.mono old q⟩
  pnd := S.pnd
  pin := S.pin
/-- a new object is laid -/
theorem Sta.lay (S : Sta K C G H σ ρ) {p : Addr} (hp : H p = none) (o : HO) : Sta K C G (upd H p o) σ ρ := by
  refine S.turn (fun b u e => ?_) (Same.refl G) (fun a u e => .inl e) (fun b u e _ _ => ?_) (fun i d a e1 e2 => ?_) (fun a ha => ?_)
  · rw [upd_ne (ne_of_none (S.sub b u e) hp)]; exact S.sub b u e
  · rw [upd_ne (ne_of_none e hp)]; exact e
  · obtain ⟨v, h1, a', rfl, g, _, w⟩ := S.slot i _ e1
    rw [e2] at h1; cases h1
    obtain ⟨u, hu⟩ := w.there
    exact ⟨g, upd_ne (ne_of_none hu hp)⟩
  · obtain ⟨g, d, w⟩ := S.parAt ha
    obtain ⟨u, hu⟩ := w.there
    exact ⟨g, upd_ne (ne_of_none hu hp)⟩
theorem Sta.newList (S : Sta K C G H σ ρ) {p : Addr} (hp : H p = none) {ds : List D} {xs : List V} (r : RepL K G ds xs) : RepR K C G (upd H p (.lst xs)) σ ρ (.n (.lst ds)) (.ref p) := by
  obtain ⟨h0, g0, _⟩ := S.free hp
  refine ⟨p, rfl, g0, h0, ⟨xs, upd_same, r⟩, fun i e h1 h2 => ?_⟩
  obtain ⟨v, q1, a', q2, _, _, w⟩ := S.slot i _ h1
  rw [h2] at q1; cases q1; cases q2
  obtain ⟨u, hu⟩ := w.there
  rw [hp] at hu; cases hu
/-- a new tuple is settled at once -/
theorem Sta.layG (S : Sta K C G H σ ρ) {p : Addr} (hp : H p = none) (o : HO) : Same G (upd G p o) ∧ Sta K C (upd G p o) (upd H p o) σ ρ := by
  obtain ⟨h0, g0, hA⟩ := S.free hp
  have e1 : Same G (upd G p o) := fun b u e => by rw [upd_ne (ne_of_none e g0)]; exact e
  refine ⟨e1, S.turn (fun b u e => ?_) e1 (fun a u e => ?_) (fun b u e _ _ => ?_) (fun i d a q1 q2 => ?_) (fun a ha => ?_)⟩
  · by_cases hb : b = p
    · subst hb; rw [upd_same] at e ⊢; exact e
    · rw [upd_ne hb] at e ⊢; exact S.sub b u e
  · by_cases hb : a = p
    · subst hb; exact .inr h0
    · rw [upd_ne hb] at e; exact .inl e
  · rw [upd_ne (ne_of_none e hp)]; exact e
  · obtain ⟨v, h1, a', rfl, g, _, w⟩ := S.slot i _ q1
    rw [q2] at h1; cases h1
    obtain ⟨u, hu⟩ := w.there
    exact ⟨by rw [upd_ne (ne_of_none hu hp)]; exact g, upd_ne (ne_of_none hu hp)⟩
  · obtain ⟨g, d, w⟩ := S.parAt ha
    obtain ⟨u, hu⟩ := w.there
    exact ⟨by rw [upd_ne (ne_of_none hu hp)]; exact g, upd_ne (ne_of_none hu hp)⟩
theorem Sta.newTup (S : Sta K C G H σ ρ) {p : Addr} (hp : H p = none) {ds : List D} {xs : List V} (r : RepL K G ds xs) :
    Same G (upd G p (.tup xs)) ∧ Sta K C (upd G p (.tup xs)) (upd H p (.tup xs)) σ ρ ∧ Rep K (upd G p (.tup xs)) (.tup ds) (.ref p) := by
  obtain ⟨e1, S1⟩ := S.layG hp (.tup xs)
  exact ⟨e1, S1, p, xs, rfl, SqT.of upd_same, r.mono e1⟩
/-- a fresh object is settled -/
theorem Sta.settle (S : Sta K C G H σ ρ) (h : RepR K C G H σ ρ (.n d) v) : ∃ G', Same G G' ∧ Sta K C G' H σ ρ ∧ Rep K G' d v := by
  obtain ⟨a, rfl, g, h0, w, ns⟩ := h
  obtain ⟨o, ho⟩ := w.there
  have e1 : Same G (upd G a o) := fun b u e => by rw [upd_ne (ne_of_none e g)]; exact e
  refine ⟨upd G a o, e1, S.turn (fun b u e => ?_) e1 (fun b u e => ?_) (fun b u e _ _ => e) (fun i d' a' q1 q2 => ?_) (fun a' ha => ?_), w.rep e1 fun o' e' => ?_⟩
  · by_cases hb : b = a
    · subst hb; rw [upd_same] at e; cases e; exact ho
    · rw [upd_ne hb] at e; exact S.sub b u e
  · by_cases hb : b = a
    · subst hb; exact .inr h0
    · rw [upd_ne hb] at e; exact .inl e
  · have ne : a' ≠ a := fun z => ns i d' q1 (by rw [q2, z])
    obtain ⟨v, h1, a2, rfl, g', _, w'⟩ := S.slot i _ q1
    rw [q2] at h1; cases h1
    exact ⟨by rw [upd_ne ne]; exact g', rfl⟩
  · have ne : a' ≠ a := fun z => by
      obtain ⟨o', e'⟩ := S.pin a' ha
      rw [z, h0] at e'; cases e'
    exact ⟨by rw [upd_ne ne]; exact (S.parAt ha).1, rfl⟩
  · rw [ho] at e'; cases e'; exact upd_same
theorem Sta.setVal (S : Sta K C G H σ ρ) (h : Rep K G d v) (i : Nat) : Sta K C G H (σ.set i (some v)) (ρ.set i (.val d)) where
  sub := S.sub
  old := S.old
  new := S.new
  base := S.base
  len := by simp [EV.set, S.len]
  slot := fun j s e => by
    by_cases hj : i = j
    · subst hj
      have hi : i < ρ.sl.length := by
        have := (List.getElem?_eq_some_iff.mp e).1
        simpa [EV.set] using this
      simp only [EV.set, List.getElem?_set_self hi] at e
      cases e
      exact ⟨v, List.getElem?_set_self (by rw [S.len]; exact hi), h⟩
    · simp only [EV.set, List.getElem?_set_ne hj] at e
      obtain ⟨u, h1, h2⟩ := S.slot j s e
      exact ⟨u, by rw [List.getElem?_set_ne hj]; exact h1, h2⟩
  dist := fun j k a b u h1 h2 h3 h4 => by
    have f : ∀ {j a}, (ρ.set i (.val d)).sl[j]? = some (some (.own a)) → i ≠ j ∧ ρ.sl[j]? = some (some (.own a)) := fun {j a} e => by
      by_cases hj : i = j
      · subst hj
        have hi : i < ρ.sl.length := by
          have := (List.getElem?_eq_some_iff.mp e).1
          simpa [EV.set] using this
        simp only [EV.set, List.getElem?_set_self hi] at e
        cases e
      · simp only [EV.set, List.getElem?_set_ne hj] at e
        exact ⟨hj, e⟩
    obtain ⟨n1, q1⟩ := f h1
    obtain ⟨n2, q2⟩ := f h2
    rw [List.getElem?_set_ne n1] at h3
    rw [List.getElem?_set_ne n2] at h4
    exact S.dist j k a b u q1 q2 h3 h4
  plen := S.plen
  par := S.par
  pnd := S.pnd
  pin := S.pin
theorem Sta.setOwn (S : Sta K C G H σ ρ) (h : RepR K C G H σ ρ (.n d) v) (i : Nat) : Sta K C G H (σ.set i (some v)) (ρ.set i (.own d)) := by
  obtain ⟨a, rfl, g, h0, w, ns⟩ := h
  refine { S with len := by simp [EV.set, S.len], slot := fun j s e => ?_, dist := fun j k x y u h1 h2 h3 h4 => ?_ }
  · by_cases hj : i = j
    · subst hj
      have hi : i < ρ.sl.length := by
        have := (List.getElem?_eq_some_iff.mp e).1
        simpa [EV.set] using this
      simp only [EV.set, List.getElem?_set_self hi] at e
      cases e
      exact ⟨_, List.getElem?_set_self (by rw [S.len]; exact hi), a, rfl, g, h0, w⟩
    · simp only [EV.set, List.getElem?_set_ne hj] at e
      obtain ⟨u, h1, h2⟩ := S.slot j s e
      exact ⟨u, by rw [List.getElem?_set_ne hj]; exact h1, h2⟩
  · have f : ∀ {j x}, (ρ.set i (.own d)).sl[j]? = some (some (.own x)) → i ≠ j → ρ.sl[j]? = some (some (.own x)) := fun {j x} e hj => by
      simp only [EV.set, List.getElem?_set_ne hj] at e
      exact e
    have z : ∀ {j : Nat} {x : D}, (ρ.set i (.own d)).sl[j]? = some (some (.own x)) → i < σ.length ∨ i ≠ j := fun {j x} e => by
      by_cases hj : i = j
      · subst hj
        have := (List.getElem?_eq_some_iff.mp e).1
        left
        rw [S.len]
        simpa [EV.set] using this
      · exact .inr hj
    by_cases hj : i = j
    · by_cases hk : i = k
      · rw [← hj, ← hk]
      · exfalso
        subst hj
        have hi := (z h1).resolve_right (fun q => q rfl)
        rw [List.getElem?_set_self hi] at h3
        rw [List.getElem?_set_ne hk] at h4
        cases h3
        exact ns k y (f h2 hk) h4
    · by_cases hk : i = k
      · exfalso
        subst hk
        have hi := (z h2).resolve_right (fun q => q rfl)
        rw [List.getElem?_set_self hi] at h4
        rw [List.getElem?_set_ne hj] at h3
        cases h4
        exact ns j x (f h1 hj) h3
      · rw [List.getElem?_set_ne hj] at h3
        rw [List.getElem?_set_ne hk] at h4
        exact S.dist j k x y u (f h1 hj) (f h2 hk) h3 h4
theorem Sta.kill (S : Sta K C G H σ ρ) (i : Nat) : Sta K C G H σ (ρ.kill i) := by
  have f : ∀ {j s}, (ρ.kill i).sl[j]? = some (some s) → ρ.sl[j]? = some (some s) := fun {j s} e => by
    by_cases hj : i = j
    · subst hj
      have hi : i < ρ.sl.length := by
        have := (List.getElem?_eq_some_iff.mp e).1
        simpa [EV.kill] using this
      simp only [EV.kill, List.getElem?_set_self hi] at e
      cases e
    · simp only [EV.kill, List.getElem?_set_ne hj] at e
      exact e
  exact { S with len := by simp [EV.kill, S.len], slot := fun j s e => S.slot j s (f e), dist := fun j k x y u h1 h2 h3 h4 => S.dist j k x y u (f h1) (f h2) h3 h4 }
theorem Sta.kills (S : Sta K C G H σ ρ) : ∀ (l : List Nat), Sta K C G H σ (ρ.kills l) := fun l => by
  induction l generalizing ρ with
  | nil => exact S
  | cons i r ih => exact ih (S.kill i)
/-- an own object in a slot is settled -/
theorem Sta.settleSlot (S : Sta K C G H σ ρ) {i : Nat} (hi : ρ.sl[i]? = some (some (.own d))) : ∃ G' v, Same G G' ∧ σ[i]? = some (some v) ∧ Sta K C G' H σ (ρ.set i (.val d)) ∧ Rep K G' d v := by
  obtain ⟨v, hv, a, rfl, g, h0, w⟩ := S.slot i _ hi
  have hl : i < ρ.sl.length := (List.getElem?_eq_some_iff.mp hi).1
  have Sk := S.kill i
  have n : RepR K C G H σ (ρ.kill i) (.n d) (.ref a) := ⟨a, rfl, g, h0, w, fun j e q1 q2 => by
    have hj : i ≠ j := fun z => by
      subst z
      simp only [EV.kill, List.getElem?_set_self hl] at q1
      cases q1
    simp only [EV.kill, List.getElem?_set_ne hj] at q1
    exact hj (S.dist i j d e _ hi q1 hv q2)⟩
  obtain ⟨G', e1, S1, r1⟩ := Sk.settle n
  refine ⟨G', _, e1, hv, ?_, r1⟩
  have S2 := S1.setVal r1 i
  have es : σ.set i (some (.ref a)) = σ := by
    apply List.ext_getElem?
    intro j
    by_cases hj : i = j
    · subst hj
      rw [List.getElem?_set_self (by rw [S.len]; exact hl), hv]
    · rw [List.getElem?_set_ne hj]
  rw [es] at S2
  have er : (ρ.kill i).set i (.val d) = ρ.set i (.val d) := by
    simp [EV.kill, EV.set]
  rw [er] at S2
  exact S2
/-- the content of a slot's object -/
theorem Sta.objAt (S : Sta K C G H σ ρ) {i : Nat} (h : ρ.obj i = some d) (hv : σ[i]? = some (some v)) : ∃ a, v = .ref a ∧ G a = none ∧ View K G H d a := by
  unfold EV.obj at h
  cases e : ρ.sl[i]? with
  | none => rw [e] at h; cases h
  | some o =>
    rw [e] at h
    cases o with
    | none => cases h
    | some s =>
      obtain ⟨u, h1, h2⟩ := S.slot i s e
      rw [hv] at h1; cases h1
      cases s with
      | val d' => cases h
      | own d' =>
        cases h
        obtain ⟨a, rfl, g, _, w⟩ := h2
        exact ⟨a, rfl, g, w⟩
      | par k =>
        obtain ⟨a, rfl, ha⟩ := h2
        obtain ⟨g, w⟩ := S.par k a d ha h
        exact ⟨a, rfl, g, w⟩
      | xn => cases h
theorem Sta.look (S : Sta K C G H σ ρ) {r : R} (h : RepR K C G H σ ρ r v) (e : ρ.look r = some d) : Vw K G H d v := by
  cases r with
  | v d' => cases e; exact Rep.vw S.sub h
  | s i =>
    obtain ⟨a, rfl, _, w⟩ := S.objAt e h
    exact w.vw
  | n d' => cases e
end
end DL
set_option Elab.async false
set_option linter.all false
set_option maxRecDepth 100000
set_option maxHeartbeats 4000000
namespace DL
open PySem PySem.Spec PyProof.Rows L2

/-! ### combinators -/
def M.bind {α β : Type} (f : M α) (g : α → M β) : M β := fun ρ => match f ρ with
  | some (.ok a ρ') => g a ρ'
  | some (.ex e ρ') => some (.ex e ρ')
  | none => none
def M.ret {α : Type} (a : α) : M α := fun ρ => some (.ok a ρ)
def fVar (i : Nat) : M R := fun ρ => match ρ.sl[i]? with
  | some (some (.val d)) => some (.ok (.v d) ρ)
  | some (some _) => some (.ok (.s i) ρ)
  | _ => none
def fC (d : D) : M R := fun ρ => some (.ok (.v d) ρ)
/-- a fresh object is settled; so is an own object of a slot -/
def fFrz (f : M R) : M R := f.bind fun r => fun ρ => match r with
  | .v d => some (.ok (.v d) ρ)
  | .n d => some (.ok (.v d) ρ)
  | .s i => (match ρ.sl[i]? with
    | some (some (.own d)) => some (.ok (.v d) (ρ.set i (.val d)))
    | _ => none)
/-- a fresh object alone is settled -/
def fFrN (f : M R) : M R := f.bind fun r => fun ρ => match r with
  | .n d => some (.ok (.v d) ρ)
  | r => some (.ok r ρ)
def op1 (f : D → Option R) (r : R) : M R := fun ρ => match ρ.look r with
  | some d => (match f d with
    | some q => some (.ok q ρ)
    | none => none)
  | none => none
def op2 (f : D → D → Option R) (r1 r2 : R) : M R := fun ρ => match ρ.look r1 with
  | some d1 => (match ρ.look r2 with
    | some d2 => (match f d1 d2 with
      | some q => some (.ok q ρ)
      | none => none)
    | none => none)
  | none => none
def fUn (g : D → Option R) (f : M R) : M R := f.bind (op1 g)
def fBin (g : D → D → Option R) (f h : M R) : M R := f.bind fun r1 => h.bind fun r2 => op2 g r1 r2
def evs : List (M R) → M (List R)
  | [] => M.ret []
  | f :: fs => f.bind fun r => (evs fs).bind fun rs => M.ret (r :: rs)
def EV.looks (ρ : EV) : List R → Option (List D)
  | [] => some []
  | r :: rs => match ρ.look r with
    | some d => (match ρ.looks rs with
      | some ds => some (d :: ds)
      | none => none)
    | none => none
def settled : List R → Option (List D)
  | [] => some []
  | .v d :: rs => (match settled rs with
    | some ds => some (d :: ds)
    | none => none)
  | _ => none

/-! ### judgements -/
def ExR (G : Hp) (K : KW) (e : XD) (c : Value) (d : Option Addr) : Prop :=
  c = .ref (He.ga K e.C) ∧ (e.fs = [] ∨ ∃ dd fv, d = some dd ∧ G dd = some (.xd fv) ∧ ∀ f x, e.fs.lookup f = some x → ∃ v, fv.lookup f = some v ∧ Rep K G x v)
def XPost (K : KW) (C : Ctl) (W : WX) (G : Hp) (σ : L2.St) (x : XR R) (Q : VK) : Prop := match x with
  | .ok r ρ' => ∀ v G' H', Same G G' → Sta K C G' H' σ ρ' → RepR K C G' H' σ ρ' r v → Q v H'
  | .ex e ρ' => ∀ c d G' H', Same G G' → Sta K C G' H' σ ρ' → ExR G' K e c d → W c d σ H'
def tD (K : KW) (C : Ctl) (W : WX) (f : M R) : TE := fun σ H Q => ∃ G ρ x, Sta K C G H σ ρ ∧ f ρ = some x ∧ XPost K C W G σ x Q
abbrev PD (X : Cx) (C : Ctl) (W : WX) (e : Expr) (f : M R) : Prop := PE X e (tD X.kw C W f)
def BPost (K : KW) (C : Ctl) (W : WX) (G : Hp) (σ : L2.St) (x : XR Bool) (Q : Bool → Hp → Prop) : Prop := match x with
  | .ok b ρ' => ∀ G' H', Same G G' → Sta K C G' H' σ ρ' → Q b H'
  | .ex e ρ' => ∀ c d G' H', Same G G' → Sta K C G' H' σ ρ' → ExR G' K e c d → W c d σ H'
def tDT (K : KW) (C : Ctl) (W : WX) (f : M Bool) : TT := fun σ H Q => ∃ G ρ x, Sta K C G H σ ρ ∧ f ρ = some x ∧ BPost K C W G σ x Q
abbrev PB (X : Cx) (C : Ctl) (W : WX) (e : Expr) (f : M Bool) : Prop := PT X e (tDT X.kw C W f)
inductive RepRs (K : KW) (C : Ctl) (G H : Hp) (σ : L2.St) (ρ : EV) : List R → List V → Prop where
  | nil : RepRs K C G H σ ρ [] []
  | cons {r : R} {v : V} {rs : List R} {vs : List V} : (∀ d, r ≠ .n d) → RepR K C G H σ ρ r v → RepRs K C G H σ ρ rs vs → RepRs K C G H σ ρ (r :: rs) (v :: vs)
def APost (K : KW) (C : Ctl) (W : WX) (G : Hp) (σ : L2.St) (x : XR (List R)) (Q : List V → Hp → Prop) : Prop := match x with
  | .ok rs ρ' => ∀ vs G' H', Same G G' → Sta K C G' H' σ ρ' → RepRs K C G' H' σ ρ' rs vs → Q vs H'
  | .ex e ρ' => ∀ c d G' H', Same G G' → Sta K C G' H' σ ρ' → ExR G' K e c d → W c d σ H'
def tDA (K : KW) (C : Ctl) (W : WX) (f : M (List R)) : TA := fun σ H Q => ∃ G ρ x, Sta K C G H σ ρ ∧ f ρ = some x ∧ APost K C W G σ x Q
abbrev PAs (X : Cx) (C : Ctl) (W : WX) (es : List Expr) (f : M (List R)) : Prop := PA X es (tDA X.kw C W f)
def SPost (K : KW) (C : Ctl) (W : WX) (G : Hp) (x : Flow) (E : Ends) : Prop := match x with
  | .nx ρ' => ∀ σ G' H', Same G G' → Sta K C G' H' σ ρ' → E.nx σ H'
  | .ret r ρ' => ∀ v σ G' H', Same G G' → Sta K C G' H' σ ρ' → RepR K C G' H' σ ρ' r v → E.rt v H'
  | .ex e ρ' => ∀ c d σ G' H', Same G G' → Sta K C G' H' σ ρ' → ExR G' K e c d → W c d σ H'
  | .bk ρ' => ∀ σ G' H', Same G G' → Sta K C G' H' σ ρ' → E.bk σ H'
  | .ct ρ' => ∀ σ G' H', Same G G' → Sta K C G' H' σ ρ' → E.ct σ H'
def tS (K : KW) (C : Ctl) (W : WX) (f : F) : TS := fun E σ H => ∃ G ρ x, Sta K C G H σ ρ ∧ f ρ = some x ∧ SPost K C W G x E
abbrev PQ (X : Cx) (C : Ctl) (W : WX) (st : Stmt) (f : F) : Prop := PS X st (tS X.kw C W f)
abbrev PQs (X : Cx) (C : Ctl) (W : WX) (st : List Stmt) (f : F) : Prop := PSs X st (tS X.kw C W f)

section
variable {X : Cx} {C : Ctl} {W : WX} {e a b : Expr} {pos : Pos} {f g h : M R}
theorem PE.of {t t' : TE} (h : PE X e t) (k : ∀ σ H Q, t' σ H Q → t σ H Q) : PE X e t' := ⟨fun pins s σ H Q I q => h.run pins s σ H Q I (k σ H Q q)⟩
theorem PE.by {t' : TE} (k : ∀ σ H Q, t' σ H Q → ∃ t, PE X e t ∧ t σ H Q) : PE X e t' := ⟨fun pins s σ H Q I q => by
  obtain ⟨t, h, q'⟩ := k σ H Q q
  exact h.run pins s σ H Q I q'⟩
theorem PT.by {t' : TT} (k : ∀ σ H Q, t' σ H Q → ∃ t, PT X e t ∧ t σ H Q) : PT X e t' := ⟨fun pins s σ H Q I q => by
  obtain ⟨t, h, q'⟩ := k σ H Q q
  exact h.run pins s σ H Q I q'⟩
theorem PS.by {st : Stmt} {t' : TS} (k : ∀ D σ H, t' D σ H → ∃ t, PS X st t ∧ t D σ H) : PS X st t' := ⟨fun pins s σ H D I q => by
  obtain ⟨t, h, q'⟩ := k D σ H q
  exact h.run pins s σ H D I q'⟩
theorem pd_var (i : Nat) {x : Str} (hN : X.N[i]? = some x := by rfl) (hv : Vis X.env.scope x := by first | exact Or.inl rfl | exact Or.inr (Or.inl rfl) | exact Or.inr (Or.inr rfl)) (hd : (x == ("__debug__" : Str)) = false := by decide)
    (hcd : (x == ("__classdict__" : Str)) = false := by decide) : PD X C W (.Name x pos) (fVar i) := by
  refine PE.of (pe_var hN hv hd hcd) fun σ H Q ⟨G, ρ, x, S, hf, P⟩ => ?_
  unfold fVar at hf
  cases e : ρ.sl[i]? with
  | none => rw [e] at hf; cases hf
  | some o =>
    rw [e] at hf
    cases o with
    | none => cases hf
    | some s =>
      obtain ⟨v, h1, h2⟩ := S.slot i s e
      refine ⟨v, h1, ?_⟩
      cases s with
      | val d => cases hf; exact P v G H (Same.refl G) S h2
      | own d => cases hf; exact P v G H (Same.refl G) S h1
      | par k => cases hf; exact P v G H (Same.refl G) S h1
      | xn => cases hf; exact P v G H (Same.refl G) S h1
/-- a constant -/
theorem pd_c {v : V} {d : D} (h : PE X e (tC v)) (r : ∀ G, Rep X.kw G d v) : PD X C W e (fC d) := PE.of h fun σ H Q ⟨G, ρ, x, S, hf, P⟩ => by
  cases hf
  exact P v G H (Same.refl G) S (r G)
theorem pd_int {i j} : PD X C W (.Constant (.int i) j pos) (fC (.int i)) := pd_c pe_int fun _ => rfl
theorem pd_bl {b j} : PD X C W (.Constant (.bool b) j pos) (fC (.bl b)) := pd_c pe_bl fun _ => rfl
theorem pd_non {j} : PD X C W (.Constant .none j pos) (fC .non) := pd_c pe_non fun _ => rfl
theorem pd_str {x j} : PD X C W (.Constant (.str x) j pos) (fC (.str x)) := pd_c pe_str fun _ => rfl
/-- what stands later -/
theorem RepR.later {G G' H H' : Hp} {σ : L2.St} {ρ ρ' : EV} {r : R} {v : V} {K : KW} (h : RepR K C G H σ ρ r v) (n : ∀ d, r ≠ .n d) (e : Same G G') : RepR K C G' H' σ ρ' r v := by
  cases r with
  | v d => exact Rep.mono e h
  | s i => exact h
  | n d => exact absurd rfl (n d)
theorem look_nn {ρ : EV} {r : R} {d : D} (h : ρ.look r = some d) : ∀ d, r ≠ .n d := fun d' e => by subst e; cases h
theorem bind_ok {α β : Type} {f : M α} {g : α → M β} {ρ : EV} {x : XR β} (h : f.bind g ρ = some x) : (∃ a ρ', f ρ = some (.ok a ρ') ∧ g a ρ' = some x) ∨ (∃ e ρ', f ρ = some (.ex e ρ') ∧ x = .ex e ρ') := by
  unfold M.bind at h
  cases e : f ρ with
  | none => rw [e] at h; cases h
  | some y =>
    rw [e] at h
    cases y with
    | ok a ρ' => exact .inl ⟨a, ρ', rfl, h⟩
    | ex q ρ' => exact .inr ⟨q, ρ', rfl, (Option.some.inj h).symm⟩
/-- one expression, then something by its result -/
theorem tD.seq {K : KW} {G H : Hp} {σ : L2.St} {ρ : EV} {x : XR R} {g : R → M R} {Q Q' : VK} (S : Sta K C G H σ ρ) (hf : f.bind g ρ = some x) (P : XPost K C W G σ x Q)
    (hq : ∀ r ρ1 v G1 H1, Same G G1 → Sta K C G1 H1 σ ρ1 → RepR K C G1 H1 σ ρ1 r v → g r ρ1 = some x → XPost K C W G1 σ x Q → Q' v H1) : tD K C W f σ H Q' := by
  have mono : ∀ G1, Same G G1 → XPost K C W G1 σ x Q := fun G1 e1 => by
    cases x with
    | ok r ρ' => exact fun v G' H' e S' R' => P v G' H' (e1.trans e) S' R'
    | ex e ρ' => exact fun c d G' H' e S' R' => P c d G' H' (e1.trans e) S' R'
  rcases bind_ok hf with ⟨r, ρ1, h1, h2⟩ | ⟨q, ρ1, h1, rfl⟩
  · exact ⟨G, ρ, _, S, h1, fun v G1 H1 e1 S1 R1 => hq r ρ1 v G1 H1 e1 S1 R1 h2 (mono G1 e1)⟩
  · exact ⟨G, ρ, _, S, h1, P⟩
theorem pd_frz (h : PD X C W e f) : PD X C W e (fFrz f) := PE.of h fun σ H Q ⟨G, ρ, x, S, hf, P⟩ => by
  refine tD.seq S hf P fun r ρ1 v G1 H1 e1 S1 R1 h2 P1 => ?_
  cases r with
  | v d => cases h2; exact P1 v G1 H1 (Same.refl _) S1 R1
  | n d =>
    cases h2
    obtain ⟨G2, e2, S2, R2⟩ := S1.settle R1
    exact P1 v G2 H1 e2 S2 R2
  | s i =>
    have h3 : (match ρ1.sl[i]? with
      | some (some (.own d)) => some (XR.ok (R.v d) (ρ1.set i (.val d)))
      | _ => none) = some x := h2
    cases e : ρ1.sl[i]? with
    | none => rw [e] at h3; cases h3
    | some o =>
      rw [e] at h3
      cases o with
      | none => cases h3
      | some s =>
        cases s with
        | own d =>
          cases h3
          obtain ⟨G2, u, e2, hu, S2, R2⟩ := S1.settleSlot e
          have R1' : σ[i]? = some (some v) := R1
          rw [R1'] at hu; cases hu
          exact P1 v G2 H1 e2 S2 R2
        | val d => cases h3
        | par k => cases h3
        | xn => cases h3
theorem pd_frN (h : PD X C W e f) : PD X C W e (fFrN f) := PE.of h fun σ H Q ⟨G, ρ, x, S, hf, P⟩ => by
  refine tD.seq S hf P fun r ρ1 v G1 H1 e1 S1 R1 h2 P1 => ?_
  cases r with
  | v d => cases h2; exact P1 v G1 H1 (Same.refl _) S1 R1
  | n d =>
    cases h2
    obtain ⟨G2, e2, S2, R2⟩ := S1.settle R1
    exact P1 v G2 H1 e2 S2 R2
  | s i => cases h2; exact P1 v G1 H1 (Same.refl _) S1 R1
theorem op2_ok {g : D → D → Option R} {r1 r2 : R} {ρ : EV} {x : XR R} (h : op2 g r1 r2 ρ = some x) : ∃ d1 d2 r, ρ.look r1 = some d1 ∧ ρ.look r2 = some d2 ∧ g d1 d2 = some r ∧ x = .ok r ρ := by
  unfold op2 at h
  cases e1 : ρ.look r1 with
  | none => rw [e1] at h; cases h
  | some d1 =>
    rw [e1] at h
    cases e2 : ρ.look r2 with
    | none => rw [e2] at h; cases h
    | some d2 =>
      rw [e2] at h
      cases e3 : g d1 d2 with
      | none => simp only [e3] at h; cases h
      | some r => simp only [e3] at h; exact ⟨d1, d2, r, rfl, rfl, e3, (Option.some.inj h).symm⟩
theorem op1_ok {g : D → Option R} {r1 : R} {ρ : EV} {x : XR R} (h : op1 g r1 ρ = some x) : ∃ d1 r, ρ.look r1 = some d1 ∧ g d1 = some r ∧ x = .ok r ρ := by
  unfold op1 at h
  cases e1 : ρ.look r1 with
  | none => rw [e1] at h; cases h
  | some d1 =>
    rw [e1] at h
    cases e3 : g d1 with
    | none => simp only [e3] at h; cases h
    | some r => simp only [e3] at h; exact ⟨d1, r, rfl, e3, (Option.some.inj h).symm⟩
/-- an operation on data is what the machine's operation does -/
def Ans (K : KW) (C : Ctl) (G H : Hp) (σ : L2.St) (ρ : EV) (r : R) (Q : VK) : Prop := ∀ v G' H', Same G G' → Sta K C G' H' σ ρ → RepR K C G' H' σ ρ r v → Q v H'
def Op2 (X : Cx) (fo : Value → Value → Sem Value) (g : D → D → Option R) : Prop := ∀ d1 d2 r, g d1 d2 = some r → ∃ rd : L2.R2, OpR X fo rd ∧
  ∀ C G H σ ρ v1 v2 Q, Sta X.kw C G H σ ρ → Vw X.kw G H d1 v1 → Vw X.kw G H d2 v2 → Ans X.kw C G H σ ρ r Q → rd v1 v2 H Q
theorem opr_false {fo : Value → Value → Sem Value} : OpR X fo (fun _ _ _ _ => False) := fun _ _ _ _ _ _ _ _ _ _ _ _ h => h.elim
theorem bin_go {fo : Value → Value → Sem Value} {k : D → D → Option R} (ho : Op2 X fo k) {σ : L2.St} {H : Hp} {Q : VK} (q : tD X.kw C W (fBin k f g) σ H Q) : ∃ rd : L2.R2, OpR X fo rd ∧ tOp rd (tD X.kw C W f) (tD X.kw C W g) σ H Q := by
  obtain ⟨G, ρ, x, S, hf, P⟩ := q
  have hf0 := hf
  rcases bind_ok hf with ⟨r1, ρ1, h1, h2⟩ | ⟨q, ρ1, h1, rfl⟩
  · rcases bind_ok h2 with ⟨r2, ρ2, h3, h4⟩ | ⟨q, ρ2, h3, rfl⟩
    · obtain ⟨d1, d2, r, l1, l2, hk, rfl⟩ := op2_ok h4
      obtain ⟨rd, hr, hd⟩ := ho d1 d2 r hk
      refine ⟨rd, hr, ⟨G, ρ, _, S, h1, fun v1 G1 H1 e1 S1 R1 => ⟨G1, ρ1, _, S1, h3, fun v2 G2 H2 e2 S2 R2 => ?_⟩⟩⟩
      have R1' := R1.later (H' := H2) (ρ' := ρ2) (look_nn l1) e2
      exact hd C G2 H2 σ ρ2 v1 v2 Q S2 (S2.look R1' l1) (S2.look R2 l2) fun v G' H' e' S' R' => P v G' H' ((e1.trans e2).trans e') S' R'
    · exact ⟨_, opr_false, ⟨G, ρ, _, S, h1, fun v1 G1 H1 e1 S1 R1 => ⟨G1, ρ1, _, S1, h3, fun c d G2 H2 e2 S2 R2 => P c d G2 H2 (e1.trans e2) S2 R2⟩⟩⟩
  · exact ⟨_, opr_false, ⟨G, ρ, _, S, h1, P⟩⟩
theorem pd_bin {op : Operator} {k : D → D → Option R} (ho : Op2 X (binaryOp op) k) (ha : PD X C W a f) (hb : PD X C W b g) : PD X C W (.BinOp a op b pos) (fBin k f g) := PE.by fun σ H Q q => by
  obtain ⟨rd, hr, q'⟩ := bin_go ho q
  exact ⟨_, pe_op hr ha hb, q'⟩
theorem pd_cmp {op : CmpOp} {k : D → D → Option R} (ho : Op2 X (compareOp op) k) (ha : PD X C W a f) (hb : PD X C W b g) (hm : behindInMarks op b = false) : PD X C W (.Compare a [op] [b] pos) (fBin k f g) := PE.by fun σ H Q q => by
  obtain ⟨rd, hr, q'⟩ := bin_go ho q
  exact ⟨_, pe_cmpR hr ha hb hm, q'⟩
/-- a bool as a test -/
def fBool (f : M R) : M Bool := f.bind fun r => fun ρ => match r with
  | .v (.bl b) => some (.ok b ρ)
  | _ => none
theorem test_go {k : M R} {σ : L2.St} {H : Hp} {Q : Bool → Hp → Prop} (q : tDT X.kw C W (fBool k) σ H Q) : tD X.kw C W k σ H fun x H' => ∃ c, x = .bl c ∧ Q c H' := by
  obtain ⟨G, ρ, x, S, hf, P⟩ := q
  rcases bind_ok hf with ⟨r, ρ1, h1, h2⟩ | ⟨q, ρ1, h1, rfl⟩
  · refine ⟨G, ρ, _, S, h1, fun v G1 H1 e1 S1 R1 => ?_⟩
    cases r with
    | v d =>
      cases d with
      | bl b =>
        cases h2
        exact ⟨b, R1, P G1 H1 e1 S1⟩
      | _ => cases h2
    | _ => cases h2
  · exact ⟨G, ρ, _, S, h1, P⟩
theorem pb_cmp {op : CmpOp} {k : D → D → Option R} (ho : Op2 X (compareOp op) k) (ha : PD X C W a f) (hb : PD X C W b g) (hm : behindInMarks op b = false) : PB X C W (.Compare a [op] [b] pos) (fBool (fBin k f g)) := PT.by fun σ H Q q => by
  obtain ⟨G, ρ, x, S, hf, P⟩ := test_go q
  obtain ⟨rd, hr, q'⟩ := bin_go (Q := fun x H' => ∃ c, x = .bl c ∧ Q c H') ho ⟨G, ρ, x, S, hf, P⟩
  exact ⟨_, pt_cmpR hr ha hb hm, q'⟩
/-- a bool's name, call .. as a test -/
theorem pb_val (h : PD X C W e f) (he : ∀ whole, isTrue e X.env whole = (do let v ← whole; standAt e.pos; holding [v] (truthy v)) := by intro _; rfl) : PB X C W e (fBool f) := PT.by fun σ H Q q => ⟨_, pt_val h he, test_go q⟩
def fNotB (t : M Bool) : M Bool := t.bind fun b => M.ret (!b)
def fAndB (t u : M Bool) : M Bool := t.bind fun b => if b = true then u else M.ret false
def fOrB (t u : M Bool) : M Bool := t.bind fun b => if b = true then M.ret true else u
variable {t u : M Bool}
theorem tDT.seq {K : KW} {G H : Hp} {σ : L2.St} {ρ : EV} {x : XR Bool} {g : Bool → M Bool} {Q Q' : Bool → Hp → Prop} (S : Sta K C G H σ ρ) (hf : t.bind g ρ = some x) (P : BPost K C W G σ x Q)
    (hq : ∀ b ρ1 G1 H1, Sta K C G1 H1 σ ρ1 → g b ρ1 = some x → BPost K C W G1 σ x Q → Q' b H1) : tDT K C W t σ H Q' := by
  have mono : ∀ G1, Same G G1 → BPost K C W G1 σ x Q := fun G1 e1 => by
    cases x with
    | ok r ρ' => exact fun G' H' e S' => P G' H' (e1.trans e) S'
    | ex e ρ' => exact fun c d G' H' e S' R' => P c d G' H' (e1.trans e) S' R'
  rcases bind_ok hf with ⟨r, ρ1, h1, h2⟩ | ⟨q, ρ1, h1, rfl⟩
  · exact ⟨G, ρ, _, S, h1, fun G1 H1 e1 S1 => hq r ρ1 G1 H1 S1 h2 (mono G1 e1)⟩
  · exact ⟨G, ρ, _, S, h1, P⟩
theorem pb_not (ha : PB X C W a t) : PB X C W (.UnaryOp .Not a pos) (fNotB t) := PT.by fun σ H Q ⟨G, ρ, x, S, hf, P⟩ => ⟨_, pt_not ha, tDT.seq S hf P fun b ρ1 G1 H1 S1 h2 P1 => by
  cases h2
  exact P1 G1 H1 (Same.refl _) S1⟩
abbrev PBW (X : Cx) (C : Ctl) (W : WX) (e : Expr) (f : M Bool) : Prop := PW X e (tDT X.kw C W f)
theorem pbw_and1 (ha : PB X C W a t) : PBW X C W (.BoolOp .And [a] pos) t := pw_and1 ha
theorem pbw_or1 (ha : PB X C W a t) : PBW X C W (.BoolOp .Or [a] pos) t := pw_or1 ha
theorem PW.by {t' : TT} (k : ∀ σ H Q, t' σ H Q → ∃ t, PW X e t ∧ t σ H Q) : PW X e t' := ⟨fun wh pins s σ H Q I q => by
  obtain ⟨t, h, q'⟩ := k σ H Q q
  exact h.run wh pins s σ H Q I q'⟩
theorem pbw_and {rest : List Expr} (ha : PB X C W a t) (hb : PBW X C W (.BoolOp .And (b :: rest) pos) u) : PBW X C W (.BoolOp .And (a :: b :: rest) pos) (fAndB t u) := PW.by fun σ H Q ⟨G, ρ, x, S, hf, P⟩ => ⟨_, pw_and ha hb, tDT.seq S hf P fun c ρ1 G1 H1 S1 h2 P1 => by
  cases c with
  | true => exact ⟨G1, ρ1, x, S1, h2, P1⟩
  | false => cases h2; exact P1 G1 H1 (Same.refl _) S1⟩
theorem pbw_or {rest : List Expr} (ha : PB X C W a t) (hb : PBW X C W (.BoolOp .Or (b :: rest) pos) u) : PBW X C W (.BoolOp .Or (a :: b :: rest) pos) (fOrB t u) := PW.by fun σ H Q ⟨G, ρ, x, S, hf, P⟩ => ⟨_, pw_or ha hb, tDT.seq S hf P fun c ρ1 G1 H1 S1 h2 P1 => by
  cases c with
  | false => exact ⟨G1, ρ1, x, S1, h2, P1⟩
  | true => cases h2; exact P1 G1 H1 (Same.refl _) S1⟩
theorem pb_w (h : PBW X C W e t) : PB X C W e t := h.pt
end
end DL
set_option Elab.async false
set_option linter.all false
set_option maxRecDepth 100000
set_option maxHeartbeats 4000000
namespace DL
open PySem PySem.Spec PyProof.Rows L2

/-! ### an object of a slot is written -/
section
variable {K : KW} {C : Ctl} {G G' H H' : Hp} {σ : L2.St} {ρ : EV} {d d' : D} {v : V} {i : Nat}
theorem Sta.write (S : Sta K C G H σ ρ) {a : Addr} (h : ρ.obj i = some d) (hv : σ[i]? = some (some (.ref a))) {o' : HO} (w' : View K G (upd H a o') d' a) : Sta K C G (upd H a o') σ (ρ.put i d') := by
  obtain ⟨a', e0, ga, wa⟩ := S.objAt h hv
  cases e0
  have sub : Same G (upd H a o') := fun b u e => by
    rw [upd_ne (ne_of_none e ga)]
    exact S.sub b u e
  cases e : ρ.sl[i]? with
  | none => unfold EV.obj at h; rw [e] at h; cases h
  | some so =>
    cases so with
    | none => unfold EV.obj at h; rw [e] at h; cases h
    | some s =>
      obtain ⟨u, h1, h2⟩ := S.slot i s e
      rw [hv] at h1; cases h1
      cases s with
      | val x => unfold EV.obj at h; rw [e] at h; cases h
      | xn => unfold EV.obj at h; rw [e] at h; cases h
      | own x =>
        obtain ⟨a2, e2, g2, h0, w2⟩ := h2
        cases e2
        have hil : i < ρ.sl.length := (List.getElem?_eq_some_iff.mp e).1
        have ep : ρ.put i d' = ρ.set i (.own d') := by unfold EV.put; rw [e]
        rw [ep]
        have f : ∀ {j : Nat} {x : D}, (ρ.set i (.own d')).sl[j]? = some (some (.own x)) → ∃ y, ρ.sl[j]? = some (some (.own y)) := fun {j x} q => by
          by_cases hj : i = j
          · subst hj; exact ⟨_, e⟩
          · simp only [EV.set, List.getElem?_set_ne hj] at q
            exact ⟨x, q⟩
        refine { S with sub := sub, base := fun b u q hA => ?_, len := by simp [EV.set, S.len], slot := fun j s q => ?_, dist := fun j k x y u q1 q2 q3 q4 => ?_, par := fun k b x q1 q2 => ?_ }
        · have nb : b ≠ a := fun z => by rw [z, h0] at q; cases q
          rw [upd_ne nb]; exact S.base b u q hA
        · by_cases hj : i = j
          · subst hj
            simp only [EV.set, List.getElem?_set_self hil] at q
            cases q
            exact ⟨_, hv, a, rfl, ga, h0, w'⟩
          · simp only [EV.set, List.getElem?_set_ne hj] at q
            obtain ⟨u, h3, h4⟩ := S.slot j s q
            refine ⟨u, h3, ?_⟩
            cases s with
            | val x => exact h4
            | own y =>
              obtain ⟨b, rfl, g3, h5, w3⟩ := h4
              have nb : b ≠ a := fun z => by
                subst z
                exact hj (S.dist i j _ _ _ e q hv h3)
              exact ⟨b, rfl, g3, h5, w3.mono (Same.refl _) (upd_ne nb)⟩
            | par k => exact h4
            | xn => exact h4
        · obtain ⟨x', q1'⟩ := f q1
          obtain ⟨y', q2'⟩ := f q2
          exact S.dist j k x' y' u q1' q2' q3 q4
        · obtain ⟨g3, w3⟩ := S.par k b x q1 q2
          have nb : b ≠ a := fun z => by
            obtain ⟨o2, e2⟩ := S.pin b (List.mem_of_getElem? q1)
            rw [z, h0] at e2; cases e2
          exact ⟨g3, w3.mono (Same.refl _) (upd_ne nb)⟩
      | par k =>
        obtain ⟨a2, e2, hk⟩ := h2
        cases e2
        have ep : ρ.put i d' = { ρ with ps := ρ.ps.set k d' } := by unfold EV.put; rw [e]
        rw [ep]
        refine { S with sub := sub, base := fun b u q hA => ?_, slot := fun j s q => ?_, plen := by simp [S.plen], par := fun k2 b x q1 q2 => ?_ }
        · have nb : b ≠ a := fun z => hA (by rw [z]; exact List.mem_of_getElem? hk)
          rw [upd_ne nb]; exact S.base b u q hA
        · obtain ⟨u, h3, h4⟩ := S.slot j s q
          refine ⟨u, h3, ?_⟩
          cases s with
          | val x => exact h4
          | own y =>
            obtain ⟨b, rfl, g3, h5, w3⟩ := h4
            have nb : b ≠ a := fun z => by
              obtain ⟨o2, e2⟩ := S.pin a (List.mem_of_getElem? hk)
              rw [← z, h5] at e2; cases e2
            exact ⟨b, rfl, g3, h5, w3.mono (Same.refl _) (upd_ne nb)⟩
          | par k => exact h4
          | xn => exact h4
        · by_cases hkk : k = k2
          · subst hkk
            rw [hk] at q1
            cases q1
            have hl : k < ρ.ps.length := by
              have := (List.getElem?_eq_some_iff.mp q2).1
              simpa using this
            have q2' : (ρ.ps.set k d')[k]? = some x := q2
            rw [List.getElem?_set_self hl] at q2'
            cases q2'
            exact ⟨ga, w'⟩
          · have q2' : (ρ.ps.set k d')[k2]? = some x := q2
            rw [List.getElem?_set_ne hkk] at q2'
            obtain ⟨g3, w3⟩ := S.par k2 b x q1 q2'
            have nb : b ≠ a := fun z => by
              subst z
              obtain ⟨l1, m1⟩ := List.getElem?_eq_some_iff.mp hk
              obtain ⟨l2, m2⟩ := List.getElem?_eq_some_iff.mp q1
              exact hkk ((List.getElem_inj S.pnd).mp (m1.trans m2.symm))
            exact ⟨g3, w3.mono (Same.refl _) (upd_ne nb)⟩
theorem RepRs.looks (S : Sta K C G H σ ρ) : ∀ {rs : List R} {vs : List V} {ds : List D}, RepRs K C G H σ ρ rs vs → ρ.looks rs = some ds → ∃ f : Unit, vs.length = ds.length ∧ ∀ (i : Nat) d, ds[i]? = some d → ∃ v, vs[i]? = some v ∧ Vw K G H d v := by
  intro rs
  induction rs with
  | nil => intro vs ds h e; cases h; cases e; exact ⟨(), rfl, fun i d q => by simp at q⟩
  | cons r rs ih =>
    intro vs ds h e
    cases h with
    | cons n h1 h2 =>
      rename_i v vs'
      unfold EV.looks at e
      cases e1 : ρ.look r with
      | none => rw [e1] at e; cases e
      | some d1 =>
        rw [e1] at e
        cases e2 : ρ.looks rs with
        | none => simp only [e2] at e; cases e
        | some ds1 =>
          simp only [e2] at e
          cases e
          obtain ⟨_, l, q⟩ := ih h2 e2
          refine ⟨(), by simp [l], fun i d hd => ?_⟩
          cases i with
          | zero => simp at hd; subst hd; exact ⟨v, rfl, S.look h1 e1⟩
          | succ i => exact q i d (by simpa using hd)
theorem RepRs.settled : ∀ {rs : List R} {vs : List V} {ds : List D}, RepRs K C G H σ ρ rs vs → settled rs = some ds → RepL K G ds vs := by
  intro rs
  induction rs with
  | nil => intro vs ds h e; cases h; cases e; rfl
  | cons r rs ih =>
    intro vs ds h e
    cases h with
    | cons n h1 h2 =>
      cases r with
      | v d =>
        unfold DL.settled at e
        cases e2 : DL.settled rs with
        | none => rw [e2] at e; cases e
        | some ds1 =>
          rw [e2] at e
          cases e
          exact RepL.cons h1 (ih h2 e2)
      | s i => cases e
      | n d => cases e
theorem RepRs.later : ∀ {rs : List R} {vs : List V} {ρ' : EV}, RepRs K C G H σ ρ rs vs → Same G G' → RepRs K C G' H' σ ρ' rs vs := by
  intro rs vs ρ' h e
  induction h with
  | nil => exact .nil
  | cons n h1 _ ih => exact .cons n (h1.later n e) ih
end

section
variable {X : Cx} {C : Ctl} {W : WX} {e a b : Expr} {es : List Expr} {pos : Pos} {f g h : M R} {fs : List (M R)}
/-! ### arguments -/
theorem pa_dnil : PAs X C W [] (evs []) := ⟨fun pos pins s σ H Q I ⟨G, ρ, x, S, hf, P⟩ => by
  cases hf
  exact pa_nil.run pos pins s σ H Q I (P [] G H (Same.refl _) S .nil)⟩
theorem PA.by {t' : TA} (k : ∀ σ H Q, t' σ H Q → ∃ t, PA X es t ∧ t σ H Q) : PA X es t' := ⟨fun pos pins s σ H Q I q => by
  obtain ⟨t, h, q'⟩ := k σ H Q q
  exact h.run pos pins s σ H Q I q'⟩
/-- an argument is no fresh object (fFrN, fFrz) -/
def fNN (f : M R) : M R := f.bind fun r => match r with
  | .n _ => fun _ => none
  | r => M.ret r
theorem pa_dcons (ha : PD X C W e f) (hr : PAs X C W es (evs fs)) (hs : starEach (e :: es) X.env = (false, eval e X.env) :: starEach es X.env := by rfl) : PAs X C W (e :: es) (evs (fNN f :: fs)) := PA.by fun σ H Q ⟨G, ρ, x, S, hf, P⟩ => by
  refine ⟨_, pa_cons ha hr hs, ?_⟩
  rcases bind_ok hf with ⟨r, ρ1, h1, h2⟩ | ⟨q, ρ1, h1, rfl⟩
  · rcases bind_ok h1 with ⟨r0, ρ0, h3, h4⟩ | ⟨q, ρ0, h3, h4⟩
    · refine ⟨G, ρ, _, S, h3, fun v G1 H1 e1 S1 R1 => ?_⟩
      have nn : (∀ d, r0 ≠ .n d) ∧ r0 = r ∧ ρ0 = ρ1 := by
        cases r0 with
        | n d => cases h4
        | v d => cases h4; exact ⟨(fun _ z => nomatch z), rfl, rfl⟩
        | s i => cases h4; exact ⟨(fun _ z => nomatch z), rfl, rfl⟩
      obtain ⟨nn, rfl, rfl⟩ := nn
      rcases bind_ok h2 with ⟨rs, ρ2, h5, h6⟩ | ⟨q, ρ2, h5, rfl⟩
      · cases h6
        exact ⟨G1, ρ0, _, S1, h5, fun vs G2 H2 e2 S2 R2 => P (v :: vs) G2 H2 (e1.trans e2) S2 (.cons nn (R1.later nn e2) R2)⟩
      · exact ⟨G1, ρ0, _, S1, h5, fun c d G2 H2 e2 S2 R2 => P c d G2 H2 (e1.trans e2) S2 R2⟩
    · cases h4
  · rcases bind_ok h1 with ⟨r0, ρ0, h3, h4⟩ | ⟨q, ρ0, h3, h4⟩
    · cases r0 with
      | n d => cases h4
      | v d => cases h4
      | s i => cases h4
    · cases h4
      exact ⟨G, ρ, _, S, h3, P⟩
/-! ### displays -/
def szOk (n : Nat) : Prop := n ≤ 16777216
instance {n : Nat} : Decidable (szOk n) := by unfold szOk; exact inferInstance
theorem szOk.line {n : Nat} (h : szOk n) : n ≤ sizeLine := by rw [sizeLine_eq]; exact h
def mkTup (rs : List R) : M R := fun ρ => match settled rs with
  | some ds => if szOk ds.length then some (.ok (.v (.tup ds)) ρ) else none
  | none => none
def mkLst (rs : List R) : M R := fun ρ => match settled rs with
  | some ds => if szOk ds.length then some (.ok (.n (.lst ds)) ρ) else none
  | none => none
def fTup (fs : List (M R)) : M R := (evs fs).bind mkTup
def fLst (fs : List (M R)) : M R := (evs fs).bind mkLst
theorem tDA.seq {K : KW} {α : Type} {G H : Hp} {σ : L2.St} {ρ : EV} {x : XR α} {fa : M (List R)} {g : List R → M α} {Q' : List V → Hp → Prop} (S : Sta K C G H σ ρ) (hf : fa.bind g ρ = some x)
    (he : ∀ e ρ', x = .ex e ρ' → ∀ c d G' H', Same G G' → Sta K C G' H' σ ρ' → ExR G' K e c d → W c d σ H')
    (hq : ∀ rs ρ1 vs G1 H1, Same G G1 → Sta K C G1 H1 σ ρ1 → RepRs K C G1 H1 σ ρ1 rs vs → g rs ρ1 = some x → Q' vs H1) : tDA K C W fa σ H Q' := by
  rcases bind_ok hf with ⟨rs, ρ1, h1, h2⟩ | ⟨q, ρ1, h1, rfl⟩
  · exact ⟨G, ρ, _, S, h1, fun vs G1 H1 e1 S1 R1 => hq rs ρ1 vs G1 H1 e1 S1 R1 h2⟩
  · exact ⟨G, ρ, _, S, h1, fun c d G' H' e' S' R' => he q ρ1 rfl c d G' H' e' S' R'⟩
theorem pd_tup {x1} (h : PAs X C W es (evs fs)) : PD X C W (.Tuple es x1 pos) (fTup fs) := PE.of (pe_tup h) fun σ H Q ⟨G, ρ, x, S, hf, P⟩ => by
  refine tDA.seq S hf (fun e ρ' ex => by subst ex; exact P) fun rs ρ1 vs G1 H1 e1 S1 R1 h2 => ?_
  unfold mkTup at h2
  cases e2 : settled rs with
  | none => rw [e2] at h2; cases h2
  | some ds =>
    rw [e2] at h2
    have r := R1.settled e2
    by_cases hz : szOk ds.length
    · simp only [if_pos hz] at h2
      cases h2
      refine ⟨by rw [← r.length]; exact hz.line, fun p hp => ?_⟩
      obtain ⟨e3, S3, R3⟩ := S1.newTup hp r
      exact P (.ref p) _ _ (e1.trans e3) S3 R3
    · simp only [if_neg hz] at h2; cases h2
theorem pd_lst (h : PAs X C W es (evs fs)) : PD X C W (.List es pos) (fLst fs) := PE.of (pe_lst h) fun σ H Q ⟨G, ρ, x, S, hf, P⟩ => by
  refine tDA.seq S hf (fun e ρ' ex => by subst ex; exact P) fun rs ρ1 vs G1 H1 e1 S1 R1 h2 => ?_
  unfold mkLst at h2
  cases e2 : settled rs with
  | none => rw [e2] at h2; cases h2
  | some ds =>
    rw [e2] at h2
    have r := R1.settled e2
    by_cases hz : szOk ds.length
    · simp only [if_pos hz] at h2
      cases h2
      refine ⟨by rw [← r.length]; exact hz.line, fun p hp => ?_⟩
      exact P (.ref p) _ _ e1 (S1.lay hp _) (S1.newList hp r)
    · simp only [if_neg hz] at h2; cases h2
/-! ### calls of built-ins, by values -/
def opN (g : List D → Option R) (rs : List R) : M R := fun ρ => match ρ.looks rs with
  | some ds => (match g ds with
    | some q => some (.ok q ρ)
    | none => none)
  | none => none
def fN (g : List D → Option R) (fs : List (M R)) : M R := (evs fs).bind (opN g)
theorem opN_ok {g : List D → Option R} {rs : List R} {ρ : EV} {x : XR R} (h : opN g rs ρ = some x) : ∃ ds r, ρ.looks rs = some ds ∧ g ds = some r ∧ x = .ok r ρ := by
  unfold opN at h
  cases e1 : ρ.looks rs with
  | none => rw [e1] at h; cases h
  | some ds =>
    rw [e1] at h
    cases e3 : g ds with
    | none => simp only [e3] at h; cases h
    | some r => simp only [e3] at h; exact ⟨ds, r, rfl, e3, (Option.some.inj h).symm⟩
inductive Vws (K : KW) (G H : Hp) : List D → List V → Prop where
  | nil : Vws K G H [] []
  | cons {d : D} {v : V} {ds : List D} {vs : List V} : Vw K G H d v → Vws K G H ds vs → Vws K G H (d :: ds) (v :: vs)
theorem RepRs.vws {K : KW} {G H : Hp} {σ : L2.St} {ρ : EV} (S : Sta K C G H σ ρ) : ∀ {rs : List R} {vs : List V} {ds : List D}, RepRs K C G H σ ρ rs vs → ρ.looks rs = some ds → Vws K G H ds vs := by
  intro rs
  induction rs with
  | nil => intro vs ds h e; cases h; cases e; exact .nil
  | cons r rs ih =>
    intro vs ds h e
    cases h with
    | cons n h1 h2 =>
      unfold EV.looks at e
      cases e1 : ρ.look r with
      | none => rw [e1] at e; cases e
      | some d1 =>
        rw [e1] at e
        cases e2 : ρ.looks rs with
        | none => simp only [e2] at e; cases e
        | some ds1 =>
          simp only [e2] at e
          cases e
          exact .cons (S.look h1 e1) (ih h2 e2)
def OpN (X : Cx) (fv : Value) (g : List D → Option R) : Prop := ∀ ds r, g ds = some r → ∃ rd : List V → Hp → VK → Prop, CallR X fv rd ∧
  ∀ C G H σ ρ vs Q, Sta X.kw C G H σ ρ → Vws X.kw G H ds vs → Ans X.kw C G H σ ρ r Q → rd vs H Q
theorem callR_false {fv : Value} : CallR X fv (fun _ _ _ => False) := fun _ _ _ _ _ _ _ _ _ h => h.elim
theorem n_go {fv : Value} {k : List D → Option R} (ho : OpN X fv k) {σ : L2.St} {H : Hp} {Q : VK} (q : tD X.kw C W (fN k fs) σ H Q) : ∃ rd : List V → Hp → VK → Prop, CallR X fv rd ∧ tCB rd (tDA X.kw C W (evs fs)) σ H Q := by
  obtain ⟨G, ρ, x, S, hf, P⟩ := q
  rcases bind_ok hf with ⟨rs, ρ1, h1, h2⟩ | ⟨q, ρ1, h1, rfl⟩
  · obtain ⟨ds, r, l1, hk, rfl⟩ := opN_ok h2
    obtain ⟨rd, hr, hd⟩ := ho ds r hk
    exact ⟨rd, hr, ⟨G, ρ, _, S, h1, fun vs G1 H1 e1 S1 R1 => hd C G1 H1 σ ρ1 vs Q S1 (R1.vws S1 l1) fun v G' H' e' S' R' => P v G' H' (e1.trans e') S' R'⟩⟩
  · exact ⟨_, callR_false, ⟨G, ρ, _, S, h1, P⟩⟩
theorem pd_callB {id : String} {x : Str} {p : Pos} {k : List D → Option R} (ho : OpN X (.builtin id) k) (hg : Gl X x) (hm : X.mg x = none) (hv : bootBuiltins x = some (.builtin id)) (ha : PAs X C W (e :: es) (evs fs)) (hn : x ≠ "__name__" := by decide) (hdb : (x == ("__debug__" : Str)) = false := by decide)
    (he : starEach (e :: es) X.env = (false, eval e X.env) :: starEach es X.env := by rfl) (hpl : (backTo pos (starEach es X.env)).any (·.1) = false := by rfl) : PD X C W (.Call (.Name x p) (e :: es) [] pos) (fN k fs) := PE.by fun σ H Q q => by
  obtain ⟨rd, hr, q'⟩ := n_go ho q
  exact ⟨_, pe_callB hr hg hm hv ha hn hdb he hpl, q'⟩
theorem pd_callTy {T : String} {x : Str} {p : Pos} {k : List D → Option R} (ho : OpN X (.type T) k) (hg : Gl X x) (hm : X.mg x = none) (hv : bootBuiltins x = some (.type T)) (ha : PAs X C W (e :: es) (evs fs)) (hn : x ≠ "__name__" := by decide) (hdb : (x == ("__debug__" : Str)) = false := by decide)
    (he : starEach (e :: es) X.env = (false, eval e X.env) :: starEach es X.env := by rfl) (hpl : (backTo pos (starEach es X.env)).any (·.1) = false := by rfl) : PD X C W (.Call (.Name x p) (e :: es) [] pos) (fN k fs) := PE.by fun σ H Q q => by
  obtain ⟨rd, hr, q'⟩ := n_go ho q
  exact ⟨_, pe_callTy hr hg hm hv ha hn hdb he hpl, q'⟩
end
end DL
set_option Elab.async false
set_option linter.all false
set_option maxRecDepth 100000
set_option maxHeartbeats 4000000
namespace DL
open PySem PySem.Spec PyProof.Rows L2

/-! ### operations on data -/
def cMul (i j : Int) : Prop := (-(2 ^ 64) < i ∧ i < 2 ^ 64) ∨ (-(2 ^ 64) < j ∧ j < 2 ^ 64)
/-- as tests that stop at once where a number is not known -/
def cMulB (i j : Int) : Bool := Nat.ble i.natAbs 18446744073709551615 || Nat.ble j.natAbs 18446744073709551615
theorem cMulB_iff {i j : Int} : cMulB i j = true ↔ cMul i j := by
  unfold cMulB cMul
  simp only [Bool.or_eq_true, Nat.ble_eq]
  constructor <;> intro h <;> omega
instance {i j : Int} : Decidable (cMul i j) := decidable_of_iff _ cMulB_iff
def cDiv (j : Int) : Prop := 0 < j ∧ j < 1073741824
def cDivB (j : Int) : Bool := match j with
  | .ofNat n => Nat.ble 1 n && Nat.ble n 1073741823
  | .negSucc _ => false
theorem cDivB_iff {j : Int} : cDivB j = true ↔ cDiv j := by
  unfold cDivB cDiv
  cases j with
  | ofNat n => simp only [Bool.and_eq_true, Nat.ble_eq, Int.ofNat_eq_natCast]; constructor <;> intro h <;> omega
  | negSucc n =>
    simp only [Int.negSucc_eq]
    exact ⟨fun h => (by cases h), fun h => (by omega)⟩
instance {j : Int} : Decidable (cDiv j) := decidable_of_iff _ cDivB_iff
def cPow (i j : Int) : Prop := 0 ≤ j ∧ j ≤ 1000000 ∧ i.natAbs < 2 ^ 64
instance {i j : Int} : Decidable (cPow i j) := by unfold cPow; exact inferInstance
instance {a : List D} : Decidable (a ≠ []) := by
  cases a with
  | nil => exact .isFalse fun h => h rfl
  | cons x r => exact .isTrue fun h => nomatch h
def addD : D → D → Option R
  | .int i, .int j => some (.v (.int (i + j)))
  | .str a, .str b => if szOk (a.length + b.length) then some (.v (.str (a ++ b))) else none
  | .lst a, .lst b => if szOk (a.length + b.length) then some (.n (.lst (a ++ b))) else none
  | .tup a, .tup b => if a ≠ [] ∧ szOk (a.length + b.length) then some (.v (.tup (a ++ b))) else none
  | _, _ => none
def subD : D → D → Option R
  | .int i, .int j => some (.v (.int (i - j)))
  | _, _ => none
def cRep (n : Nat) (k : Int) : Prop := -(2 ^ 63) ≤ k ∧ k < 2 ^ 63 ∧ szOk (n * k.toNat)
instance {n : Nat} {k : Int} : Decidable (cRep n k) := by unfold cRep; exact inferInstance
def mulD : D → D → Option R
  | .int i, .int j => if cMul i j then some (.v (.int (i * j))) else none
  | .lst a, .int k => if cRep a.length k then some (.n (.lst (List.replicate k.toNat a).flatten)) else none
  | _, _ => none
def modD : D → D → Option R
  | .int i, .int j => if 0 < j then some (.v (.int (i % j))) else none
  | _, _ => none
def fdivD : D → D → Option R
  | .int i, .int j => if cDiv j then some (.v (.int (i / j))) else none
  | _, _ => none
def powD : D → D → Option R
  | .int i, .int j => if cPow i j then some (.v (.int (i ^ j.toNat))) else none
  | _, _ => none
def negD : D → Option R
  | .int i => some (.v (.int (-i)))
  | _ => none
def cmpD (p : Int → Int → Bool) : D → D → Option R
  | .int i, .int j => some (.v (.bl (p i j)))
  | _, _ => none
abbrev ltD := cmpD fun i j => decide (i < j)
abbrev leD := cmpD fun i j => decide (i ≤ j)
abbrev gtD := cmpD fun i j => decide (j < i)
abbrev geD := cmpD fun i j => decide (j ≤ i)
mutual
def py : D → PyData
  | .non => .none
  | .bl b => .bool b
  | .int i => .int i
  | .str s => .str s
  | .lst ds => .list (pys ds)
  | .tup ds => .tuple (pys ds)
  | _ => .dict []
def pys : List D → List PyData
  | [] => []
  | d :: ds => py d :: pys ds
end
def okD (d : D) : Bool := SeqAt.shaped (py d)
def eqB (a b : D) : Bool := PyData.eqv (py a) (py b)
def eqD : D → D → Option R
  | .str a, .str b => some (.v (.bl (decide (a = b))))
  | .int a, .int b => some (.v (.bl (decide (a = b))))
  | .bl a, .bl b => some (.v (.bl (decide (a = b))))
  | a, b => if (okD a && okD b) = true then some (.v (.bl (eqB a b))) else none
def neD : D → D → Option R
  | .str a, .str b => some (.v (.bl (!decide (a = b))))
  | .int a, .int b => some (.v (.bl (!decide (a = b))))
  | .bl a, .bl b => some (.v (.bl (!decide (a = b))))
  | a, b => if (okD a && okD b) = true then some (.v (.bl (!eqB a b))) else none
def isNone : D → Bool
  | .non => true
  | _ => false
def isND : D → D → Option R
  | a, .non => some (.v (.bl (isNone a)))
  | _, _ => none
def notND : D → D → Option R
  | a, .non => some (.v (.bl (!isNone a)))
  | _, _ => none
/-- flat data as a value -/
def toV : D → Option V
  | .non => some .non
  | .bl b => some (.bl b)
  | .int i => some (.int i)
  | .str s => some (.str s)
  | _ => none
def toVs : List D → Option (List V)
  | [] => some []
  | d :: ds => match toV d with
    | some v => (match toVs ds with
      | some vs => some (v :: vs)
      | none => none)
    | none => none
def inFlat (d : D) (ds : List D) : Option Bool := match toV d with
  | some v => (match toVs ds with
    | some vs => some (inV v vs)
    | none => none)
  | none => none
def inB : D → D → Option Bool
  | .str a, .str b => some (!(Builtin.Str.occurrences b a 0 b.length 1).isEmpty)
  | a, .lst ds => (match inFlat a ds with
    | some b => some b
    | none => if (okD a && okD (.lst ds)) = true then some (ds.any fun z => eqB z a) else none)
  | a, .tup ds => inFlat a ds
  | _, _ => none
def inD (a b : D) : Option R := match inB a b with
  | some c => some (.v (.bl c))
  | none => none
def notInD (a b : D) : Option R := match inB a b with
  | some c => some (.v (.bl (!c)))
  | none => none

section
variable {X : Cx}
theorem ans_v {K : KW} {C : Ctl} {G H : Hp} {σ : L2.St} {ρ : EV} {d : D} {v : V} {Q : VK} (q : Ans K C G H σ ρ (.v d) Q) (S : Sta K C G H σ ρ) (r : Rep K G d v) : Q v H := q v G H (Same.refl _) S r
theorem ans_n {K : KW} {C : Ctl} {G H : Hp} {σ : L2.St} {ρ : EV} {ds : List D} {xs : List V} {Q : VK} (q : Ans K C G H σ ρ (.n (.lst ds)) Q) (S : Sta K C G H σ ρ) (r : RepL K G ds xs) (p : Addr) (hp : H p = none) : Q (.ref p) (upd H p (.lst xs)) :=
  q (.ref p) G _ (Same.refl _) (S.lay hp _) (S.newList hp r)
theorem ans_t {K : KW} {C : Ctl} {G H : Hp} {σ : L2.St} {ρ : EV} {ds : List D} {xs : List V} {Q : VK} (q : Ans K C G H σ ρ (.v (.tup ds)) Q) (S : Sta K C G H σ ρ) (r : RepL K G ds xs) (p : Addr) (hp : H p = none) : Q (.ref p) (upd H p (.tup xs)) := by
  obtain ⟨e3, S3, R3⟩ := S.newTup hp r
  exact q (.ref p) _ _ e3 S3 R3
theorem add_ok : Op2 X (binaryOp .Add) addD := by
  intro d1 d2 r h
  unfold addD at h
  split at h
  · cases h
    exact ⟨_, op_add, fun C G H σ ρ v1 v2 Q S w1 w2 q => ⟨_, _, w1, w2, ans_v q S rfl⟩⟩
  · split at h
    · rename_i hz
      cases h
      exact ⟨_, op_add_str, fun C G H σ ρ v1 v2 Q S w1 w2 q => ⟨_, _, w1, w2, hz.line, ans_v q S rfl⟩⟩
    · cases h
  · split at h
    · rename_i hz
      cases h
      refine ⟨_, op_cat, fun C G H σ ρ v1 v2 Q S w1 w2 q => ?_⟩
      obtain ⟨a, xs, e1, h1, r1⟩ := w1
      obtain ⟨b, ys, e2, h2, r2⟩ := w2
      refine ⟨a, b, xs, ys, e1, e2, h1, h2, ?_, fun p hp => ans_n q S (r1.append r2) p hp⟩
      rw [← r1.length, ← r2.length]; exact hz.line
    · cases h
  · split at h
    · rename_i hz
      cases h
      refine ⟨_, op_catT, fun C G H σ ρ v1 v2 Q S w1 w2 q => ?_⟩
      obtain ⟨a, xs, e1, h1, r1⟩ := id w1
      obtain ⟨b, ys, e2, h2, r2⟩ := w2
      refine ⟨a, b, xs, ys, e1, e2, same_t S.sub h1, same_t S.sub h2, ?_, ?_, fun hy => ?_, fun hy p hp => ans_t q S (r1.append r2) p hp⟩
      · intro z
        have l := r1.length
        rw [z] at l
        exact hz.1 (List.eq_nil_of_length_eq_zero l)
      · rw [← r1.length, ← r2.length]; exact hz.2.line
      · subst hy
        have l := r2.length
        have z := List.eq_nil_of_length_eq_zero l
        subst z
        rw [List.append_nil] at q
        subst e1
        exact ans_v q S w1
    · cases h
  · cases h
theorem sub_ok : Op2 X (binaryOp .Sub) subD := by
  intro d1 d2 r h
  unfold subD at h
  split at h
  · cases h
    exact ⟨_, op_sub, fun C G H σ ρ v1 v2 Q S w1 w2 q => ⟨_, _, w1, w2, ans_v q S rfl⟩⟩
  · cases h
theorem mul_ok : Op2 X (binaryOp .Mult) mulD := by
  intro d1 d2 r h
  unfold mulD at h
  split at h
  · split at h
    · rename_i hz
      cases h
      exact ⟨_, op_mul, fun C G H σ ρ v1 v2 Q S w1 w2 q => ⟨_, _, w1, w2, hz, ans_v q S rfl⟩⟩
    · cases h
  · split at h
    · rename_i hz
      cases h
      refine ⟨_, op_rep, fun C G H σ ρ v1 v2 Q S w1 w2 q => ?_⟩
      obtain ⟨a, xs, e1, h1, r1⟩ := w1
      have rr : ∀ n : Nat, RepL X.kw G (List.replicate n _).flatten (List.replicate n xs).flatten := fun n => by
        induction n with
        | zero => exact RepL.nil
        | succ n ih => rw [List.replicate_succ, List.replicate_succ, List.flatten_cons, List.flatten_cons]; exact r1.append ih
      exact ⟨a, _, xs, e1, w2, h1, hz.1, hz.2.1, by rw [← r1.length]; exact hz.2.2.line, fun p hp => ans_n q S (rr _) p hp⟩
    · cases h
  · cases h
theorem mod_ok : Op2 X (binaryOp .Mod) modD := by
  intro d1 d2 r h
  unfold modD at h
  split at h
  · split at h
    · rename_i hz
      cases h
      exact ⟨_, op_mod, fun C G H σ ρ v1 v2 Q S w1 w2 q => ⟨_, _, w1, w2, hz, ans_v q S rfl⟩⟩
    · cases h
  · cases h
theorem fdiv_ok : Op2 X (binaryOp .FloorDiv) fdivD := by
  intro d1 d2 r h
  unfold fdivD at h
  split at h
  · split at h
    · rename_i hz
      cases h
      exact ⟨_, op_fdiv, fun C G H σ ρ v1 v2 Q S w1 w2 q => ⟨_, _, w1, w2, hz, ans_v q S rfl⟩⟩
    · cases h
  · cases h
theorem pow_ok : Op2 X (binaryOp .Pow) powD := by
  intro d1 d2 r h
  unfold powD at h
  split at h
  · split at h
    · rename_i hz
      cases h
      exact ⟨_, op_pow, fun C G H σ ρ v1 v2 Q S w1 w2 q => ⟨_, _, w1, w2, hz, ans_v q S rfl⟩⟩
    · cases h
  · cases h
theorem cmp_ok {op : CmpOp} {p : Int → Int → Bool} (ho : OpR X (compareOp op) (rI0 fun i j => .bl (p i j))) : Op2 X (compareOp op) (cmpD p) := by
  intro d1 d2 r h
  unfold cmpD at h
  split at h
  · cases h
    exact ⟨_, ho, fun C G H σ ρ v1 v2 Q S w1 w2 q => ⟨_, _, w1, w2, ans_v q S rfl⟩⟩
  · cases h
theorem lt_ok : Op2 X (compareOp .Lt) ltD := cmp_ok op_lt
theorem le_ok : Op2 X (compareOp .LtE) leD := cmp_ok op_le
theorem gt_ok : Op2 X (compareOp .Gt) gtD := cmp_ok op_gt
theorem ge_ok : Op2 X (compareOp .GtE) geD := cmp_ok op_ge
section
variable {K : KW} {G H : Hp}
mutual
theorem dp_rep (e : Same G H) : ∀ {d : D} {v : V}, (py d).canLay0 = true → Rep K G d v → Dp K H v (py d)
  | .non, v, _, h => by rw [show v = _ from h]; exact Dp.non
  | .bl b, v, _, h => by rw [show v = _ from h]; exact Dp.bl b
  | .int i, v, _, h => by rw [show v = _ from h]; exact Dp.int i
  | .str x, v, _, h => by rw [show v = _ from h]; exact Dp.str x
  | .ty _, _, c, _ => by simp [py, PyData.canLay0] at c
  | .obj _, _, c, _ => by simp [py, PyData.canLay0] at c
  | .cls _, _, c, _ => by simp [py, PyData.canLay0] at c
  | .dct _ _, _, c, _ => by simp [py, PyData.canLay0] at c
  | .set _, _, c, _ => by simp [py, PyData.canLay0] at c
  | .scr _, _, c, _ => by simp [py, PyData.canLay0] at c
  | .ins _ _ _, _, c, _ => by simp [py, PyData.canLay0] at c
  | .lst ds, v, c, ⟨a, xs, h1, h2, h3⟩ => by
    rw [h1]
    exact Dp.lst (SqL.of (e _ _ h2)) (dp_repL e (by simpa [py, PyData.canLay0] using c) h3)
  | .tup ds, v, c, ⟨a, xs, h1, h2, h3⟩ => by
    rw [h1]
    exact Dp.tup (same_t e h2) (dp_repL e (by simpa [py, PyData.canLay0] using c) h3)
theorem dp_repL (e : Same G H) : ∀ {ds : List D} {vs : List V}, PyData.canLayAll0 (pys ds) = true → RepL K G ds vs → DpAll K H vs (pys ds)
  | [], vs, _, h => by rw [show vs = [] from h]; exact DpAll.nil
  | d :: ds, _, c, ⟨v, r, h1, h2, h3⟩ => by
    rw [h1]
    have c2 : (py d).canLay0 = true ∧ PyData.canLayAll0 (pys ds) = true := by simpa [pys, PyData.canLayAll0] using c
    exact DpAll.cons (dp_rep e c2.1 h2) (dp_repL e c2.2 h3)
end
theorem dp_vw (e : Same G H) {d : D} {v : V} (c : (py d).canLay0 = true) (h : Vw K G H d v) : Dp K H v (py d) := by
  cases d with
  | lst ds =>
    obtain ⟨a, xs, h1, h2, h3⟩ := h
    rw [h1]
    exact Dp.lst (SqL.of h2) (dp_repL e (by simpa [py, PyData.canLay0] using c) h3)
  | ins C ns ds => simp [py, PyData.canLay0] at c
  | dct _ _ => simp [py, PyData.canLay0] at c
  | _ => exact dp_rep e c h
end
theorem lay_ok {d : D} (h : okD d = true) : (py d).canLay0 = true := SeqAt.canLay_of_shaped h
theorem eq_deep (hu : X.A.units + 64 < cLine) {a b : D} {r : R} (h : (if (okD a && okD b) = true then some (R.v (.bl (eqB a b))) else none) = some r) : ∃ rd : L2.R2, OpR X (compareOp .Eq) rd ∧
  ∀ C G H σ ρ v1 v2 Q, Sta X.kw C G H σ ρ → Vw X.kw G H a v1 → Vw X.kw G H b v2 → Ans X.kw C G H σ ρ r Q → rd v1 v2 H Q := by
  split at h
  · rename_i hz
    cases h
    obtain ⟨z1, z2⟩ := Bool.and_eq_true_iff.mp hz
    exact ⟨_, op_eqD hu, fun C G H σ ρ v1 v2 Q S w1 w2 q => ⟨_, _, dp_vw S.sub (lay_ok z1) w1, dp_vw S.sub (lay_ok z2) w2, z1, z2, ans_v q S rfl⟩⟩
  · cases h
theorem ne_deep (hu : X.A.units + 64 < cLine) {a b : D} {r : R} (h : (if (okD a && okD b) = true then some (R.v (.bl (!eqB a b))) else none) = some r) : ∃ rd : L2.R2, OpR X (compareOp .NotEq) rd ∧
  ∀ C G H σ ρ v1 v2 Q, Sta X.kw C G H σ ρ → Vw X.kw G H a v1 → Vw X.kw G H b v2 → Ans X.kw C G H σ ρ r Q → rd v1 v2 H Q := by
  split at h
  · rename_i hz
    cases h
    obtain ⟨z1, z2⟩ := Bool.and_eq_true_iff.mp hz
    exact ⟨_, op_neD hu, fun C G H σ ρ v1 v2 Q S w1 w2 q => ⟨_, _, dp_vw S.sub (lay_ok z1) w1, dp_vw S.sub (lay_ok z2) w2, z1, z2, ans_v q S rfl⟩⟩
  · cases h
theorem dec_v {α : Type} [DecidableEq α] {f : α → V} (hf : ∀ a b, f a = f b → a = b) {a b : α} : decide (f a = f b) = decide (a = b) := by
  by_cases h : a = b
  · subst h; simp
  · rw [decide_eq_false h, decide_eq_false fun z => h (hf _ _ z)]
theorem eq_scal {v1 v2 : V} {b : Bool} (hs : scal v1 v2 = true) (hb : decide (v1 = v2) = b) {d1 d2 : D} (h1 : ∀ K G H v, Vw K G H d1 v → v = v1) (h2 : ∀ K G H v, Vw K G H d2 v → v = v2) : ∃ rd : L2.R2, OpR X (compareOp .Eq) rd ∧
  ∀ C G H σ ρ u1 u2 Q, Sta X.kw C G H σ ρ → Vw X.kw G H d1 u1 → Vw X.kw G H d2 u2 → Ans X.kw C G H σ ρ (.v (.bl b)) Q → rd u1 u2 H Q :=
  ⟨_, op_eq, fun C G H σ ρ u1 u2 Q S w1 w2 q => by
    rw [h1 _ _ _ _ w1, h2 _ _ _ _ w2]
    exact ⟨hs, by rw [hb]; exact ans_v q S rfl⟩⟩
theorem ne_scal {v1 v2 : V} {b : Bool} (hs : scal v1 v2 = true) (hb : decide (v1 = v2) = b) {d1 d2 : D} (h1 : ∀ K G H v, Vw K G H d1 v → v = v1) (h2 : ∀ K G H v, Vw K G H d2 v → v = v2) : ∃ rd : L2.R2, OpR X (compareOp .NotEq) rd ∧
  ∀ C G H σ ρ u1 u2 Q, Sta X.kw C G H σ ρ → Vw X.kw G H d1 u1 → Vw X.kw G H d2 u2 → Ans X.kw C G H σ ρ (.v (.bl (!b))) Q → rd u1 u2 H Q :=
  ⟨_, op_ne, fun C G H σ ρ u1 u2 Q S w1 w2 q => by
    rw [h1 _ _ _ _ w1, h2 _ _ _ _ w2]
    exact ⟨hs, by rw [hb]; exact ans_v q S rfl⟩⟩
theorem eq_ok (hu : X.A.units + 64 < cLine) : Op2 X (compareOp .Eq) eqD := by
  intro d1 d2 r h
  unfold eqD at h
  split at h
  · cases h; exact eq_scal rfl (dec_v fun a b z => V.str.inj z) (fun _ _ _ _ w => w) fun _ _ _ _ w => w
  · cases h; exact eq_scal rfl (dec_v fun a b z => V.int.inj z) (fun _ _ _ _ w => w) fun _ _ _ _ w => w
  · cases h; exact eq_scal rfl (dec_v fun a b z => V.bl.inj z) (fun _ _ _ _ w => w) fun _ _ _ _ w => w
  · exact eq_deep hu h
theorem ne_ok (hu : X.A.units + 64 < cLine) : Op2 X (compareOp .NotEq) neD := by
  intro d1 d2 r h
  unfold neD at h
  split at h
  · cases h; exact ne_scal rfl (dec_v fun a b z => V.str.inj z) (fun _ _ _ _ w => w) fun _ _ _ _ w => w
  · cases h; exact ne_scal rfl (dec_v fun a b z => V.int.inj z) (fun _ _ _ _ w => w) fun _ _ _ _ w => w
  · cases h; exact ne_scal rfl (dec_v fun a b z => V.bl.inj z) (fun _ _ _ _ w => w) fun _ _ _ _ w => w
  · exact ne_deep hu h
theorem isNone_ok {K : KW} {G H : Hp} {d : D} {v : V} (w : Vw K G H d v) : decide (v = .non) = isNone d := by
  cases d with
  | non => rw [show v = _ from w]; rfl
  | bl _ => rw [show v = _ from w]; rfl
  | int _ => rw [show v = _ from w]; rfl
  | str _ => rw [show v = _ from w]; rfl
  | ty _ => rw [show v = _ from w]; rfl
  | obj _ => rw [show v = _ from w]; rfl
  | cls _ => rw [show v = _ from w]; rfl
  | dct _ _ => obtain ⟨_, _, e, _⟩ := w; rw [e]; rfl
  | set _ => obtain ⟨_, _, _, e, _⟩ := w; rw [e]; rfl
  | lst _ => obtain ⟨_, _, e, _⟩ := w; rw [e]; rfl
  | tup _ => obtain ⟨_, _, e, _⟩ := w; rw [e]; rfl
  | scr _ => obtain ⟨_, _, e, _⟩ := w; rw [e]; rfl
  | ins _ _ _ => obtain ⟨_, _, _, e, _⟩ := w; rw [e]; rfl
theorem isN_ok : Op2 X (compareOp .Is) isND := by
  intro d1 d2 r h
  unfold isND at h
  split at h
  · cases h
    exact ⟨_, op_isN, fun C G H σ ρ v1 v2 Q S w1 w2 q => ⟨w2, by rw [isNone_ok w1]; exact ans_v q S rfl⟩⟩
  · cases h
theorem notN_ok : Op2 X (compareOp .IsNot) notND := by
  intro d1 d2 r h
  unfold notND at h
  split at h
  · cases h
    exact ⟨_, op_notN, fun C G H σ ρ v1 v2 Q S w1 w2 q => ⟨w2, by rw [isNone_ok w1]; exact ans_v q S rfl⟩⟩
  · cases h
theorem toV_vw {K : KW} {G H : Hp} {d : D} {v u : V} (e : toV d = some u) (w : Vw K G H d v) : v = u ∧ flatV u = true := by
  cases d with
  | non => cases e; exact ⟨w, rfl⟩
  | bl _ => cases e; exact ⟨w, rfl⟩
  | int _ => cases e; exact ⟨w, rfl⟩
  | str _ => cases e; exact ⟨w, rfl⟩
  | _ => cases e
theorem toVs_rep {K : KW} {G : Hp} : ∀ {ds : List D} {vs us : List V}, toVs ds = some us → RepL K G ds vs → vs = us ∧ us.all flatV = true
  | [], vs, us, e, h => by cases e; exact ⟨h, rfl⟩
  | d :: ds, _, us, e, ⟨v, r, h1, h2, h3⟩ => by
    unfold toVs at e
    cases e1 : toV d with
    | none => rw [e1] at e; cases e
    | some u =>
      rw [e1] at e
      cases e2 : toVs ds with
      | none => simp only [e2] at e; cases e
      | some us1 =>
        simp only [e2] at e
        cases e
        have w : Vw K G G d v := Rep.vw (Same.refl _) h2
        obtain ⟨z1, z2⟩ := toV_vw e1 w
        obtain ⟨z3, z4⟩ := toVs_rep e2 h3
        subst z1 z3
        exact ⟨h1, by rw [List.all_cons, z2, z4]; rfl⟩
theorem inFlat_ok {K : KW} {G H : Hp} {d : D} {ds : List D} {v : V} {xs : List V} {b : Bool} (e : inFlat d ds = some b) (w : Vw K G H d v) (r : RepL K G ds xs) : flatV v = true ∧ xs.all flatV = true ∧ inV v xs = b := by
  unfold inFlat at e
  cases e1 : toV d with
  | none => rw [e1] at e; cases e
  | some u =>
    rw [e1] at e
    cases e2 : toVs ds with
    | none => simp only [e2] at e; cases e
    | some us =>
      simp only [e2] at e
      cases e
      obtain ⟨z1, z2⟩ := toV_vw e1 w
      obtain ⟨z3, z4⟩ := toVs_rep e2 r
      subst z1 z3
      exact ⟨z2, z4, rfl⟩
theorem pys_any (f : PyData → Bool) : ∀ ds : List D, ((pys ds).any f) = ds.any fun z => f (py z)
  | [] => rfl
  | d :: ds => by rw [pys, List.any_cons, List.any_cons, pys_any f ds]
theorem in_gen (hu : X.A.units + 65 < cLine) {a b : D} {c : Bool} (h : inB a b = some c) : (∃ rd : L2.R2, OpR X (compareOp .In) rd ∧
    ∀ C G H σ ρ v1 v2 Q, Sta X.kw C G H σ ρ → Vw X.kw G H a v1 → Vw X.kw G H b v2 → Ans X.kw C G H σ ρ (.v (.bl c)) Q → rd v1 v2 H Q) ∧ ∃ rd : L2.R2, OpR X (compareOp .NotIn) rd ∧
    ∀ C G H σ ρ v1 v2 Q, Sta X.kw C G H σ ρ → Vw X.kw G H a v1 → Vw X.kw G H b v2 → Ans X.kw C G H σ ρ (.v (.bl (!c))) Q → rd v1 v2 H Q := by
  unfold inB at h
  split at h
  · cases h
    exact ⟨⟨_, op_in_str, fun C G H σ ρ v1 v2 Q S w1 w2 q => ⟨_, _, w1, w2, ans_v q S rfl⟩⟩, ⟨_, op_notin_str, fun C G H σ ρ v1 v2 Q S w1 w2 q => ⟨_, _, w1, w2, ans_v q S rfl⟩⟩⟩
  · rename_i ds
    cases e : inFlat a ds with
    | some b =>
      simp only [e] at h
      cases h
      refine ⟨⟨_, op_in_seq, fun C G H σ ρ v1 v2 Q S w1 w2 q => ?_⟩, ⟨_, op_notIn_seq, fun C G H σ ρ v1 v2 Q S w1 w2 q => ?_⟩⟩
      · obtain ⟨p, xs, e2, h2, r2⟩ := w2
        obtain ⟨z1, z2, z3⟩ := inFlat_ok e w1 r2
        exact ⟨p, xs, e2, .inl (SqL.of h2), z1, z2, by rw [z3]; exact ans_v q S rfl⟩
      · obtain ⟨p, xs, e2, h2, r2⟩ := w2
        obtain ⟨z1, z2, z3⟩ := inFlat_ok e w1 r2
        exact ⟨p, xs, e2, .inl (SqL.of h2), z1, z2, by rw [z3]; exact ans_v q S rfl⟩
    | none =>
      simp only [e] at h
      split at h
      · rename_i hz
        cases h
        obtain ⟨z1, z2⟩ := Bool.and_eq_true_iff.mp hz
        have ea : (ds.any fun z => eqB z a) = (pys ds).any fun z => PyData.eqv z (py a) := (pys_any (fun z => PyData.eqv z (py a)) ds).symm
        refine ⟨⟨_, op_inD hu, fun C G H σ ρ v1 v2 Q S w1 w2 q => ?_⟩, ⟨_, op_notInD hu, fun C G H σ ρ v1 v2 Q S w1 w2 q => ?_⟩⟩
        · have z3 := dp_vw S.sub (lay_ok z2) w2
          simp only [py] at z3
          refine ⟨_, _, dp_vw S.sub (lay_ok z1) w1, z3, z1, ?_, ?_⟩
          · have z4 := z2; unfold okD at z4; simp only [py] at z4; exact z4
          · rw [← ea]; exact ans_v q S rfl
        · have z3 := dp_vw S.sub (lay_ok z2) w2
          simp only [py] at z3
          refine ⟨_, _, dp_vw S.sub (lay_ok z1) w1, z3, z1, ?_, ?_⟩
          · have z4 := z2; unfold okD at z4; simp only [py] at z4; exact z4
          · rw [← ea]; exact ans_v q S rfl
      · cases h
  · refine ⟨⟨_, op_in_seq, fun C G H σ ρ v1 v2 Q S w1 w2 q => ?_⟩, ⟨_, op_notIn_seq, fun C G H σ ρ v1 v2 Q S w1 w2 q => ?_⟩⟩
    · obtain ⟨p, xs, e2, h2, r2⟩ := w2
      obtain ⟨z1, z2, z3⟩ := inFlat_ok h w1 r2
      exact ⟨p, xs, e2, .inr (same_t S.sub h2), z1, z2, by rw [z3]; exact ans_v q S rfl⟩
    · obtain ⟨p, xs, e2, h2, r2⟩ := w2
      obtain ⟨z1, z2, z3⟩ := inFlat_ok h w1 r2
      exact ⟨p, xs, e2, .inr (same_t S.sub h2), z1, z2, by rw [z3]; exact ans_v q S rfl⟩
  · cases h
theorem in_ok (hu : X.A.units + 65 < cLine) : Op2 X (compareOp .In) inD := by
  intro d1 d2 r h
  unfold inD at h
  cases e : inB d1 d2 with
  | none => rw [e] at h; cases h
  | some c => rw [e] at h; cases h; exact (in_gen hu e).1
theorem notIn_ok (hu : X.A.units + 65 < cLine) : Op2 X (compareOp .NotIn) notInD := by
  intro d1 d2 r h
  unfold notInD at h
  cases e : inB d1 d2 with
  | none => rw [e] at h; cases h
  | some c => rw [e] at h; cases h; exact (in_gen hu e).2
/-! ### one-place -/
theorem pd_neg {C : Ctl} {W : WX} {a : Expr} {pos : Pos} {f : M R} (ha : PD X C W a f) : PD X C W (.UnaryOp .USub a pos) (fUn negD f) := PE.of (pe_un un_neg ha) fun σ H Q ⟨G, ρ, x, S, hf, P⟩ => by
  refine tD.seq S hf P fun r ρ1 v G1 H1 e1 S1 R1 h2 P1 => ?_
  obtain ⟨d, q, l, hk, rfl⟩ := op1_ok h2
  unfold negD at hk
  split at hk
  · cases hk
    exact ⟨_, S1.look R1 l, P1 _ G1 H1 (Same.refl _) S1 rfl⟩
  · cases hk
/-- not e, a bool's value -/
def notD : D → Option R
  | .bl b => some (.v (.bl (!b)))
  | _ => none
theorem pd_not {C : Ctl} {W : WX} {a : Expr} {pos : Pos} {f : M R} (ha : PD X C W a f) : PD X C W (.UnaryOp .Not a pos) (fUn notD f) := PE.of (pe_not ha) fun σ H Q ⟨G, ρ, x, S, hf, P⟩ => by
  refine tD.seq S hf P fun r ρ1 v G1 H1 e1 S1 R1 h2 P1 => ?_
  obtain ⟨d, q, l, hk, rfl⟩ := op1_ok h2
  unfold notD at hk
  split at hk
  · cases hk
    exact ⟨_, S1.look R1 l, P1 _ G1 H1 (Same.refl _) S1 rfl⟩
  · cases hk
end
end DL
set_option Elab.async false
set_option linter.all false
set_option maxRecDepth 100000
set_option maxHeartbeats 4000000
namespace DL
open PySem PySem.Spec PyProof.Rows L2

/-! ### and, or, if as values; chains -/
def fAnd (f g : M R) : M R := f.bind fun r => match r with
  | .v (.bl true) => g
  | .v (.bl false) => M.ret (.v (.bl false))
  | _ => fun _ => none
def fOr (f g : M R) : M R := f.bind fun r => match r with
  | .v (.bl true) => M.ret (.v (.bl true))
  | .v (.bl false) => g
  | _ => fun _ => none
def fIf (t : M Bool) (f g : M R) : M R := t.bind fun b => if b = true then f else g
def fChain (k k' : D → D → Option R) (f g h : M R) : M R := f.bind fun r1 => g.bind fun r2 => (op2 k r1 r2).bind fun r => match r with
  | .v (.bl true) => h.bind fun r3 => op2 k' r2 r3
  | .v (.bl false) => M.ret (.v (.bl false))
  | _ => fun _ => none
section
variable {X : Cx} {C : Ctl} {W : WX} {e a b c : Expr} {es rest : List Expr} {pos : Pos} {f g h : M R} {fs : List (M R)} {t : M Bool}
theorem pd_one {op} (h : PD X C W a f) : PD X C W (.BoolOp op [a] pos) f := pe_one h
theorem pd_and (ha : PD X C W a f) (hb : PD X C W (.BoolOp .And (b :: rest) pos) g) : PD X C W (.BoolOp .And (a :: b :: rest) pos) (fAnd f g) := PE.of (pe_and ha hb) fun σ H Q ⟨G, ρ, x, S, hf, P⟩ => by
  refine tD.seq S hf P fun r ρ1 v G1 H1 e1 S1 R1 h2 P1 => ?_
  cases r with
  | v d =>
    cases d with
    | bl k =>
      cases k with
      | true => exact ⟨true, R1, G1, ρ1, x, S1, h2, P1⟩
      | false => cases h2; exact ⟨false, R1, P1 _ G1 H1 (Same.refl _) S1 rfl⟩
    | _ => cases h2
  | _ => cases h2
theorem pd_or (ha : PD X C W a f) (hb : PD X C W (.BoolOp .Or (b :: rest) pos) g) : PD X C W (.BoolOp .Or (a :: b :: rest) pos) (fOr f g) := PE.of (pe_or ha hb) fun σ H Q ⟨G, ρ, x, S, hf, P⟩ => by
  refine tD.seq S hf P fun r ρ1 v G1 H1 e1 S1 R1 h2 P1 => ?_
  cases r with
  | v d =>
    cases d with
    | bl k =>
      cases k with
      | false => exact ⟨false, R1, G1, ρ1, x, S1, h2, P1⟩
      | true => cases h2; exact ⟨true, R1, P1 _ G1 H1 (Same.refl _) S1 rfl⟩
    | _ => cases h2
  | _ => cases h2
theorem tDT.seqR {K : KW} {G H : Hp} {σ : L2.St} {ρ : EV} {x : XR R} {k : Bool → M R} {Q : VK} {Q' : Bool → Hp → Prop} (S : Sta K C G H σ ρ) (hf : t.bind k ρ = some x) (P : XPost K C W G σ x Q)
    (hq : ∀ b ρ1 G1 H1, Sta K C G1 H1 σ ρ1 → k b ρ1 = some x → XPost K C W G1 σ x Q → Q' b H1) : tDT K C W t σ H Q' := by
  have mono : ∀ G1, Same G G1 → XPost K C W G1 σ x Q := fun G1 e1 => by
    cases x with
    | ok r ρ' => exact fun v G' H' e S' R' => P v G' H' (e1.trans e) S' R'
    | ex e ρ' => exact fun c d G' H' e S' R' => P c d G' H' (e1.trans e) S' R'
  rcases bind_ok hf with ⟨r, ρ1, h1, h2⟩ | ⟨q, ρ1, h1, rfl⟩
  · exact ⟨G, ρ, _, S, h1, fun G1 H1 e1 S1 => hq r ρ1 G1 H1 S1 h2 (mono G1 e1)⟩
  · exact ⟨G, ρ, _, S, h1, P⟩
theorem pd_if (hc : PB X C W c t) (ha : PD X C W a f) (hb : PD X C W b g) : PD X C W (.IfExp c a b pos) (fIf t f g) := PE.of (pe_ifExp hc ha hb) fun σ H Q ⟨G, ρ, x, S, hf, P⟩ => by
  refine tDT.seqR S hf P fun b ρ1 G1 H1 S1 h2 P1 => ?_
  cases b with
  | true => exact ⟨G1, ρ1, x, S1, h2, P1⟩
  | false => exact ⟨G1, ρ1, x, S1, h2, P1⟩
theorem chain_go {fo fo' : Value → Value → Sem Value} {k k' : D → D → Option R} (ho : Op2 X fo k) (ho' : Op2 X fo' k') {σ : L2.St} {H : Hp} {Q : VK} (q : tD X.kw C W (fChain k k' f g h) σ H Q) :
    ∃ rd rd' : L2.R2, OpR X fo rd ∧ OpR X fo' rd' ∧ tChain rd rd' (tD X.kw C W f) (tD X.kw C W g) (tD X.kw C W h) σ H Q := by
  obtain ⟨G, ρ, x, S, hf, P⟩ := q
  rcases bind_ok hf with ⟨r1, ρ1, h1, h2⟩ | ⟨q, ρ1, h1, rfl⟩
  · rcases bind_ok h2 with ⟨r2, ρ2, h3, h4⟩ | ⟨q, ρ2, h3, rfl⟩
    · rcases bind_ok h4 with ⟨r, ρ3, h5, h6⟩ | ⟨q, ρ3, h5, rfl⟩
      · obtain ⟨d1, d2, r', l1, l2, hk, er⟩ := op2_ok h5
        cases er
        obtain ⟨rd, hr, hd⟩ := ho d1 d2 r hk
        cases r with
        | v dd =>
          cases dd with
          | bl kb =>
            cases kb with
            | false =>
              cases h6
              refine ⟨rd, _, hr, opr_false, ⟨G, ρ, _, S, h1, fun v1 G1 H1 e1 S1 R1 => ⟨G1, ρ1, _, S1, h3, fun v2 G2 H2 e2 S2 R2 => ?_⟩⟩⟩
              exact hd C G2 H2 σ ρ2 v1 v2 _ S2 (S2.look (R1.later (look_nn l1) e2) l1) (S2.look R2 l2) fun v G' H' e' S' R' => ⟨false, R', P _ G' H' ((e1.trans e2).trans e') S' rfl⟩
            | true =>
              rcases bind_ok h6 with ⟨r3, ρ4, h7, h8⟩ | ⟨q, ρ4, h7, rfl⟩
              · obtain ⟨d3, d4, r'', l3, l4, hk', er⟩ := op2_ok h8
                subst er
                obtain ⟨rd', hr', hd'⟩ := ho' d3 d4 r'' hk'
                refine ⟨rd, rd', hr, hr', ⟨G, ρ, _, S, h1, fun v1 G1 H1 e1 S1 R1 => ⟨G1, ρ1, _, S1, h3, fun v2 G2 H2 e2 S2 R2 => ?_⟩⟩⟩
                exact hd C G2 H2 σ ρ2 v1 v2 _ S2 (S2.look (R1.later (look_nn l1) e2) l1) (S2.look R2 l2) fun v G' H' e' S' R' => ⟨true, R', G', ρ2, _, S', h7, fun v3 G4 H4 e4 S4 R4 =>
                  hd' C G4 H4 σ ρ4 v2 v3 Q S4 (S4.look (R2.later (look_nn l3) (e'.trans e4)) l3) (S4.look R4 l4) fun v G5 H5 e5 S5 R5 => P v G5 H5 ((((e1.trans e2).trans e').trans e4).trans e5) S5 R5⟩
              · refine ⟨rd, _, hr, opr_false, ⟨G, ρ, _, S, h1, fun v1 G1 H1 e1 S1 R1 => ⟨G1, ρ1, _, S1, h3, fun v2 G2 H2 e2 S2 R2 => ?_⟩⟩⟩
                exact hd C G2 H2 σ ρ2 v1 v2 _ S2 (S2.look (R1.later (look_nn l1) e2) l1) (S2.look R2 l2) fun v G' H' e' S' R' => ⟨true, R', G', ρ2, _, S', h7, fun c d G4 H4 e4 S4 R4 => P c d G4 H4 (((e1.trans e2).trans e').trans e4) S4 R4⟩
          | _ => cases h6
        | _ => cases h6
      · obtain ⟨d1, d2, r', l1, l2, hk, er⟩ := op2_ok h5
        cases er
    · exact ⟨_, _, opr_false, opr_false, ⟨G, ρ, _, S, h1, fun v1 G1 H1 e1 S1 R1 => ⟨G1, ρ1, _, S1, h3, fun c d G2 H2 e2 S2 R2 => P c d G2 H2 (e1.trans e2) S2 R2⟩⟩⟩
  · exact ⟨_, _, opr_false, opr_false, ⟨G, ρ, _, S, h1, P⟩⟩
theorem pd_chain {op op' : CmpOp} {k k' : D → D → Option R} (ho : Op2 X (compareOp op) k) (ho' : Op2 X (compareOp op') k') (ha : PD X C W a f) (hb : PD X C W b g) (hc : PD X C W c h)
    (hm : lastMarks [op, op'] [b, c] = false := by with_unfolding_all rfl) : PD X C W (.Compare a [op, op'] [b, c] pos) (fChain k k' f g h) := PE.by fun σ H Q q => by
  obtain ⟨rd, rd', hr, hr', q'⟩ := chain_go ho ho' q
  exact ⟨_, pe_chain hr hr' ha hb hc hm, q'⟩
theorem pb_chain {op op' : CmpOp} {k k' : D → D → Option R} (ho : Op2 X (compareOp op) k) (ho' : Op2 X (compareOp op') k') (ha : PD X C W a f) (hb : PD X C W b g) (hc : PD X C W c h)
    (hm : lastMarks [op, op'] [b, c] = false := by with_unfolding_all rfl) : PB X C W (.Compare a [op, op'] [b, c] pos) (fBool (fChain k k' f g h)) := PT.by fun σ H Q q => by
  obtain ⟨G, ρ, x, S, hf, P⟩ := test_go q
  obtain ⟨rd, rd', hr, hr', q'⟩ := chain_go (Q := fun x H' => ∃ c, x = .bl c ∧ Q c H') ho ho' ⟨G, ρ, x, S, hf, P⟩
  exact ⟨_, pt_chain hr hr' ha hb hc hm, q'⟩
end
end DL
set_option Elab.async false
set_option linter.all false
set_option maxRecDepth 100000
set_option maxHeartbeats 4000000
namespace DL
open PySem PySem.Spec PyProof.Rows L2

/-! ### subscripts -/
def ixD : D → D → Option R
  | .lst ds, .int i => (match atI ds i with
    | some d => some (.v d)
    | none => none)
  | .scr ds, .int i => (match atI ds i with
    | some d => some (.v d)
    | none => none)
  | .tup ds, .int i => (match atI ds i with
    | some d => some (.v d)
    | none => none)
  | .str z, .int i => if szOk z.length then (match atI z.cps.toList i with
    | some c => some (.v (.str ⟨#[c]⟩))
    | none => none) else none
  | _, _ => none
theorem RepL.atI {K : KW} {G : Hp} {ds : List D} {vs : List V} {i : Int} {d : D} (r : RepL K G ds vs) (h : L2.atI ds i = some d) : ∃ v, L2.atI vs i = some v ∧ Rep K G d v := by
  unfold L2.atI at h ⊢
  rw [← r.length]
  cases e : ixN ds.length i with
  | none => rw [e] at h; cases h
  | some j =>
    rw [e] at h
    exact r.get h
section
variable {X : Cx} {C : Ctl} {W : WX} {e a b c : Expr} {es rest : List Expr} {pos : Pos} {f g h : M R} {fs : List (M R)} {t : M Bool}
theorem ixr_false : IxR X (fun _ _ _ _ => False) := by intro _ _ _ _ _ _ _ _ _ _ _ _ _ _ h; exact h.elim
theorem pd_ix (ha : PD X C W a f) (hb : PD X C W b g) (hs : PlainIx b := by exact fun _ _ => rfl) : PD X C W (.Subscript a b pos) (fBin ixD f g) := PE.by fun σ H Q ⟨G, ρ, x, S, hf, P⟩ => by
  rcases bind_ok hf with ⟨r1, ρ1, h1, h2⟩ | ⟨q, ρ1, h1, rfl⟩
  · rcases bind_ok h2 with ⟨r2, ρ2, h3, h4⟩ | ⟨q, ρ2, h3, rfl⟩
    · obtain ⟨d1, d2, r, l1, l2, hk, rfl⟩ := op2_ok h4
      have go : ∀ (rd : L2.R2), IxR X rd → (∀ G H v1 v2 Q, Sta X.kw C G H σ ρ2 → Vw X.kw G H d1 v1 → Vw X.kw G H d2 v2 → Ans X.kw C G H σ ρ2 r Q → rd v1 v2 H Q) → ∃ t, PE X (.Subscript a b pos) t ∧ t σ H Q := fun rd hr hd =>
        ⟨_, pe_ix hr ha hb hs, ⟨G, ρ, _, S, h1, fun v1 G1 H1 e1 S1 R1 => ⟨G1, ρ1, _, S1, h3, fun v2 G2 H2 e2 S2 R2 =>
          hd G2 H2 v1 v2 Q S2 (S2.look (R1.later (look_nn l1) e2) l1) (S2.look R2 l2) fun v G' H' e' S' R' => P v G' H' ((e1.trans e2).trans e') S' R'⟩⟩⟩
      unfold ixD at hk
      split at hk
      · split at hk
        · rename_i ds i d hd
          cases hk
          refine go _ ix_list fun G H v1 v2 Q S w1 w2 q => ?_
          obtain ⟨p, xs, e1, hp, r1⟩ := w1
          obtain ⟨v, hv, rv⟩ := r1.atI hd
          exact ⟨p, xs, _, v, e1, w2, SqL.of hp, hv, ans_v q S rv⟩
        · cases hk
      · split at hk
        · rename_i ds i d hd
          cases hk
          refine go _ ix_list fun G H v1 v2 Q S w1 w2 q => ?_
          obtain ⟨p, xs, e1, hp, r1⟩ := w1
          obtain ⟨v, hv, rv⟩ := r1.atI hd
          exact ⟨p, xs, _, v, e1, w2, same_l S.sub hp, hv, ans_v q S rv⟩
        · cases hk
      · split at hk
        · rename_i ds i d hd
          cases hk
          refine go _ ix_tup fun G H v1 v2 Q S w1 w2 q => ?_
          obtain ⟨p, xs, e1, hp, r1⟩ := w1
          obtain ⟨v, hv, rv⟩ := r1.atI hd
          exact ⟨p, xs, _, v, e1, w2, same_t S.sub hp, hv, ans_v q S rv⟩
        · cases hk
      · split at hk
        · rename_i hz
          split at hk
          · rename_i c hc
            cases hk
            refine go _ ix_str fun G H v1 v2 Q S w1 w2 q => ?_
            exact ⟨_, _, c, w1, w2, hz.line, hc, ans_v q S rfl⟩
          · cases hk
        · cases hk
      · cases hk
    · exact ⟨_, pe_ix ixr_false ha hb hs, ⟨G, ρ, _, S, h1, fun v1 G1 H1 e1 S1 R1 => ⟨G1, ρ1, _, S1, h3, fun c d G2 H2 e2 S2 R2 => P c d G2 H2 (e1.trans e2) S2 R2⟩⟩⟩
  · exact ⟨_, pe_ix ixr_false ha hb hs, ⟨G, ρ, _, S, h1, P⟩⟩
/-! ### slices -/
def cutD {α : Type} (xs : List α) (lo hi : Option Int) : List α := (xs.drop (HT.sIx xs.length 0 lo)).take (HT.sIx xs.length xs.length hi - HT.sIx xs.length 0 lo)
theorem RepL.cut {K : KW} {G : Hp} {ds : List D} {vs : List V} (r : RepL K G ds vs) (lo hi : Option Int) : RepL K G (cutD ds lo hi) (cutV vs lo hi) := by
  unfold cutD cutV
  rw [r.length]
  exact RepL.take _ (RepL.drop _ r)
def slD (lo hi : Option Int) : D → Option R
  | .lst ds => some (.n (.lst (cutD ds lo hi)))
  | .str z => if szOk z.length then some (.v (.str (cutS z lo hi))) else none
  | .tup ds => if (cutD ds lo hi).length < ds.length then some (.v (.tup (cutD ds lo hi))) else none
  | _ => none
def asInt (f : M R) : M (Option Int) := f.bind fun r => fun ρ => match r with
  | .v (.int i) => some (.ok (some i) ρ)
  | _ => none
def fSl (f : M R) (lo hi : M (Option Int)) : M R := f.bind fun r => lo.bind fun l => hi.bind fun u => op1 (slD l u) r
def noInt : M (Option Int) := M.ret none
def OPost (K : KW) (C : Ctl) (W : WX) (G : Hp) (σ : L2.St) (x : XR (Option Int)) (Q : Option Int → Hp → Prop) : Prop := match x with
  | .ok b ρ' => ∀ G' H', Same G G' → Sta K C G' H' σ ρ' → Q b H'
  | .ex e ρ' => ∀ c d G' H', Same G G' → Sta K C G' H' σ ρ' → ExR G' K e c d → W c d σ H'
def tDO (K : KW) (C : Ctl) (W : WX) (f : M (Option Int)) : TO := fun σ H Q => ∃ G ρ x, Sta K C G H σ ρ ∧ f ρ = some x ∧ OPost K C W G σ x Q
abbrev POd (X : Cx) (C : Ctl) (W : WX) (e : Option Expr) (f : M (Option Int)) : Prop := PO X e (tDO X.kw C W f)
theorem po_dnone : POd X C W none noInt := ⟨fun pins s σ H Q I ⟨G, ρ, x, S, hf, P⟩ => by
  cases hf
  exact po_none.run pins s σ H Q I (P G H (Same.refl _) S)⟩
theorem po_dsome (h : PD X C W e f) : POd X C W (some e) (asInt f) := ⟨fun pins s σ H Q I ⟨G, ρ, x, S, hf, P⟩ => by
  refine (po_some h).run pins s σ H Q I ?_
  rcases bind_ok hf with ⟨r, ρ1, h1, h2⟩ | ⟨q, ρ1, h1, rfl⟩
  · refine ⟨G, ρ, _, S, h1, fun v G1 H1 e1 S1 R1 => ?_⟩
    cases r with
    | v d =>
      cases d with
      | int i => cases h2; exact ⟨i, R1, P G1 H1 e1 S1⟩
      | _ => cases h2
    | _ => cases h2
  · exact ⟨G, ρ, _, S, h1, P⟩⟩
theorem slr_false : SlR X (fun _ _ _ _ _ => False) := by intro _ _ _ _ _ _ _ _ _ _ _ _ _ _ _ _ _ h; exact h.elim
theorem pd_sl {lo hi : Option Expr} {p2 : Pos} {fl fh : M (Option Int)} (ha : PD X C W a f) (hl : POd X C W lo fl) (hh : POd X C W hi fh) : PD X C W (.Subscript a (.Slice lo hi none p2) pos) (fSl f fl fh) := PE.by fun σ H Q ⟨G, ρ, x, S, hf, P⟩ => by
  rcases bind_ok hf with ⟨r1, ρ1, h1, h2⟩ | ⟨q, ρ1, h1, rfl⟩
  · rcases bind_ok h2 with ⟨l, ρ2, h3, h4⟩ | ⟨q, ρ2, h3, rfl⟩
    · rcases bind_ok h4 with ⟨u, ρ3, h5, h6⟩ | ⟨q, ρ3, h5, rfl⟩
      · obtain ⟨d, r, l1, hk, rfl⟩ := op1_ok h6
        have go : ∀ (rd : V → Option Int → Option Int → Hp → VK → Prop), SlR X rd → (∀ G H v1 Q, Sta X.kw C G H σ ρ3 → Vw X.kw G H d v1 → Ans X.kw C G H σ ρ3 r Q → rd v1 l u H Q) → ∃ t, PE X (.Subscript a (.Slice lo hi none p2) pos) t ∧ t σ H Q := fun rd hr hd =>
          ⟨_, pe_slice hr ha hl hh, ⟨G, ρ, _, S, h1, fun v1 G1 H1 e1 S1 R1 => ⟨G1, ρ1, _, S1, h3, fun G2 H2 e2 S2 => ⟨G2, ρ2, _, S2, h5, fun G3 H3 e3 S3 =>
            hd G3 H3 v1 Q S3 (S3.look (R1.later (look_nn l1) (e2.trans e3)) l1) fun v G' H' e' S' R' => P v G' H' (((e1.trans e2).trans e3).trans e') S' R'⟩⟩⟩⟩
        unfold slD at hk
        split at hk
        · cases hk
          refine go _ sl_list fun G H v1 Q S w1 q => ?_
          obtain ⟨p, xs, e1, hp, r1⟩ := w1
          exact ⟨p, xs, e1, SqL.of hp, fun p hp => ans_n q S (r1.cut l u) p hp⟩
        · split at hk
          · rename_i hz
            cases hk
            exact go _ sl_str fun G H v1 Q S w1 q => ⟨_, w1, hz.line, ans_v q S rfl⟩
          · cases hk
        · split at hk
          · rename_i hz
            cases hk
            refine go _ sl_tup fun G H v1 Q S w1 q => ?_
            obtain ⟨p, xs, e1, hp, r1⟩ := w1
            have rc := r1.cut l u
            refine ⟨p, xs, e1, same_t S.sub hp, ?_, fun p hp => ans_t q S rc p hp⟩
            intro z
            have l1 := r1.length
            have l2 := rc.length
            have l3 : (cutV xs l u).length = xs.length := by
              unfold cutV
              rw [z.1, z.2]
              simp
            omega
          · cases hk
        · cases hk
      · exact ⟨_, pe_slice slr_false ha hl hh, ⟨G, ρ, _, S, h1, fun v1 G1 H1 e1 S1 R1 => ⟨G1, ρ1, _, S1, h3, fun G2 H2 e2 S2 => ⟨G2, ρ2, _, S2, h5, fun c d G3 H3 e3 S3 R3 => P c d G3 H3 ((e1.trans e2).trans e3) S3 R3⟩⟩⟩⟩
    · exact ⟨_, pe_slice slr_false ha hl hh, ⟨G, ρ, _, S, h1, fun v1 G1 H1 e1 S1 R1 => ⟨G1, ρ1, _, S1, h3, fun c d G2 H2 e2 S2 R2 => P c d G2 H2 (e1.trans e2) S2 R2⟩⟩⟩
  · exact ⟨_, pe_slice slr_false ha hl hh, ⟨G, ρ, _, S, h1, P⟩⟩
/-! ### built-ins -/
def lenD : List D → Option R
  | [.str z] => if szOk z.length then some (.v (.int z.length)) else none
  | [.lst ds] => some (.v (.int ds.length))
  | [.scr ds] => some (.v (.int ds.length))
  | [.tup ds] => some (.v (.int ds.length))
  | _ => none
theorem vws1 {K : KW} {G H : Hp} {d : D} {vs : List V} (w : Vws K G H [d] vs) : ∃ v, vs = [v] ∧ Vw K G H d v := by
  cases w with
  | cons h t => cases t; exact ⟨_, rfl, h⟩
theorem vws2 {K : KW} {G H : Hp} {d d' : D} {vs : List V} (w : Vws K G H [d, d'] vs) : ∃ v v', vs = [v, v'] ∧ Vw K G H d v ∧ Vw K G H d' v' := by
  cases w with
  | cons h t => cases t with
    | cons h' t' => cases t'; exact ⟨_, _, rfl, h, h'⟩
theorem len_ok : OpN X (.builtin "len") lenD := by
  intro ds r h
  unfold lenD at h
  split at h
  · split at h
    · rename_i hz
      cases h
      refine ⟨_, call_len, fun C G H σ ρ vs Q S w q => ?_⟩
      obtain ⟨v, rfl, w1⟩ := vws1 w
      rw [show v = _ from w1]
      exact ⟨_, _, rfl, ⟨hz.line, rfl⟩, ans_v q S rfl⟩
    · cases h
  · cases h
    refine ⟨_, call_len, fun C G H σ ρ vs Q S w q => ?_⟩
    obtain ⟨v, rfl, p, xs, e1, hp, r1⟩ := vws1 w
    subst e1
    exact ⟨_, xs.length, rfl, .inl ⟨xs, SqL.of hp, rfl⟩, ans_v q S (by rw [r1.length]; rfl)⟩
  · cases h
    refine ⟨_, call_len, fun C G H σ ρ vs Q S w q => ?_⟩
    obtain ⟨v, rfl, p, xs, e1, hp, r1⟩ := vws1 w
    subst e1
    exact ⟨_, xs.length, rfl, .inl ⟨xs, same_l S.sub hp, rfl⟩, ans_v q S (by rw [r1.length]; rfl)⟩
  · cases h
    refine ⟨_, call_len, fun C G H σ ρ vs Q S w q => ?_⟩
    obtain ⟨v, rfl, p, xs, e1, hp, r1⟩ := vws1 w
    subst e1
    exact ⟨_, xs.length, rfl, .inr ⟨xs, same_t S.sub hp, rfl⟩, ans_v q S (by rw [r1.length]; rfl)⟩
  · cases h
def intD : List D → Option R
  | [.int i] => some (.v (.int i))
  | [.bl b] => some (.v (.int (if b then 1 else 0)))
  | [.str a] => if a.length ≤ 640 then (match PySem.intText? a with
    | some n => some (.v (.int n))
    | none => none) else none
  | _ => none
theorem int_ok : OpN X (.type "int") intD := by
  intro ds r h
  unfold intD at h
  split at h
  · cases h
    refine ⟨_, call_int1, fun C G H σ ρ vs Q S w q => ?_⟩
    obtain ⟨v, rfl, w1⟩ := vws1 w
    rw [show v = _ from w1]
    exact .inl ⟨_, rfl, ans_v q S rfl⟩
  · cases h
    refine ⟨_, call_int1, fun C G H σ ρ vs Q S w q => ?_⟩
    obtain ⟨v, rfl, w1⟩ := vws1 w
    rw [show v = _ from w1]
    exact .inr ⟨_, rfl, ans_v q S rfl⟩
  · split at h
    · rename_i hz
      split at h
      · rename_i n hn
        cases h
        refine ⟨_, call_int_str, fun C G H σ ρ vs Q S w q => ?_⟩
        obtain ⟨v, rfl, w1⟩ := vws1 w
        rw [show v = _ from w1]
        exact ⟨_, n, rfl, hn, hz, ans_v q S rfl⟩
      · cases h
    · cases h
  · cases h
def strD : List D → Option R
  | [.int i] => if i.natAbs.log2 < 1920 then some (.v (.str (toString i))) else none
  | _ => none
theorem str_ok : OpN X (.type "str") strD := by
  intro ds r h
  unfold strD at h
  split at h
  · split at h
    · rename_i hz
      cases h
      refine ⟨_, call_str_int, fun C G H σ ρ vs Q S w q => ?_⟩
      obtain ⟨v, rfl, w1⟩ := vws1 w
      rw [show v = _ from w1]
      exact ⟨_, rfl, hz, ans_v q S rfl⟩
    · cases h
  · cases h
def listD : List D → Option R
  | [.lst ds] => some (.n (.lst ds))
  | [.tup ds] => some (.n (.lst ds))
  | _ => none
theorem list_ok : OpN X (.type "list") listD := by
  intro ds r h
  unfold listD at h
  split at h
  · cases h
    refine ⟨_, call_list_of, fun C G H σ ρ vs Q S w q => ?_⟩
    obtain ⟨v, rfl, p, xs, e1, hp, r1⟩ := vws1 w
    subst e1
    exact ⟨p, xs, rfl, .inl (SqL.of hp), fun p hp => ans_n q S r1 p hp⟩
  · cases h
    refine ⟨_, call_list_of, fun C G H σ ρ vs Q S w q => ?_⟩
    obtain ⟨v, rfl, p, xs, e1, hp, r1⟩ := vws1 w
    subst e1
    exact ⟨p, xs, rfl, .inr (same_t S.sub hp), fun p hp => ans_n q S r1 p hp⟩
  · cases h
def tupleD : List D → Option R
  | [.lst ds] => some (.v (.tup ds))
  | [.tup ds] => some (.v (.tup ds))
  | _ => none
theorem tuple_ok : OpN X (.type "tuple") tupleD := by
  intro ds r h
  unfold tupleD at h
  split at h
  · cases h
    refine ⟨_, call_tuple_of, fun C G H σ ρ vs Q S w q => ?_⟩
    obtain ⟨v, rfl, p, xs, e1, hp, r1⟩ := vws1 w
    subst e1
    exact ⟨p, xs, rfl, .inl ⟨SqL.of hp, fun p hp => ans_t q S r1 p hp⟩⟩
  · cases h
    refine ⟨_, call_tuple_of, fun C G H σ ρ vs Q S w q => ?_⟩
    obtain ⟨v, rfl, w1⟩ := vws1 w
    obtain ⟨p, xs, e1, hp, r1⟩ := id w1
    subst e1
    exact ⟨p, xs, rfl, .inr ⟨same_t S.sub hp, ans_v q S w1⟩⟩
  · cases h
def absD : List D → Option R
  | [.int i] => some (.v (.int (if i < 0 then -i else i)))
  | _ => none
theorem abs_ok : OpN X (.builtin "abs") absD := by
  intro ds r h
  unfold absD at h
  split at h
  · cases h
    refine ⟨_, call_abs, fun C G H σ ρ vs Q S w q => ?_⟩
    obtain ⟨v, rfl, w1⟩ := vws1 w
    rw [show v = _ from w1]
    exact ⟨_, rfl, ans_v q S rfl⟩
  · cases h
def min2D : List D → Option R
  | [.int i, .int j] => some (.v (.int (if j < i then j else i)))
  | _ => none
theorem min2_ok (hc : X.calm = true) : OpN X (.builtin "min") min2D := by
  intro ds r h
  unfold min2D at h
  split at h
  · cases h
    refine ⟨_, call_min2 hc, fun C G H σ ρ vs Q S w q => ?_⟩
    obtain ⟨v, v', rfl, w1, w2⟩ := vws2 w
    rw [show v = _ from w1, show v' = _ from w2]
    exact ⟨_, _, rfl, ans_v q S rfl⟩
  · cases h
def max2D : List D → Option R
  | [.int i, .int j] => some (.v (.int (if j > i then j else i)))
  | _ => none
theorem max2_ok (hc : X.calm = true) : OpN X (.builtin "max") max2D := by
  intro ds r h
  unfold max2D at h
  split at h
  · cases h
    refine ⟨_, call_max2 hc, fun C G H σ ρ vs Q S w q => ?_⟩
    obtain ⟨v, v', rfl, w1, w2⟩ := vws2 w
    rw [show v = _ from w1, show v' = _ from w2]
    exact ⟨_, _, rfl, ans_v q S rfl⟩
  · cases h
/-- a list of boolL -/
def boolL : List D → Option (List Bool)
  | [] => some []
  | .bl b :: ds => (match boolL ds with
    | some bs => some (b :: bs)
    | none => none)
  | _ => none
theorem boolL_rep {K : KW} {G : Hp} : ∀ {ds : List D} {bs : List Bool} {vs : List V}, boolL ds = some bs → RepL K G ds vs → vs = bs.map V.bl
  | [], bs, vs, e, h => by cases e; exact h
  | d :: ds, bs, _, e, ⟨v, r, h1, h2, h3⟩ => by
    unfold boolL at e
    cases d with
    | bl b =>
      simp only at e
      cases e2 : boolL ds with
      | none => rw [e2] at e; cases e
      | some bs1 =>
        rw [e2] at e
        cases e
        rw [h1, show v = _ from h2, boolL_rep e2 h3]; rfl
    | _ => cases e
def allD : List D → Option R
  | [.lst ds] => (match boolL ds with
    | some bs => some (.v (.bl (bs.all id)))
    | none => none)
  | _ => none
def anyD : List D → Option R
  | [.lst ds] => (match boolL ds with
    | some bs => some (.v (.bl (bs.any id)))
    | none => none)
  | _ => none
theorem all_ok (hc : X.calm = true) : OpN X (.builtin "all") allD := by
  intro ds r h
  unfold allD at h
  split at h
  · split at h
    · rename_i bs hb
      cases h
      refine ⟨_, cr_all hc, fun C G H σ ρ vs Q S w q => ?_⟩
      obtain ⟨v, rfl, p, xs, e1, hp, r1⟩ := vws1 w
      subst e1
      rw [boolL_rep hb r1] at hp
      exact ⟨p, bs, rfl, SqL.of hp, ans_v q S rfl⟩
    · cases h
  · cases h
theorem any_ok (hc : X.calm = true) : OpN X (.builtin "any") anyD := by
  intro ds r h
  unfold anyD at h
  split at h
  · split at h
    · rename_i bs hb
      cases h
      refine ⟨_, cr_any hc, fun C G H σ ρ vs Q S w q => ?_⟩
      obtain ⟨v, rfl, p, xs, e1, hp, r1⟩ := vws1 w
      subst e1
      rw [boolL_rep hb r1] at hp
      exact ⟨p, bs, rfl, SqL.of hp, ans_v q S rfl⟩
    · cases h
  · cases h
/-- a list of intL, of strL -/
def intL : List D → Option (List Int)
  | [] => some []
  | .int b :: ds => (match intL ds with
    | some bs => some (b :: bs)
    | none => none)
  | _ => none
theorem intL_rep {K : KW} {G : Hp} : ∀ {ds : List D} {bs : List Int} {vs : List V}, intL ds = some bs → RepL K G ds vs → vs = bs.map V.int
  | [], bs, vs, e, h => by cases e; exact h
  | d :: ds, bs, _, e, ⟨v, r, h1, h2, h3⟩ => by
    unfold intL at e
    cases d with
    | int b =>
      simp only at e
      cases e2 : intL ds with
      | none => rw [e2] at e; cases e
      | some bs1 =>
        rw [e2] at e
        cases e
        rw [h1, show v = _ from h2, intL_rep e2 h3]; rfl
    | _ => cases e
def strL : List D → Option (List Str)
  | [] => some []
  | .str b :: ds => (match strL ds with
    | some bs => some (b :: bs)
    | none => none)
  | _ => none
theorem strL_rep {K : KW} {G : Hp} : ∀ {ds : List D} {bs : List Str} {vs : List V}, strL ds = some bs → RepL K G ds vs → vs = bs.map V.str
  | [], bs, vs, e, h => by cases e; exact h
  | d :: ds, bs, _, e, ⟨v, r, h1, h2, h3⟩ => by
    unfold strL at e
    cases d with
    | str b =>
      simp only at e
      cases e2 : strL ds with
      | none => rw [e2] at e; cases e
      | some bs1 =>
        rw [e2] at e
        cases e
        rw [h1, show v = _ from h2, strL_rep e2 h3]; rfl
    | _ => cases e
def sumD : List D → Option R
  | [.lst ds] => (match intL ds with
    | some ns => some (.v (.int ns.sum))
    | none => none)
  | _ => none
theorem sum_ok (hc : X.calm = true) : OpN X (.builtin "sum") sumD := by
  intro ds r h
  unfold sumD at h
  split at h
  · split at h
    · rename_i bs hb
      cases h
      refine ⟨_, cr_sum hc, fun C G H σ ρ vs Q S w q => ?_⟩
      obtain ⟨v, rfl, p, xs, e1, hp, r1⟩ := vws1 w
      subst e1
      rw [intL_rep hb r1] at hp
      exact ⟨p, bs, rfl, SqL.of hp, ans_v q S rfl⟩
    · cases h
  · cases h
/-! ### isinstance, built-in types -/
def tyN : D → Option String
  | .non => some "NoneType"
  | .bl _ => some "bool"
  | .int _ => some "int"
  | .str _ => some "str"
  | .lst _ => some "list"
  | .tup _ => some "tuple"
  | _ => none
def tyLe (a b : String) : Option Bool :=
  if b = "int" then (if a = "int" ∨ a = "bool" then some true else if a = "NoneType" ∨ a = "str" ∨ a = "list" ∨ a = "tuple" then some false else none)
  else if b = "bool" ∨ b = "str" ∨ b = "list" ∨ b = "tuple" then (if a = b then some true else if a = "NoneType" ∨ a = "bool" ∨ a = "int" ∨ a = "str" ∨ a = "list" ∨ a = "tuple" then some false else none)
  else none
theorem tyLe_ok {a b : String} {r : Bool} (h : tyLe a b = some r) : kitB a b = some r := by
  unfold tyLe at h
  split at h
  · subst b
    split at h
    · rename_i hz
      cases h
      rcases hz with rfl | rfl <;> decide +kernel
    · split at h
      · rename_i hz
        cases h
        rcases hz with rfl | rfl | rfl | rfl <;> decide +kernel
      · cases h
  · split at h
    · rename_i hb
      split at h
      · subst a
        cases h
        rcases hb with rfl | rfl | rfl | rfl <;> decide +kernel
      · rename_i hn
        split at h
        · rename_i hz
          cases h
          rcases hb with rfl | rfl | rfl | rfl <;> rcases hz with rfl | rfl | rfl | rfl | rfl | rfl <;> first | exact absurd rfl hn | decide +kernel
        · cases h
    · cases h
def isiD : List D → Option R
  | [d, .ty T] => (match tyN d with
    | some n => (match tyLe n T with
      | some b => some (.v (.bl b))
      | none => none)
    | none => none)
  | _ => none
theorem tyN_ok {K : KW} {G H : Hp} (e : Same G H) {d : D} {v : V} {n : String} (h : tyN d = some n) (w : Vw K G H d v) : TyX K H v (.type n) := by
  cases d with
  | non => cases h; rw [show v = _ from w]; exact .base .non
  | bl b => cases h; rw [show v = _ from w]; exact .base (.bl b)
  | int b => cases h; rw [show v = _ from w]; exact .base (.int b)
  | str b => cases h; rw [show v = _ from w]; exact .base (.str b)
  | lst ds => cases h; obtain ⟨a, xs, e1, h1, _⟩ := w; rw [e1]; exact .base (.lst h1)
  | tup ds =>
    cases h
    obtain ⟨a, xs, e1, h1, _⟩ := w
    rw [e1]
    rcases same_t e h1 with (h | ⟨o, h⟩) | ⟨o, its, n, h, c, _⟩
    · exact .base (.tup h)
    · exact .fTuple h
    · exact .kTuple h c
  | _ => cases h
theorem isi_ok : OpN X (.builtin "isinstance") isiD := by
  intro ds r h
  unfold isiD at h
  split at h
  · split at h
    · rename_i n hn
      split at h
      · rename_i b hb
        cases h
        refine ⟨_, call_isi, fun C G H σ ρ vs Q S w q => ?_⟩
        obtain ⟨v, v', rfl, w1, w2⟩ := vws2 w
        rw [show v' = _ from w2]
        exact ⟨_, _, _, _, b, rfl, .ty _, tyN_ok S.sub hn w1, kit_ty (tyLe_ok hb), ans_v q S rfl⟩
      · cases h
    · cases h
  · cases h
end
end DL
set_option Elab.async false
set_option linter.all false
set_option maxRecDepth 100000
set_option maxHeartbeats 4000000
namespace DL
open PySem PySem.Spec PyProof.Rows L2

/-! ### methods of texts -/
def splitD (a : Str) : D → Option R
  | .str b => if (b.length == 0) = false ∧ szOk (a.length + 2) then some (.n (.lst ((Txt.split a b).map D.str))) else none
  | _ => none
def joinL (a : Str) (ds : List D) : Option R := match strL ds with
  | some ys => if szOk ((ys.map (·.length)).sum + ys.length * a.length) then some (.v (.str (Txt.join a ys))) else none
  | none => none
def joinD (a : Str) : D → Option R
  | .lst ds => joinL a ds
  | .tup ds => joinL a ds
  | _ => none
def fStrM (k : Str → D → Option R) (f g : M R) : M R := f.bind fun r => match r with
  | .v (.str a) => g.bind (op1 (k a))
  | _ => fun _ => none
/-- a method that changes its list: content, arguments -> content, value -/
def appendM : D → List D → Option (D × D)
  | .lst xs, [d] => if szOk (xs.length + 1) then some (.lst (xs ++ [d]), .non) else none
  | _, _ => none
def popM : D → List D → Option (D × D)
  | .lst xs, [] => (match xs[xs.length - 1]? with
    | some d => some (.lst xs.dropLast, d)
    | none => none)
  | _, _ => none
def popAtM : D → List D → Option (D × D)
  | .lst xs, [.int i] => if -(2 ^ 63) ≤ i ∧ i < 2 ^ 63 then (match ixN xs.length i with
    | some k => (match xs[k]? with
      | some d => some (.lst (xs.eraseIdx k), d)
      | none => none)
    | none => none) else none
  | _, _ => none
instance {i : Int} : Decidable (-(2 ^ 63) ≤ i ∧ i < 2 ^ 63) := inferInstance
def reverseM : D → List D → Option (D × D)
  | .lst xs, [] => some (.lst xs.reverse, .non)
  | _, _ => none
def clearM : D → List D → Option (D × D)
  | .lst xs, [] => some (.lst [], .non)
  | _, _ => none
def mutR (m : D → List D → Option (D × D)) (i : Nat) (rs : List R) : M R := fun ρ => match ρ.obj i with
  | some d => (match settled rs with
    | some ds => (match m d ds with
      | some (d', q) => some (.ok (.v q) (ρ.put i d'))
      | none => none)
    | none => none)
  | none => none
def fMut (m : D → List D → Option (D × D)) (i : Nat) (fs : List (M R)) : M R := (evs fs).bind (mutR m i)
theorem mutR_ok {m : D → List D → Option (D × D)} {i : Nat} {rs : List R} {ρ : EV} {x : XR R} (h : mutR m i rs ρ = some x) : ∃ d ds d' q, ρ.obj i = some d ∧ settled rs = some ds ∧ m d ds = some (d', q) ∧ x = .ok (.v q) (ρ.put i d') := by
  unfold mutR at h
  cases e1 : ρ.obj i with
  | none => rw [e1] at h; cases h
  | some d =>
    rw [e1] at h
    cases e2 : settled rs with
    | none => simp only [e2] at h; cases h
    | some ds =>
      simp only [e2] at h
      cases e3 : m d ds with
      | none => simp only [e3] at h; cases h
      | some p =>
        obtain ⟨d', q⟩ := p
        simp only [e3] at h
        exact ⟨d, ds, d', q, rfl, rfl, e3, (Option.some.inj h).symm⟩
theorem eraseIdx_rep {K : KW} {G : Hp} : ∀ {ds : List D} {vs : List V} (k : Nat), RepL K G ds vs → RepL K G (ds.eraseIdx k) (vs.eraseIdx k)
  | [], vs, k, h => by rw [show vs = [] from h]; simp [RepL]
  | _ :: _, _, 0, ⟨v, r, h1, _, h3⟩ => by rw [h1]; exact h3
  | _ :: _, _, k + 1, ⟨v, r, h1, h2, h3⟩ => by rw [h1]; exact ⟨v, _, rfl, h2, eraseIdx_rep k h3⟩
theorem dropLast_rep {K : KW} {G : Hp} {ds : List D} {vs : List V} (r : RepL K G ds vs) : RepL K G ds.dropLast vs.dropLast := by
  rw [List.dropLast_eq_take, List.dropLast_eq_take, r.length]
  exact RepL.take _ r
section
variable {X : Cx} {C : Ctl} {W : WX} {e a b c o : Expr} {es rest : List Expr} {pos cpos apos pn : Pos} {f g h : M R} {fs : List (M R)} {t : M Bool}
theorem strm_go {rd : V → List V → Hp → VK → Prop} {k : Str → D → Option R} {σ : L2.St} {H : Hp} {Q : VK} (q : tD X.kw C W (fStrM k f g) σ H Q)
    (hk : ∀ a d r, k a d = some r → ∀ C G H σ ρ v Q, Sta X.kw C G H σ ρ → Vw X.kw G H d v → Ans X.kw C G H σ ρ r Q → rd (.str a) [v] H Q) : tM1 rd (tD X.kw C W f) (tD X.kw C W g) σ H Q := by
  obtain ⟨G, ρ, x, S, hf, P⟩ := q
  rcases bind_ok hf with ⟨r1, ρ1, h1, h2⟩ | ⟨q, ρ1, h1, rfl⟩
  · refine ⟨G, ρ, _, S, h1, fun v1 G1 H1 e1 S1 R1 => ?_⟩
    cases r1 with
    | v d =>
      cases d with
      | str a =>
        rcases bind_ok h2 with ⟨r2, ρ2, h3, h4⟩ | ⟨q, ρ2, h3, rfl⟩
        · obtain ⟨d2, r, l2, hk2, rfl⟩ := op1_ok h4
          refine ⟨⟨a, R1⟩, G1, ρ1, _, S1, h3, fun v2 G2 H2 e2 S2 R2 => ?_⟩
          rw [show v1 = _ from R1]
          exact hk a d2 r hk2 C G2 H2 σ ρ2 v2 Q S2 (S2.look R2 l2) fun v G' H' e' S' R' => P v G' H' ((e1.trans e2).trans e') S' R'
        · exact ⟨⟨a, R1⟩, G1, ρ1, _, S1, h3, fun c d G2 H2 e2 S2 R2 => P c d G2 H2 (e1.trans e2) S2 R2⟩
      | _ => cases h2
    | _ => cases h2
  · exact ⟨G, ρ, _, S, h1, P⟩
theorem pd_split (ho : PD X C W o f) (he : PD X C W e g) (hs : starEach [e] X.env = [(false, eval e X.env)] := by rfl) (hbase : attributeBase o "split" X.env (eval o X.env) = eval o X.env := by rfl) (hline : (apos.endLine == pos.line) = true := by rfl) :
    PD X C W (.Call (.Attribute o "split" apos) [e] [] pos) (fStrM splitD f g) := PE.of (pe_split ho he hs hbase hline) fun σ H Q q => strm_go q fun a d r hk C G H σ ρ v Q S w q => by
  unfold splitD at hk
  split at hk
  · split at hk
    · rename_i hz
      cases hk
      rw [show v = _ from w]
      refine ⟨a, _, rfl, rfl, hz.1, hz.2.line, fun p hp => ?_⟩
      refine ans_n q S ?_ p hp
      have rr : ∀ ys : List Str, RepL X.kw G (ys.map D.str) (ys.map V.str) := fun ys => by
        induction ys with
        | nil => exact RepL.nil
        | cons y ys ih => exact RepL.cons rfl ih
      exact rr _
    · cases hk
  · cases hk
theorem pd_join (ho : PD X C W o f) (he : PD X C W e g) (hs : starEach [e] X.env = [(false, eval e X.env)] := by rfl) (hbase : attributeBase o "join" X.env (eval o X.env) = eval o X.env := by rfl) (hline : (apos.endLine == pos.line) = true := by rfl) :
    PD X C W (.Call (.Attribute o "join" apos) [e] [] pos) (fStrM joinD f g) := PE.of (pe_join ho he hs hbase hline) fun σ H Q q => strm_go q fun a d r hk C G H σ ρ v Q S w q => by
  unfold joinD at hk
  split at hk
  · unfold joinL at hk
    split at hk
    · rename_i ys hy
      split at hk
      · rename_i hz
        cases hk
        obtain ⟨p, xs, e1, hp, r1⟩ := w
        rw [strL_rep hy r1] at hp
        exact ⟨a, p, ys, rfl, by rw [e1], .inl (SqL.of hp), hz, ans_v q S rfl⟩
      · cases hk
    · cases hk
  · unfold joinL at hk
    split at hk
    · rename_i ys hy
      split at hk
      · rename_i hz
        cases hk
        obtain ⟨p, xs, e1, hp, r1⟩ := w
        rw [strL_rep hy r1] at hp
        exact ⟨a, p, ys, rfl, by rw [e1], .inr (same_t S.sub hp), hz, ans_v q S rfl⟩
      · cases hk
    · cases hk
  · cases hk
/-! ### methods that change the list of a slot -/
def MutOk (r : V → List V → Hp → VK → Prop) (m : D → List D → Option (D × D)) : Prop := ∀ (K : KW) (G H : Hp) d ds d' q a vs Q, m d ds = some (d', q) → View K G H d a → RepL K G ds vs →
  (∀ o' v, View K G (upd H a o') d' a → Rep K G q v → Q v (upd H a o')) → r (.ref a) vs H Q
/-- the slot holds an object now -/
def hasObj (i : Nat) (f : M R) : M R := fun ρ => match ρ.obj i with
  | some (.lst _) => f ρ
  | _ => none
theorem hasObj_ok {i : Nat} {f : M R} {ρ : EV} {x : XR R} (h : hasObj i f ρ = some x) : f ρ = some x ∧ ∃ d, ρ.obj i = some d ∧ ∃ xs, d = .lst xs := by
  unfold hasObj at h
  cases e : ρ.obj i with
  | none => rw [e] at h; cases h
  | some d =>
    rw [e] at h
    cases d with
    | lst xs => exact ⟨h, _, rfl, xs, rfl⟩
    | _ => cases h
def fMutL (m : D → List D → Option (D × D)) (i : Nat) (fs : List (M R)) : M R := hasObj i (fMut m i fs)
theorem mutL_go {rd : V → List V → Hp → VK → Prop} {m : D → List D → Option (D × D)} {i : Nat} (hm : MutOk rd m) {σ : L2.St} {H : Hp} {Q : VK} (q : tD X.kw C W (fMutL m i fs) σ H Q) : tBM X.kw "list" rd (tVar i) (tDA X.kw C W (evs fs)) σ H Q := by
  obtain ⟨G, ρ, x, S, hf, P⟩ := q
  obtain ⟨hf, d0, ho0, ys, e0⟩ := hasObj_ok hf
  have hs : ∃ v, σ[i]? = some (some v) := by
    unfold EV.obj at ho0
    cases e : ρ.sl[i]? with
    | none => rw [e] at ho0; cases ho0
    | some so =>
      cases so with
      | none => rw [e] at ho0; cases ho0
      | some s => obtain ⟨v, hv, _⟩ := S.slot i s e; exact ⟨v, hv⟩
  obtain ⟨v, hv⟩ := hs
  obtain ⟨a, ea, ga, wa⟩ := S.objAt ho0 hv
  subst ea e0
  obtain ⟨xs, hx, _⟩ := wa
  refine ⟨.ref a, hv, .inl ⟨rfl, _, SqL.of hx⟩, ?_⟩
  refine tDA.seq S hf (fun e ρ' ex => by subst ex; exact P) fun rs ρ1 vs G1 H1 e1 S1 R1 h2 => ?_
  obtain ⟨d, ds, d', q, o1, o2, o3, rfl⟩ := mutR_ok h2
  obtain ⟨a', ea', ga', wa'⟩ := S1.objAt o1 hv
  cases ea'
  exact hm X.kw G1 H1 d ds d' q a vs Q o3 wa' (R1.settled o2) fun o' v w' r' => P v G1 _ e1 (S1.write o1 hv w') r'
theorem append_mut : MutOk rAppend appendM := by
  intro K G H d ds d' q a vs Q hm w r k
  unfold appendM at hm
  split at hm
  · split at hm
    · rename_i hz
      cases hm
      obtain ⟨xs, hx, rx⟩ := w
      obtain ⟨v, t, e1, rv, rt⟩ := r
      cases (show t = [] from rt)
      have hz2 := hz.line
      rw [rx.length] at hz2
      exact ⟨a, xs, v, rfl, e1, hx, hz2, k _ _ ⟨_, upd_same, rx.append (RepL.cons rv RepL.nil)⟩ rfl⟩
    · cases hm
  · cases hm
theorem pop_mut : MutOk rPop popM := by
  intro K G H d ds d' q a vs Q hm w r k
  unfold popM at hm
  split at hm
  · split at hm
    · rename_i y hy
      cases hm
      obtain ⟨xs, hx, rx⟩ := w
      obtain ⟨v, hv, rv⟩ := rx.get hy
      rw [rx.length] at hv
      exact ⟨a, xs, v, rfl, r, hx, hv, k _ _ ⟨_, upd_same, dropLast_rep rx⟩ rv⟩
    · cases hm
  · cases hm
theorem popAt_mut : MutOk rPopAt popAtM := by
  intro K G H d ds d' q a vs Q hm w r k
  unfold popAtM at hm
  split at hm
  · split at hm
    · rename_i hz
      split at hm
      · rename_i kk hk
        split at hm
        · rename_i y hy
          cases hm
          obtain ⟨xs, hx, rx⟩ := w
          obtain ⟨v, t, e1, rv, rt⟩ := r
          cases (show t = [] from rt)
          obtain ⟨u, hu, ru⟩ := rx.get hy
          rw [rx.length] at hk
          exact ⟨a, xs, _, kk, u, rfl, by rw [e1, show v = _ from rv], hx, hz.1, hz.2, (ixN_seq hk).1, hu, k _ _ ⟨_, upd_same, eraseIdx_rep kk rx⟩ ru⟩
        · cases hm
      · cases hm
    · cases hm
  · cases hm
theorem reverse_mut : MutOk rReverse reverseM := by
  intro K G H d ds d' q a vs Q hm w r k
  unfold reverseM at hm
  split at hm
  · cases hm
    obtain ⟨xs, hx, rx⟩ := w
    exact ⟨a, xs, rfl, r, hx, k _ _ ⟨_, upd_same, rx.reverse⟩ rfl⟩
  · cases hm
theorem clear_mut : MutOk rClear clearM := by
  intro K G H d ds d' q a vs Q hm w r k
  unfold clearM at hm
  split at hm
  · cases hm
    obtain ⟨xs, hx, rx⟩ := w
    exact ⟨a, xs, rfl, r, hx, k _ _ ⟨_, upd_same, RepL.nil⟩ rfl⟩
  · cases hm
section
variable {i : Nat} {x : Str}
theorem pd_append (ho : PE X o (tVar i)) (ha : PAs X C W (e :: es) (evs fs)) (hbase : attributeBase o "append" X.env (eval o X.env) = eval o X.env := by rfl)
    (hfew : ((backTo cpos (starEach (e :: es) X.env)).all (fun x => !x.1) && (backToKw cpos (keywordEach [] X.env)).all (fun x => x.1.isSome)
      && decide ((e :: es).length + ([] : List Keyword).length + (if ([] : List Keyword).isEmpty then 0 else 1) < 30)) = true := by rfl)
    (hline : (apos.endLine == cpos.line) = true := by rfl) (hs : starEach (e :: es) X.env = (false, eval e X.env) :: starEach es X.env := by rfl) (hplain : (backTo cpos (starEach es X.env)).any (·.1) = false := by rfl) :
    PD X C W (.Call (.Attribute o "append" apos) (e :: es) [] cpos) (fMutL appendM i fs) :=
  PE.of (pe_bm PySem.F.plainAttrs_list PySem.F.slot_list_append PySem.F.type_list_append mt_append ho ha hbase hfew hline hs hplain) fun σ H Q q => mutL_go append_mut q
theorem pd_popAt (ho : PE X o (tVar i)) (ha : PAs X C W (e :: es) (evs fs)) (hbase : attributeBase o "pop" X.env (eval o X.env) = eval o X.env := by rfl)
    (hfew : ((backTo cpos (starEach (e :: es) X.env)).all (fun x => !x.1) && (backToKw cpos (keywordEach [] X.env)).all (fun x => x.1.isSome)
      && decide ((e :: es).length + ([] : List Keyword).length + (if ([] : List Keyword).isEmpty then 0 else 1) < 30)) = true := by rfl)
    (hline : (apos.endLine == cpos.line) = true := by rfl) (hs : starEach (e :: es) X.env = (false, eval e X.env) :: starEach es X.env := by rfl) (hplain : (backTo cpos (starEach es X.env)).any (·.1) = false := by rfl) :
    PD X C W (.Call (.Attribute o "pop" apos) (e :: es) [] cpos) (fMutL popAtM i fs) :=
  PE.of (pe_bm PySem.F.plainAttrs_list PySem.F.slot_list_pop PySem.F.type_list_pop mt_popAt ho ha hbase hfew hline hs hplain) fun σ H Q q => mutL_go popAt_mut q
theorem mut0_go {rd : V → List V → Hp → VK → Prop} {m : D → List D → Option (D × D)} {i : Nat} (hm : MutOk rd m) {σ : L2.St} {H : Hp} {Q : VK} (q : tD X.kw C W (fMutL m i []) σ H Q) : tBM0 X.kw "list" rd (tVar i) σ H Q := by
  obtain ⟨G, ρ, x, S, hf, P⟩ := q
  obtain ⟨hf, d0, ho0, ys, e0⟩ := hasObj_ok hf
  have hs : ∃ v, σ[i]? = some (some v) := by
    unfold EV.obj at ho0
    cases e : ρ.sl[i]? with
    | none => rw [e] at ho0; cases ho0
    | some so =>
      cases so with
      | none => rw [e] at ho0; cases ho0
      | some s => obtain ⟨v, hv, _⟩ := S.slot i s e; exact ⟨v, hv⟩
  obtain ⟨v, hv⟩ := hs
  obtain ⟨a, ea, ga, wa⟩ := S.objAt ho0 hv
  subst ea e0
  obtain ⟨xs, hx, rx⟩ := id wa
  refine ⟨.ref a, hv, .inl ⟨rfl, _, SqL.of hx⟩, ?_⟩
  have h2 : mutR m i [] ρ = some x := hf
  obtain ⟨d, ds, d', q, o1, o2, o3, rfl⟩ := mutR_ok h2
  cases o2
  rw [ho0] at o1
  cases o1
  exact hm X.kw G H _ [] d' q a [] Q o3 wa RepL.nil fun o' v w' r' => P v G _ (Same.refl _) (S.write ho0 hv w') r'
theorem pd_pop (ho : PE X o (tVar i)) (hbase : attributeBase o "pop" X.env (eval o X.env) = eval o X.env := by rfl) (hline : (apos.endLine == cpos.line) = true := by rfl) : PD X C W (.Call (.Attribute o "pop" apos) [] [] cpos) (fMutL popM i []) :=
  PE.of (pe_bm0 PySem.F.plainAttrs_list PySem.F.slot_list_pop PySem.F.type_list_pop mt_pop ho hbase hline) fun σ H Q q => mut0_go pop_mut q
theorem pd_reverse (ho : PE X o (tVar i)) (hbase : attributeBase o "reverse" X.env (eval o X.env) = eval o X.env := by rfl) (hline : (apos.endLine == cpos.line) = true := by rfl) : PD X C W (.Call (.Attribute o "reverse" apos) [] [] cpos) (fMutL reverseM i []) :=
  PE.of (pe_bm0 PySem.F.plainAttrs_list PySem.F.slot_list_reverse PySem.F.type_list_reverse mt_reverse ho hbase hline) fun σ H Q q => mut0_go reverse_mut q
theorem pd_clear (ho : PE X o (tVar i)) (hbase : attributeBase o "clear" X.env (eval o X.env) = eval o X.env := by rfl) (hline : (apos.endLine == cpos.line) = true := by rfl) : PD X C W (.Call (.Attribute o "clear" apos) [] [] cpos) (fMutL clearM i []) :=
  PE.of (pe_bm0 PySem.F.plainAttrs_list PySem.F.slot_list_clear PySem.F.type_list_clear mt_clear ho hbase hline) fun σ H Q q => mut0_go clear_mut q
end
end
end DL
set_option Elab.async false
set_option linter.all false
set_option maxRecDepth 100000
set_option maxHeartbeats 4000000
namespace DL
open PySem PySem.Spec PyProof.Rows L2

/-! ### statements -/
def fSkip : F := fun ρ => some (.nx ρ)
def fSeq (f g : F) : F := fun ρ => match f ρ with
  | some (.nx ρ') => g ρ'
  | o => o
def fKill (ks : List Nat) (f : F) : F := fun ρ => match f ρ with
  | some (.nx ρ') => some (.nx (ρ'.kills ks))
  | o => o
def ofM {α : Type} (f : M α) (k : α → EV → Option Flow) : F := fun ρ => match f ρ with
  | some (.ok a ρ') => k a ρ'
  | some (.ex e ρ') => some (.ex e ρ')
  | none => none
def fExpr (f : M R) : F := ofM f fun _ ρ => some (.nx ρ)
def fRet (f : M R) : F := ofM f fun r ρ => match r with
  | .v d => some (.ret (.v d) ρ)
  | .n d => some (.ret (.n d) ρ)
  | .s i => (match ρ.sl[i]? with
    | some (some (.own d)) => some (.ret (.n d) (ρ.kill i))
    | _ => none)
def fRetN : F := fun ρ => some (.ret (.v .non) ρ)
def fIfS (t : M Bool) (f g : F) : F := ofM t fun b => if b = true then f else g
/-- targets -/
abbrev Tg := D → EV → Option EV
def tgN (i : Nat) : Tg := fun d ρ => some (ρ.set i (.val d))
def tgT (ts : List Tg) : Tg := fun d ρ => match d with
  | .tup ds => go ts ds ρ
  | _ => none
where go : List Tg → List D → EV → Option EV
  | [], [], ρ => some ρ
  | t :: ts, d :: ds, ρ => (match t d ρ with
    | some ρ' => go ts ds ρ'
    | none => none)
  | _, _, _ => none
def tgL (ts : List Tg) : Tg := fun d ρ => match d with
  | .lst ds => tgT.go ts ds ρ
  | _ => none
def fSetN (i : Nat) (f : M R) : F := ofM f fun r ρ => match r with
  | .v d => some (.nx (ρ.set i (.val d)))
  | .n d => some (.nx (ρ.set i (.own d)))
  | .s _ => none
def fSetT (t : Tg) (f : M R) : F := ofM f fun r ρ => match r with
  | .v d => (match t d ρ with
    | some ρ' => some (.nx ρ')
    | none => none)
  | _ => none
/-- a loop over data -/
def forL (t : Tg) (b : F) (ks : List Nat) : List D → F
  | [] => fun ρ => some (.nx ρ)
  | d :: ds => fun ρ => match t d ρ with
    | none => none
    | some ρ1 => (match b ρ1 with
      | some (.nx ρ2) => forL t b ks ds (ρ2.kills ks)
      | some (.ct ρ2) => forL t b ks ds (ρ2.kills ks)
      | some (.bk ρ2) => some (.nx ρ2)
      | o => o)
def fFor (src : M (List D)) (t : Tg) (b : F) (ks : List Nat) : F := ofM src fun ds => forL t b ks ds
def fWhile (t : M Bool) (b : F) (ks : List Nat) : Nat → F
  | 0 => fun _ => none
  | n + 1 => fun ρ => match t ρ with
    | some (.ok true ρ1) => (match b ρ1 with
      | some (.nx ρ2) => fWhile t b ks n (ρ2.kills ks)
      | some (.ct ρ2) => fWhile t b ks n (ρ2.kills ks)
      | some (.bk ρ2) => some (.nx ρ2)
      | o => o)
    | some (.ok false ρ1) => some (.nx ρ1)
    | some (.ex e ρ') => some (.ex e ρ')
    | none => none
def fNever : F := fun _ => none

section
variable {X : Cx} {C : Ctl} {W : WX} {e a b c o : Expr} {es rest : List Expr} {st : Stmt} {sts sts2 : List Stmt} {pos : Pos} {f g h : M R} {fs : List (M R)} {t : M Bool} {p q : F} {ks : List Nat}
theorem SPost.mono {K : KW} {G G1 : Hp} {x : Flow} {E : Ends} (P : SPost K C W G x E) (e : Same G G1) : SPost K C W G1 x E := by
  cases x with
  | nx ρ => exact fun σ G' H' e' S => P σ G' H' (e.trans e') S
  | ret r ρ => exact fun v σ G' H' e' S R => P v σ G' H' (e.trans e') S R
  | ex x ρ => exact fun c d σ G' H' e' S R => P c d σ G' H' (e.trans e') S R
  | bk ρ => exact fun σ G' H' e' S => P σ G' H' (e.trans e') S
  | ct ρ => exact fun σ G' H' e' S => P σ G' H' (e.trans e') S
theorem pq_of {st : Stmt} {t : TS} {f : F} (h : PS X st t) (k : ∀ D σ H, tS X.kw C W f D σ H → t D σ H) : PQ X C W st f := ⟨fun pins s σ H D I q => h.run pins s σ H D I (k D σ H q)⟩
theorem pqs_nil : PQs X C W [] fSkip := ⟨fun pins s σ H D I ⟨G, ρ, x, S, hf, P⟩ => by
  cases hf
  exact pss_nil.run pins s σ H D I (P σ G H (Same.refl _) S)⟩
theorem tS.seq {K : KW} {D : Ends} {σ : L2.St} {H : Hp} (q0 : tS K C W (fSeq p q) D σ H) : tS K C W p { D with nx := fun σ' H' => tS K C W q D σ' H' } σ H := by
  obtain ⟨G, ρ, x, S, hf, P⟩ := q0
  unfold fSeq at hf
  cases e : p ρ with
  | none => rw [e] at hf; cases hf
  | some y =>
    rw [e] at hf
    refine ⟨G, ρ, y, S, e, ?_⟩
    cases y with
    | nx ρ' => exact fun σ' G' H' e' S' => ⟨G', ρ', x, S', hf, P.mono e'⟩
    | ret r ρ' => cases hf; exact P
    | ex r ρ' => cases hf; exact P
    | bk ρ' => cases hf; exact P
    | ct ρ' => cases hf; exact P
theorem pqs_cons (h1 : PQ X C W st p) (h2 : PQs X C W sts q) : PQs X C W (st :: sts) (fSeq p q) := ⟨fun pins s σ H D I q0 => (pss_cons h1 h2).run pins s σ H D I (tS.seq q0)⟩
theorem pqs_one (h1 : PQ X C W st p) : PQs X C W [st] p := pss_one h1
theorem pq_kill (h : PQ X C W st p) (ks : List Nat) : PQ X C W st (fKill ks p) := pq_of h fun D σ H ⟨G, ρ, x, S, hf, P⟩ => by
  unfold fKill at hf
  cases e : p ρ with
  | none => rw [e] at hf; cases hf
  | some y =>
    rw [e] at hf
    refine ⟨G, ρ, y, S, e, ?_⟩
    cases y with
    | nx ρ' => cases hf; exact fun σ' G' H' e' S' => P σ' G' H' e' (S'.kills ks)
    | ret r ρ' => cases hf; exact P
    | ex r ρ' => cases hf; exact P
    | bk ρ' => cases hf; exact P
    | ct ρ' => cases hf; exact P
theorem ofM_ok {α : Type} {f : M α} {k : α → EV → Option Flow} {ρ : EV} {x : Flow} (h : ofM f k ρ = some x) : (∃ a ρ', f ρ = some (.ok a ρ') ∧ k a ρ' = some x) ∨ ∃ e ρ', f ρ = some (.ex e ρ') ∧ x = .ex e ρ' := by
  unfold ofM at h
  cases e : f ρ with
  | none => rw [e] at h; cases h
  | some y =>
    rw [e] at h
    cases y with
    | ok a ρ' => exact .inl ⟨a, ρ', rfl, h⟩
    | ex q ρ' => exact .inr ⟨q, ρ', rfl, (Option.some.inj h).symm⟩
theorem tS.ofE {K : KW} {k : R → EV → Option Flow} {D : Ends} {σ : L2.St} {H : Hp} {Q : VK} (q0 : tS K C W (ofM f k) D σ H)
    (hk : ∀ r ρ1 x v G1 H1, Sta K C G1 H1 σ ρ1 → RepR K C G1 H1 σ ρ1 r v → k r ρ1 = some x → SPost K C W G1 x D → Q v H1) : tD K C W f σ H Q := by
  obtain ⟨G, ρ, x, S, hf, P⟩ := q0
  rcases ofM_ok hf with ⟨r, ρ1, h1, h2⟩ | ⟨q, ρ1, h1, rfl⟩
  · exact ⟨G, ρ, _, S, h1, fun v G1 H1 e1 S1 R1 => hk r ρ1 x v G1 H1 S1 R1 h2 (P.mono e1)⟩
  · exact ⟨G, ρ, _, S, h1, fun c d G' H' e' S' R' => P c d σ G' H' e' S' R'⟩
theorem pq_expr (he : PD X C W e f) (hs : swapsWith e none pos.line X.env = pure false := by rfl) : PQ X C W (.Expr e pos) (fExpr f) := pq_of (ps_expr he hs) fun D σ H q0 => tS.ofE q0 fun r ρ1 x v G1 H1 S1 R1 h2 P => by
  cases h2
  exact P σ G1 H1 (Same.refl _) S1
theorem pq_doc {x j pos'} : PQ X C W (.Expr (.Constant (.str x) j pos) pos') fSkip := pq_of ps_doc fun D σ H ⟨G, ρ, x, S, hf, P⟩ => by
  cases hf
  exact P σ G H (Same.refl _) S
theorem pq_pass : PQ X C W (.Pass pos) fSkip := pq_of ps_pass fun D σ H ⟨G, ρ, x, S, hf, P⟩ => by
  cases hf
  exact P σ G H (Same.refl _) S
theorem pq_break : PQ X C W (.Break pos) (fun ρ => some (.bk ρ)) := pq_of ps_break fun D σ H ⟨G, ρ, x, S, hf, P⟩ => by
  cases hf
  exact P σ G H (Same.refl _) S
theorem pq_cont : PQ X C W (.Continue pos) (fun ρ => some (.ct ρ)) := pq_of ps_continue fun D σ H ⟨G, ρ, x, S, hf, P⟩ => by
  cases hf
  exact P σ G H (Same.refl _) S
theorem pq_never : PQ X C W st fNever := pq_of ps_never fun D σ H ⟨G, ρ, x, S, hf, P⟩ => by cases hf
theorem pqs_never : PQs X C W sts fNever := ⟨fun pins s σ H D I ⟨G, ρ, x, S, hf, P⟩ => by cases hf⟩
theorem pq_ret (he : PD X C W e f) : PQ X C W (.Return (some e) pos) (fRet f) := pq_of (ps_ret he) fun D σ H q0 => tS.ofE q0 fun r ρ1 x v G1 H1 S1 R1 h2 P => by
  cases r with
  | v d => cases h2; exact P v σ G1 H1 (Same.refl _) S1 R1
  | n d => cases h2; exact P v σ G1 H1 (Same.refl _) S1 R1
  | s i =>
    have h3 : (match ρ1.sl[i]? with
      | some (some (.own d)) => some (Flow.ret (.n d) (ρ1.kill i))
      | _ => none) = some x := h2
    cases e : ρ1.sl[i]? with
    | none => rw [e] at h3; cases h3
    | some so =>
      rw [e] at h3
      cases so with
      | none => cases h3
      | some s =>
        cases s with
        | own d =>
          cases h3
          have R1' : σ[i]? = some (some v) := R1
          obtain ⟨u, hu, a, rfl, g, h0, w⟩ := S1.slot i _ e
          rw [R1'] at hu; cases hu
          have hl : i < ρ1.sl.length := (List.getElem?_eq_some_iff.mp e).1
          refine P _ σ G1 H1 (Same.refl _) (S1.kill i) ⟨a, rfl, g, h0, w, fun j x q1 q2 => ?_⟩
          have hj : i ≠ j := fun z => by
            subst z
            simp only [EV.kill, List.getElem?_set_self hl] at q1
            cases q1
          simp only [EV.kill, List.getElem?_set_ne hj] at q1
          exact hj (S1.dist i j d x _ e q1 R1' q2)
        | val d => cases h3
        | par k => cases h3
        | xn => cases h3
theorem pq_retN : PQ X C W (.Return none pos) fRetN := pq_of ps_retN fun D σ H ⟨G, ρ, x, S, hf, P⟩ => by
  cases hf
  exact P .non σ G H (Same.refl _) S rfl
theorem pq_if (hc : PB X C W c t) (ha : PQs X C W sts p) (hb : PQs X C W sts2 q) : PQ X C W (.If c sts sts2 pos) (fIfS t p q) := pq_of (ps_if hc ha hb) fun D σ H ⟨G, ρ, x, S, hf, P⟩ => by
  rcases ofM_ok hf with ⟨r, ρ1, h1, h2⟩ | ⟨q, ρ1, h1, rfl⟩
  · refine ⟨G, ρ, _, S, h1, fun G1 H1 e1 S1 => ?_⟩
    cases r with
    | true => exact ⟨G1, ρ1, x, S1, h2, P.mono e1⟩
    | false => exact ⟨G1, ρ1, x, S1, h2, P.mono e1⟩
  · exact ⟨G, ρ, _, S, h1, fun c d G' H' e' S' R' => P c d σ G' H' e' S' R'⟩
/-! ### targets -/
/-- all slots but those at sl are as they were -/
def But (sl : List Nat) (σ σ' : L2.St) : Prop := σ'.length = σ.length ∧ ∀ i : Nat, i ∉ sl → σ'[i]? = σ[i]?
theorem But.mono {sl sl' : List Nat} {σ σ' : L2.St} (h : But sl σ σ') (m : ∀ i ∈ sl, i ∈ sl') : But sl' σ σ' := ⟨h.1, fun i hi => h.2 i fun z => hi (m i z)⟩
theorem But.trans {sl : List Nat} {σ σ' σ'' : L2.St} (h : But sl σ σ') (k : But sl σ' σ'') : But sl σ σ'' := ⟨k.1.trans h.1, fun i hi => (k.2 i hi).trans (h.2 i hi)⟩
def tGd (K : KW) (C : Ctl) (g : Tg) (sl : List Nat) : TG := fun v σ H Q => ∃ G ρ d ρ', Sta K C G H σ ρ ∧ Rep K G d v ∧ g d ρ = some ρ' ∧ ∀ σ' G' H', Same G G' → Sta K C G' H' σ' ρ' → But sl σ σ' → Q σ' H'
abbrev PGd (X : Cx) (C : Ctl) (tg : Expr) (g : Tg) (sl : List Nat) : Prop := PG X tg (tGd X.kw C g sl)
theorem PG.of {tg : Expr} {u u' : TG} (h : PG X tg u) (k : ∀ v σ H Q, u' v σ H Q → u v σ H Q) : PG X tg u' := ⟨fun pins s σ H v uu Q I r q => h.run pins s σ H v uu Q I r (k v σ H Q q)⟩
theorem pgd_name (i : Nat) {x : Str} (hN : X.N.Nodup) (hi : X.N[i]? = some x := by rfl) (hx : Loc X.env.scope x := by first | exact Or.inl rfl | exact Or.inr rfl) (hf : X.fn x = true ∨ X.env.scope.names.lookup x = some .local := by first | exact .inl rfl | exact .inr rfl | assumption) : PGd X C (.Name x pos) (tgN i) [i] :=
  PG.of (pg_name hN hi hx hf) fun v σ H Q ⟨G, ρ, d, ρ', S, r, hg, k⟩ => by
    cases hg
    exact k _ G H (Same.refl _) (S.setVal r i) ⟨by simp, fun j hj => List.getElem?_set_ne (fun z => hj (by simp [z]))⟩
inductive PGds (X : Cx) (C : Ctl) : List Expr → List Tg → TGs → List Nat → Prop where
  | nil : PGds X C [] [] gNil []
  | cons {e : Expr} {es : List Expr} {g : Tg} {gs : List Tg} {u : TGs} {s1 s2 : List Nat} (h1 : PGd X C e g s1) (h2 : PGds X C es gs u s2) (hs : (assignEach (e :: es) X.env).map (·.2) = assign e X.env :: (assignEach es X.env).map (·.2) := by rfl) : PGds X C (e :: es) (g :: gs) (gCons (tGd X.kw C g s1) u) (s1 ++ s2)
theorem tgs_go {K : KW} : ∀ {ts : List Tg} {es : List Expr} {u : TGs} {ds : List D} {vs : List V} {ρ ρ' : EV} {G H : Hp} {σ : L2.St} {Q : L2.St → Hp → Prop} {sl : List Nat}, X.kw = K → PGds X C es ts u sl → Sta K C G H σ ρ → RepL K G ds vs → tgT.go ts ds ρ = some ρ' →
    (∀ σ' G' H', Same G G' → Sta K C G' H' σ' ρ' → But sl σ σ' → Q σ' H') → u vs σ H Q := by
  intro ts
  induction ts with
  | nil =>
    intro es u ds vs ρ ρ' G H σ Q sl hK hp S r hg k
    cases hp
    cases ds with
    | nil => cases hg; exact ⟨r, k σ G H (Same.refl _) S ⟨rfl, fun _ _ => rfl⟩⟩
    | cons d ds => cases hg
  | cons t ts ih =>
    intro es u ds vs ρ ρ' G H σ Q sl hK hp S r hg k
    cases hp with
    | cons h1 h2 _ =>
      cases ds with
      | nil => cases hg
      | cons d ds =>
        obtain ⟨v, vr, e1, r1, r2⟩ := r
        unfold tgT.go at hg
        cases e2 : t d ρ with
        | none => rw [e2] at hg; cases hg
        | some ρ1 =>
          rw [e2] at hg
          subst hK
          exact ⟨v, vr, e1, G, ρ, d, ρ1, S, r1, e2, fun σ' G' H' e' S' b' => ih rfl h2 S' (r2.mono e') hg fun σ'' G'' H'' e'' S'' b'' => k σ'' G'' H'' (e'.trans e'') S'' ((b'.mono fun i hi => List.mem_append_left _ hi).trans (b''.mono fun i hi => List.mem_append_right _ hi))⟩
theorem pgds_len : ∀ {ts : List Tg} {ds : List D} {ρ ρ' : EV}, tgT.go ts ds ρ = some ρ' → ds.length = ts.length := by
  intro ts
  induction ts with
  | nil => intro ds ρ ρ' h; cases ds with
    | nil => rfl
    | cons d ds => cases h
  | cons t ts ih => intro ds ρ ρ' h; cases ds with
    | nil => cases h
    | cons d ds =>
      unfold tgT.go at h
      cases e2 : t d ρ with
      | none => rw [e2] at h; cases h
      | some ρ1 => rw [e2] at h; rw [List.length_cons, List.length_cons, ih h]
theorem pgd_tup0 {ts : List Tg} {u : TGs} {sl : List Nat} {k : Nat} (hc : X.calm = true) (hp : PGds X C es ts u sl) (hu : PGs X es u) (hn : (assignEach es X.env).length = ts.length := by rfl) (hst : (assignEach es X.env).findIdx? (·.1) = none := by rfl) : PGd X C (.Tuple es k pos) (tgT ts) sl :=
  PG.of (pg_tup hc hu hn hst) fun v σ H Q ⟨G, ρ, d, ρ', S, r, hg, kk⟩ => by
    cases d with
    | tup ds =>
      obtain ⟨a, xs, e1, h1, r1⟩ := r
      have hg' : tgT.go ts ds ρ = some ρ' := hg
      exact ⟨a, xs, e1, same_t S.sub h1, by rw [← r1.length, pgds_len hg'], tgs_go rfl hp S r1 hg' kk⟩
    | _ => cases hg
theorem pgd_lst0 {ts : List Tg} {u : TGs} {sl : List Nat} {k : Nat} (hc : X.calm = true) (hp : PGds X C es ts u sl) (hu : PGs X es u) (hn : (assignEach es X.env).length = ts.length := by rfl) (hst : (assignEach es X.env).findIdx? (·.1) = none := by rfl) : PGd X C (.Tuple es k pos) (tgL ts) sl :=
  PG.of (pg_unl hc hu hn hst) fun v σ H Q ⟨G, ρ, d, ρ', S, r, hg, kk⟩ => by
    cases d with
    | lst ds =>
      obtain ⟨a, xs, e1, h1, r1⟩ := r
      have hg' : tgT.go ts ds ρ = some ρ' := hg
      exact ⟨a, xs, e1, SqL.of (S.sub _ _ h1), by rw [← r1.length, pgds_len hg'], tgs_go rfl hp S r1 hg' kk⟩
    | _ => cases hg
theorem pgds_pgs : ∀ {es : List Expr} {ts : List Tg} {u : TGs} {sl : List Nat}, PGds X C es ts u sl → PGs X es u
  | _, _, _, _, .nil => pgs_nil
  | _, _, _, _, .cons h1 h2 hs => pgs_cons h1 (pgds_pgs h2) hs
theorem pgd_tup {ts : List Tg} {u : TGs} {sl : List Nat} {k : Nat} (hc : X.calm = true) (hp : PGds X C es ts u sl) (hn : (assignEach es X.env).length = ts.length := by rfl) (hst : (assignEach es X.env).findIdx? (·.1) = none := by rfl) : PGd X C (.Tuple es k pos) (tgT ts) sl := pgd_tup0 hc hp (pgds_pgs hp) hn hst
theorem pgd_lst {ts : List Tg} {u : TGs} {sl : List Nat} {k : Nat} (hc : X.calm = true) (hp : PGds X C es ts u sl) (hn : (assignEach es X.env).length = ts.length := by rfl) (hst : (assignEach es X.env).findIdx? (·.1) = none := by rfl) : PGd X C (.Tuple es k pos) (tgL ts) sl := pgd_lst0 hc hp (pgds_pgs hp) hn hst
/-! ### assignments -/
theorem pq_set (i : Nat) {x : Str} {pos' : Pos} (hN : X.N.Nodup) (he : PD X C W e f) (hi : X.N[i]? = some x := by rfl) (hx : Loc X.env.scope x := by first | exact Or.inl rfl | exact Or.inr rfl) (hs : swapsWith e (some (.Name x pos')) pos.line X.env = pure false := by rfl) (hf : X.fn x = true ∨ X.env.scope.names.lookup x = some .local := by first | exact .inl rfl | exact .inr rfl | assumption) :
    PQ X C W (.Assign [.Name x pos'] e pos) (fSetN i f) := pq_of (ps_set hN hi hx he hs hf) fun D σ H q0 => tS.ofE q0 fun r ρ1 x v G1 H1 S1 R1 h2 P => by
  cases r with
  | v d => cases h2; exact P _ G1 H1 (Same.refl _) (S1.setVal R1 i)
  | n d => cases h2; exact P _ G1 H1 (Same.refl _) (S1.setOwn R1 i)
  | s j => cases h2
theorem pq_asg {tg : Expr} {g : Tg} {sl : List Nat} (he : PD X C W e f) (hg : PGd X C tg g sl) (hs : swapsWithSole [tg] e pos.line X.env = pure false := by rfl) (hw : swappedStores [tg] e X.env = pure none := by rfl)
    (h1 : (assignEach [tg] X.env).map (·.2) = [assign tg X.env] := by rfl) : PQ X C W (.Assign [tg] e pos) (fSetT g f) := pq_of (ps_asg he hg hs hw h1) fun D σ H q0 => tS.ofE q0 fun r ρ1 x v G1 H1 S1 R1 h2 P => by
  cases r with
  | v d =>
    have h3 : (match g d ρ1 with
      | some ρ' => some (Flow.nx ρ')
      | none => none) = some x := h2
    cases e2 : g d ρ1 with
    | none => rw [e2] at h3; cases h3
    | some ρ2 =>
      rw [e2] at h3
      cases h3
      exact ⟨G1, ρ1, d, ρ2, S1, R1, e2, fun σ' G' H' e' S' _ => P σ' G' H' e' S'⟩
  | n d => cases h2
  | s j => cases h2
/-! ### loops -/
def JOk (K : KW) (C : Ctl) (G : Hp) (J : It) (ds : List D) : Prop := ∀ (i : Nat) G2 H2 σ ρ, Same G G2 → Sta K C G2 H2 σ ρ →
  (ds.length ≤ i → J.stop i H2) ∧ ∀ d, ds[i]? = some d → J.go i H2 ∧ ∀ x H3, J.yld i H2 x H3 → ∃ G3, Same G2 G3 ∧ Sta K C G3 H3 σ ρ ∧ Rep K G3 d x
def tId (K : KW) (C : Ctl) (W : WX) (src : M (List D)) : TI := fun σ H R => ∃ G ρ x, Sta K C G H σ ρ ∧ src ρ = some x ∧ (match x with
  | .ok ds ρ' => ∀ J G' H', Same G G' → Sta K C G' H' σ ρ' → (∀ C', JOk K C' G' J ds) → R J H'
  | .ex e ρ' => ∀ c d G' H', Same G G' → Sta K C G' H' σ ρ' → ExR G' K e c d → W c d σ H')
abbrev PId (X : Cx) (C : Ctl) (W : WX) (tg iter : Expr) (src : M (List D)) : Prop := PI X tg iter (tId X.kw C W src)
theorem pq_for {iter tg : Expr} {src : M (List D)} {g : Tg} {sl : List Nat} (hp : PassesOwn (model X.prog X.w) X.A X.env X.xe) (hc : X.calm = true) (hi : PId X C W tg iter src) (hg : PGd X C tg g sl) (hb : PQs X C W sts p)
    (hs : ∀ x, foldedSetIterable iter X.env x = pure x := by intro _; rfl) (ks : List Nat) : PQ X C W (.For tg iter sts [] pos) (fFor src g p ks) := pq_of (ps_for hp hc hi hg hb hs) fun D σ H ⟨G, ρ, x, S, hf, P⟩ => by
  rcases ofM_ok hf with ⟨ds, ρ1, h1, h2⟩ | ⟨q, ρ1, h1, rfl⟩
  · refine ⟨G, ρ, _, S, h1, fun J G1 H1 e1 S1 jk => ?_⟩
    have P1 : SPost X.kw C W G1 x D := P.mono e1
    refine ⟨fun i m σ' H' => i ≤ ds.length ∧ m = ds.length - i ∧ ∃ G' ρ', Same G1 G' ∧ Sta X.kw C G' H' σ' ρ' ∧ forL g p ks (ds.drop i) ρ' = some x, ⟨ds.length, Nat.zero_le _, rfl, G1, ρ1, Same.refl _, S1, h2⟩, ?_⟩
    rintro i m σ' H' ⟨hi, rfl, G', ρ', e', S', hx⟩
    obtain ⟨j1, j2⟩ := jk C i G' H' σ' ρ' e' S'
    by_cases hlt : i < ds.length
    · obtain ⟨go, jy⟩ := j2 ds[i] (List.getElem?_eq_getElem hlt)
      have hd : ds.drop i = ds[i] :: ds.drop (i + 1) := List.drop_eq_getElem_cons hlt
      rw [hd] at hx
      refine .inr ⟨go, fun σ2 H2 => ∃ G2 ρ2, Same G1 G2 ∧ Sta X.kw C G2 H2 σ2 ρ2 ∧ forL g p ks (ds.drop (i + 1)) ρ2 = some x, fun σ2 H2 ⟨G2, ρ2, z⟩ => ⟨ds.length - (i + 1), by omega, hlt, rfl, G2, ρ2, z⟩, fun v H3 y => ?_⟩
      obtain ⟨G3, e3, S3, R3⟩ := jy v H3 y
      unfold forL at hx
      cases e4 : g ds[i] ρ' with
      | none => rw [e4] at hx; cases hx
      | some ρ4 =>
        rw [e4] at hx
        refine ⟨G3, ρ', ds[i], ρ4, S3, R3, e4, fun σ4 G4 H4 e5 S4 _ => ?_⟩
        have hx' : (match p ρ4 with
          | some (.nx ρ2) => forL g p ks (ds.drop (i + 1)) (ρ2.kills ks)
          | some (.ct ρ2) => forL g p ks (ds.drop (i + 1)) (ρ2.kills ks)
          | some (.bk ρ2) => some (.nx ρ2)
          | o => o) = some x := hx
        cases e6 : p ρ4 with
        | none => rw [e6] at hx'; cases hx'
        | some y6 =>
          rw [e6] at hx'
          refine ⟨G4, ρ4, y6, S4, e6, ?_⟩
          have e14 : Same G1 G4 := (e'.trans e3).trans e5
          cases y6 with
          | nx ρ5 => exact fun σ5 G5 H5 e7 S5 => ⟨G5, ρ5.kills ks, e14.trans e7, S5.kills ks, hx'⟩
          | ct ρ5 => exact fun σ5 G5 H5 e7 S5 => ⟨G5, ρ5.kills ks, e14.trans e7, S5.kills ks, hx'⟩
          | bk ρ5 => cases hx'; exact P1.mono e14
          | ret r ρ5 => cases hx'; exact P1.mono e14
          | ex r ρ5 => cases hx'; exact P1.mono e14
    · have e : i = ds.length := by omega
      subst e
      rw [List.drop_length] at hx
      cases hx
      exact .inl ⟨j1 (Nat.le_refl _), P1 σ' G' H' e' S'⟩
  · exact ⟨G, ρ, _, S, h1, fun c d G' H' e' S' R' => P c d σ G' H' e' S' R'⟩
theorem pq_while (n : Nat) (ks : List Nat) (hp : PassesOwn (model X.prog X.w) X.A X.env X.xe) (hc : PB X C W c t) (hb : PQs X C W sts p) : PQ X C W (.While c sts [] pos) (fWhile t p ks n) := pq_of (ps_while hp hc hb) fun D σ H ⟨G, ρ, x, S, hf, P⟩ => by
  refine ⟨fun m σ' H' => ∃ G' ρ', Same G G' ∧ Sta X.kw C G' H' σ' ρ' ∧ fWhile t p ks m ρ' = some x, ⟨n, G, ρ, Same.refl _, S, hf⟩, ?_⟩
  rintro m σ' H' ⟨G', ρ', e', S', hx⟩
  cases m with
  | zero => cases hx
  | succ m =>
    have hx' : (match t ρ' with
      | some (.ok true ρ1) => (match p ρ1 with
        | some (.nx ρ2) => fWhile t p ks m (ρ2.kills ks)
        | some (.ct ρ2) => fWhile t p ks m (ρ2.kills ks)
        | some (.bk ρ2) => some (.nx ρ2)
        | o => o)
      | some (.ok false ρ1) => some (.nx ρ1)
      | some (.ex e ρ') => some (.ex e ρ')
      | none => none) = some x := hx
    cases e1 : t ρ' with
    | none => rw [e1] at hx'; cases hx'
    | some y =>
      rw [e1] at hx'
      refine ⟨G', ρ', y, S', e1, ?_⟩
      have P1 : SPost X.kw C W G' x D := P.mono e'
      cases y with
      | ex r ρ1 => cases hx'; exact fun c d G2 H2 e2 S2 R2 => P1 c d σ' G2 H2 e2 S2 R2
      | ok bb ρ1 =>
        intro G2 H2 e2 S2
        cases bb with
        | false => cases hx'; exact P1 σ' G2 H2 e2 S2
        | true =>
          refine ⟨fun σ3 H3 => ∃ G3 ρ3, Same G G3 ∧ Sta X.kw C G3 H3 σ3 ρ3 ∧ fWhile t p ks m ρ3 = some x, fun σ3 H3 z => ⟨m, Nat.lt_succ_self _, z⟩, ?_⟩
          have hx2 : (match p ρ1 with
            | some (.nx ρ2) => fWhile t p ks m (ρ2.kills ks)
            | some (.ct ρ2) => fWhile t p ks m (ρ2.kills ks)
            | some (.bk ρ2) => some (.nx ρ2)
            | o => o) = some x := hx'
          cases e3 : p ρ1 with
          | none => rw [e3] at hx2; cases hx2
          | some y3 =>
            rw [e3] at hx2
            refine ⟨G2, ρ1, y3, S2, e3, ?_⟩
            have e12 : Same G G2 := e'.trans e2
            cases y3 with
            | nx ρ5 => exact fun σ5 G5 H5 e7 S5 => ⟨G5, ρ5.kills ks, e12.trans e7, S5.kills ks, hx2⟩
            | ct ρ5 => exact fun σ5 G5 H5 e7 S5 => ⟨G5, ρ5.kills ks, e12.trans e7, S5.kills ks, hx2⟩
            | bk ρ5 => cases hx2; exact P.mono e12
            | ret r ρ5 => cases hx2; exact P.mono e12
            | ex r ρ5 => cases hx2; exact P.mono e12
end
end DL
set_option Elab.async false
set_option linter.all false
set_option maxRecDepth 100000
set_option maxHeartbeats 4000000
namespace DL
open PySem PySem.Spec PyProof.Rows L2 RZ

/-! ### what is walked -/
def chars (s : Str) : List D := s.cps.toList.map fun c => D.str ⟨#[c]⟩
def itemsD : D → Option (List D)
  | .lst ds => some ds
  | .tup ds => some ds
  | .scr ds => some ds
  | .str s => some (chars s)
  | _ => none
def srcD (f : M R) : M (List D) := f.bind fun r => fun ρ => match r with
  | .v d => (match itemsD d with
    | some ds => some (.ok ds ρ)
    | none => none)
  | _ => none
def rangeL (lo : Int) (n : Nat) : List D := (List.range n).map fun i => D.int (lo + (i : Nat))
def cRng (i : Int) : Prop := -(2 ^ 62) ≤ i ∧ i < 2 ^ 62
/-- as a test that stops at once where i is not known -/
def cRngB (i : Int) : Bool := match i with
  | .ofNat n => Nat.ble n 4611686018427387903
  | .negSucc n => Nat.ble n 4611686018427387903
theorem cRngB_iff {i : Int} : cRngB i = true ↔ cRng i := by
  unfold cRngB cRng
  cases i with
  | ofNat n => simp only [Nat.ble_eq, Int.ofNat_eq_natCast]; constructor <;> intro h <;> omega
  | negSucc n => simp only [Nat.ble_eq, Int.negSucc_eq]; constructor <;> intro h <;> omega
instance {i : Int} : Decidable (cRng i) := decidable_of_iff _ cRngB_iff
def rangeD1 : List D → Option (List D)
  | [.int j] => if cRng j then some (rangeL 0 j.toNat) else none
  | _ => none
def rangeD : List D → Option (List D)
  | [.int i, .int j] => if cRng i ∧ cRng j then some (rangeL i (j - i).toNat) else none
  | _ => none
def srcN (k : List D → Option (List D)) (fs : List (M R)) : M (List D) := (evs fs).bind fun rs => fun ρ => match settled rs with
  | some ds => (match k ds with
    | some xs => some (.ok xs ρ)
    | none => none)
  | none => none
def enumD : List D → Option (List D)
  | [.lst ds] => some (ds.mapIdx fun i d => D.tup [.int (i : Nat), d])
  | _ => none
def zipD : List D → Option (List D)
  | [.lst ds, .lst es] => some ((ds.zip es).map fun p => D.tup [p.1, p.2])
  | [.tup ds, .tup es] => some ((ds.zip es).map fun p => D.tup [p.1, p.2])
  | _ => none
section
variable {X : Cx} {C : Ctl} {W : WX} {e a b c o tg : Expr} {es rest : List Expr} {pos : Pos} {f g h : M R} {fs : List (M R)}
theorem PI.by {iter : Expr} {t' : TI} (k : ∀ σ H R, t' σ H R → ∃ t, PI X tg iter t ∧ t σ H R) : PI X tg iter t' := ⟨fun pins s σ H R I q => by
  obtain ⟨t, h, q'⟩ := k σ H R q
  exact h.run pins s σ H R I q'⟩
section
variable {K : KW} {G : Hp} {ds es' : List D} {xs ys : List V} {p p' : Addr}
theorem jok_list (hp : SqL K G p xs) (r : RepL K G ds xs) : JOk K C G (Itl K p) ds := fun i G2 H2 σ ρ e S => by
  have hq : SqL K H2 p xs := same_l (e.trans S.sub) hp
  refine ⟨fun hi => ⟨xs, hq, by rw [← r.length]; exact hi⟩, fun d hd => ?_⟩
  obtain ⟨v, hv, rv⟩ := r.get hd
  refine ⟨⟨xs, v, hq, hv⟩, fun x H3 ⟨e3, y⟩ => ?_⟩
  subst e3
  have := y xs hq
  rw [hv] at this; cases this
  exact ⟨G2, Same.refl _, S, rv.mono e⟩
theorem jok_tup (hp : SqT K G p xs) (r : RepL K G ds xs) : JOk K C G (Itt K p) ds := fun i G2 H2 σ ρ e S => by
  have hq : SqT K H2 p xs := same_t (e.trans S.sub) hp
  refine ⟨fun hi => ⟨xs, hq, by rw [← r.length]; exact hi⟩, fun d hd => ?_⟩
  obtain ⟨v, hv, rv⟩ := r.get hd
  refine ⟨⟨xs, v, hq, hv⟩, fun x H3 ⟨e3, y⟩ => ?_⟩
  subst e3
  have := y xs hq
  rw [hv] at this; cases this
  exact ⟨G2, Same.refl _, S, rv.mono e⟩
theorem jok_str (s : Str) : JOk K C G (Its s) (chars s) := fun i G2 H2 σ ρ e S => by
  have hl : (chars s).length = s.cps.size := by simp [chars]
  refine ⟨fun hi => by rw [hl] at hi; exact hi, fun d hd => ?_⟩
  have hi : i < (chars s).length := (List.getElem?_eq_some_iff.mp hd).1
  rw [hl] at hi
  refine ⟨hi, fun x H3 ⟨e3, c, hc, ex⟩ => ?_⟩
  subst e3
  subst ex
  refine ⟨G2, Same.refl _, S, ?_⟩
  unfold chars at hd
  rw [List.getElem?_map, Array.getElem?_toList, hc] at hd
  cases hd
  rfl
theorem jok_range (lo : Int) (n : Nat) : JOk K C G (Itr lo n) (rangeL lo n) := fun i G2 H2 σ ρ e S => by
  have hl : (rangeL lo n).length = n := by simp [rangeL]
  refine ⟨fun hi => by rw [hl] at hi; exact hi, fun d hd => ?_⟩
  have hi : i < (rangeL lo n).length := (List.getElem?_eq_some_iff.mp hd).1
  rw [hl] at hi
  refine ⟨hi, fun x H3 ⟨e3, ex⟩ => ?_⟩
  subst e3
  subst ex
  refine ⟨G2, Same.refl _, S, ?_⟩
  unfold rangeL at hd
  rw [List.getElem?_map, List.getElem?_range hi] at hd
  cases hd
  rfl
theorem jok_enum (hp : SqL K G p xs) (r : RepL K G ds xs) : JOk K C G (Ite K p) (ds.mapIdx fun i d => D.tup [.int (i : Nat), d]) := fun i G2 H2 σ ρ e S => by
  have hq : SqL K H2 p xs := same_l (e.trans S.sub) hp
  refine ⟨fun hi => ⟨xs, hq, by rw [← r.length]; simpa using hi⟩, fun d hd => ?_⟩
  rw [List.getElem?_mapIdx] at hd
  cases e1 : ds[i]? with
  | none => rw [e1] at hd; cases hd
  | some d0 =>
    rw [e1] at hd
    cases hd
    obtain ⟨v, hv, rv⟩ := r.get e1
    refine ⟨⟨xs, v, hq, hv⟩, fun x H3 ⟨T, y, ex, hT, e3, hy⟩ => ?_⟩
    subst ex
    subst e3
    have := hy xs hq
    rw [hv] at this; cases this
    obtain ⟨e4, S4, R4⟩ := S.newTup hT (ds := [.int (i : Nat), d0]) (xs := [.int (i : Nat), v]) (RepL.cons rfl (RepL.cons (rv.mono e) RepL.nil))
    exact ⟨_, e4, S4, R4⟩
theorem jok_zip (hp : SqL K G p xs) (r : RepL K G ds xs) (hp' : SqL K G p' ys) (r' : RepL K G es' ys) : JOk K C G (Itz K p p') ((ds.zip es').map fun q => D.tup [q.1, q.2]) := fun i G2 H2 σ ρ e S => by
  have hq : SqL K H2 p xs := same_l (e.trans S.sub) hp
  have hq' : SqL K H2 p' ys := same_l (e.trans S.sub) hp'
  refine ⟨fun hi => ⟨xs, ys, hq, hq', ?_⟩, fun d hd => ?_⟩
  · rw [List.length_map, List.length_zip] at hi
    rw [← r.length, ← r'.length]
    omega
  · rw [List.getElem?_map] at hd
    cases e1 : (ds.zip es')[i]? with
    | none => rw [e1] at hd; cases hd
    | some q =>
      rw [e1] at hd
      cases hd
      rw [List.getElem?_zip_eq_some] at e1
      obtain ⟨v, hv, rv⟩ := r.get e1.1
      obtain ⟨u, hu, ru⟩ := r'.get e1.2
      refine ⟨⟨xs, ys, v, u, hq, hq', hv, hu⟩, fun x H3 ⟨T, y, z, ex, hT, e3, hy, hz⟩ => ?_⟩
      subst ex
      subst e3
      have h1 := hy xs hq
      rw [hv] at h1; cases h1
      have h2 := hz ys hq'
      rw [hu] at h2; cases h2
      obtain ⟨e4, S4, R4⟩ := S.newTup hT (ds := [q.1, q.2]) (xs := [v, u]) (RepL.cons (rv.mono e) (RepL.cons (ru.mono e) RepL.nil))
      exact ⟨_, e4, S4, R4⟩
theorem jok_zipT (hp : SqT K G p xs) (r : RepL K G ds xs) (hp' : SqT K G p' ys) (r' : RepL K G es' ys) : JOk K C G (ItzT K p p') ((ds.zip es').map fun q => D.tup [q.1, q.2]) := fun i G2 H2 σ ρ e S => by
  have hq : SqT K H2 p xs := same_t (e.trans S.sub) hp
  have hq' : SqT K H2 p' ys := same_t (e.trans S.sub) hp'
  refine ⟨fun hi => ⟨xs, ys, hq, hq', ?_⟩, fun d hd => ?_⟩
  · rw [List.length_map, List.length_zip] at hi
    rw [← r.length, ← r'.length]
    omega
  · rw [List.getElem?_map] at hd
    cases e1 : (ds.zip es')[i]? with
    | none => rw [e1] at hd; cases hd
    | some q =>
      rw [e1] at hd
      cases hd
      rw [List.getElem?_zip_eq_some] at e1
      obtain ⟨v, hv, rv⟩ := r.get e1.1
      obtain ⟨u, hu, ru⟩ := r'.get e1.2
      refine ⟨⟨xs, ys, v, u, hq, hq', hv, hu⟩, fun x H3 ⟨T, y, z, ex, hT, e3, hy, hz⟩ => ?_⟩
      subst ex
      subst e3
      have h1 := hy xs hq
      rw [hv] at h1; cases h1
      have h2 := hz ys hq'
      rw [hu] at h2; cases h2
      obtain ⟨e4, S4, R4⟩ := S.newTup hT (ds := [q.1, q.2]) (xs := [v, u]) (RepL.cons (rv.mono e) (RepL.cons (ru.mono e) RepL.nil))
      exact ⟨_, e4, S4, R4⟩
end
theorem pid_list (he : PD X C W e f) : PId X C W tg e (srcD f) := PI.by fun σ H R ⟨G, ρ, x, S, hf, P⟩ => by
  rcases bind_ok hf with ⟨r, ρ1, h1, h2⟩ | ⟨q, ρ1, h1, rfl⟩
  · cases r with
    | v d =>
      cases d with
      | lst ds =>
        cases h2
        refine ⟨_, pi_list he, G, ρ, _, S, h1, fun v G1 H1 e1 S1 R1 => ?_⟩
        obtain ⟨p, xs, ev, hp, r1⟩ := R1
        exact ⟨p, ev, ⟨xs, SqL.of (S1.sub _ _ hp)⟩, P (Itl X.kw p) G1 H1 e1 S1 fun C' => jok_list (SqL.of hp) r1⟩
      | scr ds =>
        cases h2
        refine ⟨_, pi_list he, G, ρ, _, S, h1, fun v G1 H1 e1 S1 R1 => ?_⟩
        obtain ⟨p, xs, ev, hp, r1⟩ := R1
        exact ⟨p, ev, ⟨xs, same_l S1.sub hp⟩, P (Itl X.kw p) G1 H1 e1 S1 fun C' => jok_list hp r1⟩
      | tup ds =>
        cases h2
        refine ⟨_, pi_tup he, G, ρ, _, S, h1, fun v G1 H1 e1 S1 R1 => ?_⟩
        obtain ⟨p, xs, ev, hp, r1⟩ := R1
        exact ⟨p, ev, ⟨xs, same_t S1.sub hp⟩, P (Itt X.kw p) G1 H1 e1 S1 fun C' => jok_tup hp r1⟩
      | str s =>
        cases h2
        refine ⟨_, pi_str he, G, ρ, _, S, h1, fun v G1 H1 e1 S1 R1 => ?_⟩
        exact ⟨s, R1, P (Its s) G1 H1 e1 S1 fun C' => jok_str s⟩
      | _ => cases h2
    | _ => cases h2
  · exact ⟨_, pi_list he, G, ρ, _, S, h1, P⟩
theorem srcN_ok {k : List D → Option (List D)} {ρ : EV} {x : XR (List D)} (h : srcN k fs ρ = some x) : (∃ rs ρ1 ds xs, evs fs ρ = some (.ok rs ρ1) ∧ settled rs = some ds ∧ k ds = some xs ∧ x = .ok xs ρ1) ∨ ∃ e ρ', evs fs ρ = some (.ex e ρ') ∧ x = .ex e ρ' := by
  rcases bind_ok h with ⟨rs, ρ1, h1, h2⟩ | ⟨q, ρ1, h1, rfl⟩
  · left
    cases e1 : settled rs with
    | none => simp only [e1] at h2; cases h2
    | some ds =>
      simp only [e1] at h2
      cases e2 : k ds with
      | none => simp only [e2] at h2; cases h2
      | some xs => simp only [e2] at h2; exact ⟨rs, ρ1, ds, xs, h1, e1, e2, (Option.some.inj h2).symm⟩
  · exact .inr ⟨q, ρ1, h1, rfl⟩
theorem repl1 {K : KW} {G : Hp} {d : D} {vs : List V} (r : RepL K G [d] vs) : ∃ v, vs = [v] ∧ Rep K G d v := by
  obtain ⟨v, t, e, h, ht⟩ := r
  cases (show t = [] from ht)
  exact ⟨v, e, h⟩
theorem repl2 {K : KW} {G : Hp} {d d' : D} {vs : List V} (r : RepL K G [d, d'] vs) : ∃ v v', vs = [v, v'] ∧ Rep K G d v ∧ Rep K G d' v' := by
  obtain ⟨v, t, e, h, ht⟩ := r
  obtain ⟨v', e', h'⟩ := repl1 ht
  exact ⟨v, v', by rw [e, e'], h, h'⟩
theorem pid_range1 {p : Pos} (hg : Gl X "range") (hm : X.mg "range" = none) (ha : PAs X C W [a] (evs fs)) (hs : starEach [a] X.env = [(false, eval a X.env)] := by rfl) : PId X C W tg (.Call (.Name "range" p) [a] [] pos) (srcN rangeD1 fs) := PI.by fun σ H R ⟨G, ρ, x, S, hf, P⟩ => by
  refine ⟨_, pi_range1 hg hm ha hs, ?_⟩
  rcases srcN_ok hf with ⟨rs, ρ1, ds, xs, h1, h2, h3, rfl⟩ | ⟨q, ρ1, h1, rfl⟩
  · refine ⟨G, ρ, _, S, h1, fun vs G1 H1 e1 S1 R1 => ?_⟩
    have r := R1.settled h2
    unfold rangeD1 at h3
    split at h3
    · split at h3
      · rename_i hz
        cases h3
        obtain ⟨v, rfl, rv⟩ := repl1 r
        exact ⟨_, by rw [show v = _ from rv], hz.1, hz.2, P _ G1 H1 e1 S1 fun C' => jok_range 0 _⟩
      · cases h3
    · cases h3
  · exact ⟨G, ρ, _, S, h1, P⟩
theorem pid_range2 {p : Pos} (hg : Gl X "range") (hm : X.mg "range" = none) (ha : PAs X C W [a, b] (evs fs)) (hs : starEach [a, b] X.env = [(false, eval a X.env), (false, eval b X.env)] := by rfl) (hs2 : starEach [b] X.env = [(false, eval b X.env)] := by rfl) : PId X C W tg (.Call (.Name "range" p) [a, b] [] pos) (srcN rangeD fs) := PI.by fun σ H R ⟨G, ρ, x, S, hf, P⟩ => by
  refine ⟨_, pi_range2 hg hm ha hs hs2, ?_⟩
  rcases srcN_ok hf with ⟨rs, ρ1, ds, xs, h1, h2, h3, rfl⟩ | ⟨q, ρ1, h1, rfl⟩
  · refine ⟨G, ρ, _, S, h1, fun vs G1 H1 e1 S1 R1 => ?_⟩
    have r := R1.settled h2
    unfold rangeD at h3
    split at h3
    · split at h3
      · rename_i hz
        cases h3
        obtain ⟨v, v', rfl, rv, rv'⟩ := repl2 r
        exact ⟨_, _, by rw [show v = _ from rv, show v' = _ from rv'], ⟨hz.1.1, hz.1.2, hz.2.1, hz.2.2⟩, P _ G1 H1 e1 S1 fun C' => jok_range _ _⟩
      · cases h3
    · cases h3
  · exact ⟨G, ρ, _, S, h1, P⟩
theorem pid_enum {p tpos : Pos} {elts : List Expr} {kk : Nat} (hg : Gl X "enumerate") (hm : X.mg "enumerate" = none) (ha : PAs X C W [a] (evs fs)) (hs : starEach [a] X.env = [(false, eval a X.env)] := by rfl) : PId X C W (.Tuple elts kk tpos) (.Call (.Name "enumerate" p) [a] [] pos) (srcN enumD fs) := PI.by fun σ H R ⟨G, ρ, x, S, hf, P⟩ => by
  refine ⟨_, pi_enum hg hm ha hs, ?_⟩
  rcases srcN_ok hf with ⟨rs, ρ1, ds, xs, h1, h2, h3, rfl⟩ | ⟨q, ρ1, h1, rfl⟩
  · refine ⟨G, ρ, _, S, h1, fun vs G1 H1 e1 S1 R1 => ?_⟩
    have r := R1.settled h2
    unfold enumD at h3
    split at h3
    · cases h3
      obtain ⟨v, rfl, q, xs, ev, hp, r1⟩ := repl1 r
      exact ⟨q, xs, by rw [ev], SqL.of (S1.sub _ _ hp), P _ G1 H1 e1 S1 fun C' => jok_enum (SqL.of hp) r1⟩
    · cases h3
  · exact ⟨G, ρ, _, S, h1, P⟩
theorem pid_zip {p tpos : Pos} {elts : List Expr} {kk : Nat} (hg : Gl X "zip") (hm : X.mg "zip" = none) (ha : PAs X C W [a, b] (evs fs)) (hs : starEach [a, b] X.env = (false, eval a X.env) :: starEach [b] X.env := by rfl) (hs2 : (backTo pos (starEach [b] X.env)).any (·.1) = false := by rfl) : PId X C W (.Tuple elts kk tpos) (.Call (.Name "zip" p) [a, b] [] pos) (srcN zipD fs) := PI.by fun σ H R ⟨G, ρ, x, S, hf, P⟩ => by
  refine ⟨_, pi_zipA hg hm ha hs hs2, ?_⟩
  rcases srcN_ok hf with ⟨rs, ρ1, ds, xs, h1, h2, h3, rfl⟩ | ⟨q, ρ1, h1, rfl⟩
  · refine ⟨G, ρ, _, S, h1, fun vs G1 H1 e1 S1 R1 => ?_⟩
    have r := R1.settled h2
    unfold zipD at h3
    split at h3
    · cases h3
      obtain ⟨v, v', rfl, ⟨q, xs, ev, hp, r1⟩, q', ys, ev', hp', r2⟩ := repl2 r
      exact ⟨q, q', xs, ys, by rw [ev, ev'], .inl ⟨SqL.of (S1.sub _ _ hp), SqL.of (S1.sub _ _ hp'), P _ G1 H1 e1 S1 fun C' => jok_zip (SqL.of hp) r1 (SqL.of hp') r2⟩⟩
    · cases h3
      obtain ⟨v, v', rfl, ⟨q, xs, ev, hp, r1⟩, q', ys, ev', hp', r2⟩ := repl2 r
      exact ⟨q, q', xs, ys, by rw [ev, ev'], .inr ⟨same_t S1.sub hp, same_t S1.sub hp', P _ G1 H1 e1 S1 fun C' => jok_zipT hp r1 hp' r2⟩⟩
    · cases h3
  · exact ⟨G, ρ, _, S, h1, P⟩
/-! ### list(range(..)) -/
def lrD (k : List D → Option (List D)) (ds : List D) : Option R := match k ds with
  | some xs => if szOk xs.length then some (.n (.lst xs)) else none
  | none => none
end
end DL
set_option Elab.async false
set_option linter.all false
set_option maxRecDepth 100000
set_option maxHeartbeats 4000000
namespace DL
open PySem PySem.Spec PyProof.Rows L2

/-! ### calls of one's own defs -/
def argSl : List R → Nat → List (Option Slot)
  | [], _ => []
  | .v d :: rs, k => some (.val d) :: argSl rs k
  | .s _ :: rs, k => some (.par k) :: argSl rs (k + 1)
  | .n _ :: rs, k => none :: argSl rs k
def argIx : List R → List Nat
  | [] => []
  | .s i :: rs => i :: argIx rs
  | _ :: rs => argIx rs
def EV.objs (ρ : EV) : List Nat → Option (List D)
  | [] => some []
  | i :: is => match ρ.obj i with
    | some d => (match ρ.objs is with
      | some ds => some (d :: ds)
      | none => none)
    | none => none
def EV.key (ρ : EV) (i : Nat) : Nat × Nat := match ρ.sl[i]? with
  | some (some (.par k)) => (1, k)
  | _ => (0, i)
def EV.puts (ρ : EV) : List Nat → List D → EV
  | i :: is, d :: ds => (ρ.put i d).puts is ds
  | _, _ => ρ
def callR (fb : F) (N : Nat) (rs : List R) : M R := fun ρ => match ρ.objs (argIx rs) with
  | some ds => if ((argIx rs).map ρ.key).Nodup then (match fb ⟨argSl rs 0 ++ List.replicate (N - rs.length) none, ds⟩ with
    | some (.ret (.v d) ρ') => some (.ok (.v d) (ρ.puts (argIx rs) ρ'.ps))
    | some (.ret (.n d) ρ') => some (.ok (.n d) (ρ.puts (argIx rs) ρ'.ps))
    | some (.nx ρ') => some (.ok (.v .non) (ρ.puts (argIx rs) ρ'.ps))
    | some (.ex e ρ') => some (.ex e (ρ.puts (argIx rs) ρ'.ps))
    | _ => none) else none
  | none => none
def fCall (fb : F) (N : Nat) (fs : List (M R)) : M R := (evs fs).bind (callR fb N)
/-- a def's promise: its body's reading -/
def spD (K : KW) (ps N : List Str) (fb : F) : Sp := fun vs H Q E => vs.length = ps.length ∧ ∃ G A0,
  tS K ⟨H, G, A0, 0⟩ (fun c d _ H' => E c d H') fb { nx := fun _ H' => Q .non H', rt := Q } (L2.start N vs) H
section
variable {K : KW} {C : Ctl} {G G' H H' : Hp} {σ : L2.St} {ρ : EV}
theorem put_other {i j : Nat} {d x : D} (h : ρ.obj j = some x) : ∃ y, (ρ.put i d).obj j = some y := by
  unfold EV.put
  cases e : ρ.sl[i]? with
  | none => exact ⟨x, h⟩
  | some so =>
    cases so with
    | none => exact ⟨x, h⟩
    | some s =>
      cases s with
      | val y => exact ⟨x, h⟩
      | xn => exact ⟨x, h⟩
      | own y =>
        by_cases hj : i = j
        · subst hj
          have hl : i < ρ.sl.length := (List.getElem?_eq_some_iff.mp e).1
          exact ⟨d, by simp [EV.obj, EV.set, List.getElem?_set_self hl]⟩
        · refine ⟨x, ?_⟩
          unfold EV.obj at h ⊢
          simp only [EV.set, List.getElem?_set_ne hj]
          exact h
      | par k =>
        unfold EV.obj at h ⊢
        show ∃ y, (match ρ.sl[j]? with
          | some (some (.own d)) => some d
          | some (some (.par k')) => (ρ.ps.set k d)[k']?
          | _ => none) = some y
        cases e2 : ρ.sl[j]? with
        | none => rw [e2] at h; cases h
        | some so2 =>
          rw [e2] at h
          cases so2 with
          | none => cases h
          | some s2 =>
            cases s2 with
            | val y => cases h
            | xn => cases h
            | own y => exact ⟨_, rfl⟩
            | par k' =>
              have h' : ρ.ps[k']? = some x := h
              have hl : k' < ρ.ps.length := (List.getElem?_eq_some_iff.mp h').1
              show ∃ y, (ρ.ps.set k d)[k']? = some y
              exact ⟨_, List.getElem?_eq_getElem (by simpa using hl)⟩
/-- the objects of several slots are written -/
theorem Sta.writes (hG : Same G G) : ∀ {is : List Nat} {as : List Addr} {ds : List D} {Hx : Hp} {ρ : EV}, Sta K C G Hx σ ρ → is.length = as.length → as.length = ds.length →
    (∀ (k i : Nat) a, is[k]? = some i → as[k]? = some a → σ[i]? = some (some (.ref a)) ∧ ∃ x, ρ.obj i = some x) → (∀ (k : Nat) a d, as[k]? = some a → ds[k]? = some d → View K G H' d a) →
    Sta K C G (fun b => if b ∈ as then H' b else Hx b) σ (ρ.puts is ds) := by
  intro is
  induction is with
  | nil =>
    intro as ds Hx ρ S l1 l2 h w
    have e : as = [] := List.eq_nil_of_length_eq_zero l1.symm
    subst e
    have e2 : (fun b => if b ∈ ([] : List Addr) then H' b else Hx b) = Hx := by funext b; simp
    rw [e2]
    exact S
  | cons i is ih =>
    intro as ds Hx ρ S l1 l2 h w
    cases as with
    | nil => cases l1
    | cons a as =>
      cases ds with
      | nil => cases l2
      | cons d ds =>
        obtain ⟨hv, x, hx⟩ := h 0 i a rfl rfl
        have wa := w 0 a d rfl rfl
        obtain ⟨o, ho⟩ := wa.there
        have w2 : View K G (upd Hx a o) d a := wa.mono (Same.refl _) (by rw [upd_same, ho])
        have S1 := S.write hx hv w2
        have S2 := ih (as := as) (ds := ds) S1 (by simpa using l1) (by simpa using l2) (fun k j b q1 q2 => by
          obtain ⟨q3, y, q4⟩ := h (k + 1) j b (by simpa using q1) (by simpa using q2)
          exact ⟨q3, put_other q4⟩) (fun k b e q1 q2 => w (k + 1) b e (by simpa using q1) (by simpa using q2))
        have e2 : (fun b => if b ∈ as then H' b else upd Hx a o b) = fun b => if b ∈ a :: as then H' b else Hx b := by
          funext b
          by_cases hb : b ∈ as
          · simp [hb]
          · by_cases hba : b = a
            · subst hba; simp [hb, upd_same, ho]
            · simp [hb, hba, upd_ne hba]
        rw [e2] at S2
        exact S2
theorem obj_slot {i : Nat} {d : D} (S : Sta K C G H σ ρ) (h : ρ.obj i = some d) : ∃ a, σ[i]? = some (some (.ref a)) ∧ G a = none ∧ View K G H d a := by
  have h0 := h
  unfold EV.obj at h
  cases e : ρ.sl[i]? with
  | none => rw [e] at h; cases h
  | some so =>
    cases so with
    | none => rw [e] at h; cases h
    | some s =>
      obtain ⟨v, hv, _⟩ := S.slot i s e
      obtain ⟨a, rfl, g, w⟩ := S.objAt h0 hv
      exact ⟨a, hv, g, w⟩
/-- two slots of one object have one key -/
theorem key_inj {i j : Nat} {a : Addr} {d e : D} (S : Sta K C G H σ ρ) (h1 : ρ.obj i = some d) (h2 : ρ.obj j = some e) (v1 : σ[i]? = some (some (.ref a))) (v2 : σ[j]? = some (some (.ref a))) : ρ.key i = ρ.key j := by
  unfold EV.obj at h1 h2
  unfold EV.key
  cases e1 : ρ.sl[i]? with
  | none => rw [e1] at h1; cases h1
  | some so =>
    cases so with
    | none => rw [e1] at h1; cases h1
    | some s =>
      cases e2 : ρ.sl[j]? with
      | none => rw [e2] at h2; cases h2
      | some so2 =>
        cases so2 with
        | none => rw [e2] at h2; cases h2
        | some s2 =>
          obtain ⟨u1, q1, k1⟩ := S.slot i s e1
          obtain ⟨u2, q2, k2⟩ := S.slot j s2 e2
          rw [v1] at q1; cases q1
          rw [v2] at q2; cases q2
          cases s with
          | val x => rw [e1] at h1; cases h1
          | xn => rw [e1] at h1; cases h1
          | own x =>
            cases s2 with
            | val y => rw [e2] at h2; cases h2
            | xn => rw [e2] at h2; cases h2
            | own y =>
              have := S.dist i j x y _ e1 e2 v1 v2
              subst this
              rfl
            | par k =>
              obtain ⟨a1, z1, _, z2, _⟩ := k1
              obtain ⟨a2, z3, z4⟩ := k2
              cases z1; cases z3
              obtain ⟨o, z5⟩ := S.pin a (List.mem_of_getElem? z4)
              rw [z2] at z5; cases z5
          | par k =>
            obtain ⟨a2, z3, z4⟩ := k1
            cases z3
            cases s2 with
            | val y => rw [e2] at h2; cases h2
            | xn => rw [e2] at h2; cases h2
            | own y =>
              obtain ⟨a1, z1, _, z2, _⟩ := k2
              cases z1
              obtain ⟨o, z5⟩ := S.pin a (List.mem_of_getElem? z4)
              rw [z2] at z5; cases z5
            | par k' =>
              obtain ⟨a1, z1, z6⟩ := k2
              cases z1
              obtain ⟨l1, m1⟩ := List.getElem?_eq_some_iff.mp z4
              obtain ⟨l2, m2⟩ := List.getElem?_eq_some_iff.mp z6
              have : k = k' := (List.getElem_inj S.pnd).mp (m1.trans m2.symm)
              subst this
              rfl
/-- the addresses of the objects that are handed on -/
theorem objs_as (S : Sta K C G H σ ρ) : ∀ {is : List Nat} {ds : List D}, ρ.objs is = some ds → ∃ as : List Addr, is.length = as.length ∧ as.length = ds.length ∧
    ∀ (k i : Nat) a d, is[k]? = some i → as[k]? = some a → ds[k]? = some d → σ[i]? = some (some (.ref a)) ∧ ρ.obj i = some d ∧ G a = none ∧ View K G H d a := by
  intro is
  induction is with
  | nil => intro ds h; cases h; exact ⟨[], rfl, rfl, fun k i a d q => by simp at q⟩
  | cons i is ih =>
    intro ds h
    unfold EV.objs at h
    cases e1 : ρ.obj i with
    | none => rw [e1] at h; cases h
    | some d =>
      rw [e1] at h
      cases e2 : ρ.objs is with
      | none => simp only [e2] at h; cases h
      | some ds1 =>
        simp only [e2] at h
        cases h
        obtain ⟨as, l1, l2, q⟩ := ih e2
        obtain ⟨a, hv, g, w⟩ := obj_slot S e1
        refine ⟨a :: as, by simp [l1], by simp [l2], fun k j b x h1 h2 h3 => ?_⟩
        cases k with
        | zero => simp at h1 h2 h3; subst h1 h2 h3; exact ⟨hv, e1, g, w⟩
        | succ k => exact q k j b x (by simpa using h1) (by simpa using h2) (by simpa using h3)
theorem argSl_len : ∀ (rs : List R) (k : Nat), (argSl rs k).length = rs.length
  | [], _ => rfl
  | .v _ :: rs, k => by simp [argSl, argSl_len rs k]
  | .s _ :: rs, k => by simp [argSl, argSl_len rs (k + 1)]
  | .n _ :: rs, k => by simp [argSl, argSl_len rs k]
/-- the slots of the arguments -/
theorem argSl_ok (S : Sta K C G H σ ρ) : ∀ {rs : List R} {vs : List V} (k : Nat), RepRs K C G H σ ρ rs vs → ∀ (as : List Addr), (∀ (m i : Nat) a, (argIx rs)[m]? = some i → as[k + m]? = some a → σ[i]? = some (some (.ref a))) → k + (argIx rs).length = as.length →
    ∀ (j : Nat) s, (argSl rs k)[j]? = some (some s) → ∃ v, vs[j]? = some v ∧ ((∃ d, s = .val d ∧ Rep K G d v) ∨ ∃ n a, s = .par n ∧ v = .ref a ∧ as[n]? = some a) := by
  intro rs
  induction rs with
  | nil => intro vs k h as ha hl j s e; simp [argSl] at e
  | cons r rs ih =>
    intro vs k h as ha hl j s e
    cases h with
    | cons n h1 h2 =>
      rename_i v vs'
      cases r with
      | v d =>
        cases j with
        | zero => simp [argSl] at e; subst e; exact ⟨v, rfl, .inl ⟨d, rfl, h1⟩⟩
        | succ j =>
          obtain ⟨u, q⟩ := ih k h2 as ha hl j s (by simpa [argSl] using e)
          exact ⟨u, by simpa using q.1, q.2⟩
      | s i =>
        cases j with
        | zero =>
          simp [argSl] at e
          subst e
          have hk : k < as.length := by simp [argIx] at hl; omega
          have := ha 0 i as[k] (by simp [argIx]) (by simp [List.getElem?_eq_getElem hk])
          have h1' : σ[i]? = some (some v) := h1
          rw [h1'] at this
          cases this
          exact ⟨_, rfl, .inr ⟨k, as[k], rfl, rfl, List.getElem?_eq_getElem hk⟩⟩
        | succ j =>
          obtain ⟨u, q⟩ := ih (k + 1) h2 as (fun m i' a q1 q2 => ha (m + 1) i' a (by simpa [argIx] using q1) (by rw [← q2]; congr 1; omega)) (by simp [argIx] at hl; omega) j s (by simpa [argSl] using e)
          exact ⟨u, by simpa using q.1, q.2⟩
      | n d => exact absurd rfl (n d)
theorem nodup_of_keys (S : Sta K C G H σ ρ) {is : List Nat} {ds : List D} {as : List Addr} (l1 : is.length = as.length) (l2 : as.length = ds.length)
    (q : ∀ (k i : Nat) a d, is[k]? = some i → as[k]? = some a → ds[k]? = some d → σ[i]? = some (some (.ref a)) ∧ ρ.obj i = some d ∧ G a = none ∧ View K G H d a) (hn : (is.map ρ.key).Nodup) : as.Nodup := by
  show List.Pairwise (· ≠ ·) as
  rw [List.pairwise_iff_getElem]
  intro i j hi hj hij e
  have ei : as[i]? = some as[i] := List.getElem?_eq_getElem hi
  have ej : as[j]? = some as[i] := by rw [e]; exact List.getElem?_eq_getElem hj
  have hi2 : i < is.length := by omega
  have hj2 : j < is.length := by omega
  have hi3 : i < ds.length := by omega
  have hj3 : j < ds.length := by omega
  obtain ⟨v1, o1, _, _⟩ := q i is[i] as[i] ds[i] (List.getElem?_eq_getElem hi2) ei (List.getElem?_eq_getElem hi3)
  obtain ⟨v2, o2, _, _⟩ := q j is[j] as[i] ds[j] (List.getElem?_eq_getElem hj2) ej (List.getElem?_eq_getElem hj3)
  have := key_inj S o1 o2 v1 v2
  have hn' : List.Pairwise (· ≠ ·) (is.map ρ.key) := hn
  rw [List.pairwise_iff_getElem] at hn'
  refine hn' i j (by simpa using hi2) (by simpa using hj2) hij ?_
  rw [List.getElem_map, List.getElem_map, this]
theorem RepRs.len {rs : List R} {vs : List V} (h : RepRs K C G H σ ρ rs vs) : vs.length = rs.length := by
  induction h with
  | nil => rfl
  | cons _ _ _ ih => simp [ih]
theorem put_own {i j : Nat} {d x : D} (h : (ρ.put i d).sl[j]? = some (some (.own x))) : ∃ y, ρ.sl[j]? = some (some (.own y)) := by
  unfold EV.put at h
  cases e : ρ.sl[i]? with
  | none => rw [e] at h; exact ⟨x, h⟩
  | some so =>
    rw [e] at h
    cases so with
    | none => exact ⟨x, h⟩
    | some s =>
      cases s with
      | val y => exact ⟨x, h⟩
      | own y =>
        by_cases hj : i = j
        · subst hj; exact ⟨y, e⟩
        · simp only [EV.set, List.getElem?_set_ne hj] at h
          exact ⟨x, h⟩
      | par k => exact ⟨x, h⟩
      | xn => exact ⟨x, h⟩
theorem puts_own : ∀ {is : List Nat} {ds : List D} {ρ : EV} {j : Nat} {x : D}, (ρ.puts is ds).sl[j]? = some (some (.own x)) → ∃ y, ρ.sl[j]? = some (some (.own y))
  | [], _, _, _, x, h => ⟨x, h⟩
  | _ :: _, [], _, _, x, h => ⟨x, h⟩
  | i :: is, d :: ds, ρ, j, x, h => by
    obtain ⟨y, hy⟩ := puts_own (is := is) (ds := ds) (ρ := ρ.put i d) h
    exact put_own hy
end
section
variable {X : Cx} {C : Ctl} {W : WX} {e a b c o tg : Expr} {es rest : List Expr} {pos : Pos} {f g h : M R} {fs : List (M R)}
theorem call_go {K : KW} {ps N : List Str} {fb : F} {σ : L2.St} {H : Hp} {G : Hp} {ρ : EV} {rs : List R} {vs : List V} {x : XR R} {Q : VK} (S : Sta K C G H σ ρ) (R1 : RepRs K C G H σ ρ rs vs) (hf : callR fb N.length rs ρ = some x)
    (P : XPost K C W G σ x Q) (hl : rs.length = ps.length) (hN : ps.length ≤ N.length) : spD K ps N fb vs H Q (WE W σ) := by
  have lv : vs.length = rs.length := R1.len
  unfold callR at hf
  cases e1 : ρ.objs (argIx rs) with
  | none => rw [e1] at hf; cases hf
  | some ds =>
    rw [e1] at hf
    by_cases hn : ((argIx rs).map ρ.key).Nodup
    · simp only [if_pos hn] at hf
      obtain ⟨as, l1, l2, q⟩ := objs_as S e1
      have nd := nodup_of_keys S l1 l2 q hn
      have at_ : ∀ a, a ∈ as → ∃ (k : Nat) (i : Nat) (d : D), (argIx rs)[k]? = some i ∧ as[k]? = some a ∧ ds[k]? = some d ∧ σ[i]? = some (some (.ref a)) ∧ ρ.obj i = some d ∧ G a = none ∧ View K G H d a := fun a ha => by
        obtain ⟨k, hk, ek⟩ := List.getElem_of_mem ha
        have h1 : k < (argIx rs).length := by omega
        have h2 : k < ds.length := by omega
        have h3 : as[k]? = some a := by rw [List.getElem?_eq_getElem hk, ek]
        exact ⟨k, _, _, List.getElem?_eq_getElem h1, h3, List.getElem?_eq_getElem h2, q k _ a _ (List.getElem?_eq_getElem h1) h3 (List.getElem?_eq_getElem h2)⟩
      -- the callee's entry
      have S0 : Sta K ⟨H, G, as, 0⟩ G H (L2.start N vs) ⟨argSl rs 0 ++ List.replicate (N.length - rs.length) none, ds⟩ := by
        refine ⟨S.sub, Same.refl _, fun a o e => .inl e, fun b o e _ => e, ?_, fun j s e => ?_, fun i j d x v h1 _ _ _ => ?_, l2.symm, fun k a d h1 h2 => ?_, nd, fun a ha => ?_⟩
        · simp [L2.start, argSl_len, lv]
        · have hj : j < (argSl rs 0).length := by
            by_cases hj : j < (argSl rs 0).length
            · exact hj
            · exfalso
              rw [List.getElem?_append_right (by omega)] at e
              obtain ⟨h1, h2⟩ := List.getElem?_eq_some_iff.mp e
              simp at h2
          rw [List.getElem?_append_left hj] at e
          obtain ⟨v, hv, z⟩ := argSl_ok S 0 R1 as (fun m i a q1 q2 => by
            rw [Nat.zero_add] at q2
            have h2 : m < ds.length := by
              have := (List.getElem?_eq_some_iff.mp q2).1
              omega
            exact (q m i a _ q1 q2 (List.getElem?_eq_getElem h2)).1) (by omega) j s e
          have hjv : j < vs.length := (List.getElem?_eq_some_iff.mp hv).1
          refine ⟨v, ?_, ?_⟩
          · show (vs.map some ++ List.replicate (N.length - vs.length) none)[j]? = some (some v)
            rw [List.getElem?_append_left (by simpa using hjv), List.getElem?_map, hv]
            rfl
          · rcases z with ⟨d, rfl, r⟩ | ⟨n, a, rfl, rfl, hn⟩
            · exact r
            · exact ⟨a, rfl, hn⟩
        · exfalso
          have hi : i < (argSl rs 0).length := by
            by_cases hi : i < (argSl rs 0).length
            · exact hi
            · exfalso
              rw [List.getElem?_append_right (by omega)] at h1
              obtain ⟨h1, h2⟩ := List.getElem?_eq_some_iff.mp h1
              simp at h2
          rw [List.getElem?_append_left hi] at h1
          obtain ⟨v, hv, z⟩ := argSl_ok S 0 R1 as (fun m i a q1 q2 => by
            rw [Nat.zero_add] at q2
            have h2 : m < ds.length := by
              have := (List.getElem?_eq_some_iff.mp q2).1
              omega
            exact (q m i a _ q1 q2 (List.getElem?_eq_getElem h2)).1) (by omega) i _ h1
          rcases z with ⟨d, z, _⟩ | ⟨n, a, z, _⟩ <;> cases z
        · obtain ⟨k', i, d', q1, q2, q3, q4, q5, q6, q7⟩ := at_ a (List.mem_of_getElem? h1)
          have ek : k' = k := by
            obtain ⟨m1, m2⟩ := List.getElem?_eq_some_iff.mp q2
            obtain ⟨m3, m4⟩ := List.getElem?_eq_some_iff.mp h1
            exact (List.getElem_inj nd).mp (m2.trans m4.symm)
          subst ek
          rw [q3] at h2
          cases h2
          exact ⟨q6, q7⟩
        · obtain ⟨k', i, d', q1, q2, q3, q4, q5, q6, q7⟩ := at_ a ha
          exact q7.there
      -- the way back
      have back : ∀ {G' H' : Hp} {σ' : L2.St} {ρ' : EV}, Sta K ⟨H, G, as, 0⟩ G' H' σ' ρ' → Same G G' ∧ Sta K C G' H' σ (ρ.puts (argIx rs) ρ'.ps) := fun {G' H' σ' ρ'} S' => by
        have old : Same G G' := S'.old
        refine ⟨old, ?_⟩
        have hne : ∀ b o, H b = some o → b ∉ as → H' b = some o := S'.base
        have mid : Sta K C G' (fun b => if b ∈ as then H b else H' b) σ ρ := by
          refine S.turn (fun b o e => ?_) old (fun a o e => ?_) (fun b o e _ _ => ?_) (fun i d a e1 e2 => ?_) (fun a ha => ?_)
          · by_cases hb : b ∈ as
            · exfalso
              have := (S'.parAt (a := b) hb).1
              rw [e] at this; cases this
            · simp only [if_neg hb]; exact S'.sub b o e
          · rcases S'.new a o e with z | z
            · exact .inl z
            · exact .inr (S.free z).1
          · by_cases hb : b ∈ as
            · simp only [if_pos hb]; exact e
            · simp only [if_neg hb]; exact hne b o e hb
          · obtain ⟨v, h1, a', rfl, g, h0, w⟩ := S.slot i _ e1
            rw [e2] at h1; cases h1
            obtain ⟨o, ho⟩ := w.there
            refine ⟨?_, ?_⟩
            · cases z : G' a with
              | none => rfl
              | some o' =>
                rcases S'.new a o' z with y | y
                · rw [show G a = some o' from y] at g; cases g
                · rw [show H a = none from y] at ho; cases ho
            · by_cases hb : a ∈ as
              · simp only [if_pos hb]
              · simp only [if_neg hb]; rw [hne a o ho hb, ho]
          · obtain ⟨g, d, w⟩ := S.parAt ha
            obtain ⟨o, ho⟩ := w.there
            refine ⟨?_, ?_⟩
            · cases z : G' a with
              | none => rfl
              | some o' =>
                rcases S'.new a o' z with y | y
                · rw [show G a = some o' from y] at g; cases g
                · rw [show H a = none from y] at ho; cases ho
            · by_cases hb : a ∈ as
              · simp only [if_pos hb]
              · simp only [if_neg hb]; rw [hne a o ho hb, ho]
        have fin := Sta.writes (H' := H') (Same.refl _) (is := argIx rs) (as := as) (ds := ρ'.ps) mid l1 S'.plen.symm (fun k i a q1 q2 => by
          have h2 : k < ds.length := by
            have := (List.getElem?_eq_some_iff.mp q2).1
            omega
          obtain ⟨z1, z2, _⟩ := q k i a _ q1 q2 (List.getElem?_eq_getElem h2)
          exact ⟨z1, _, z2⟩) (fun k a d q1 q2 => (S'.par k a d q1 q2).2)
        have eH : (fun b => if b ∈ as then H' b else (fun b => if b ∈ as then H b else H' b) b) = H' := by
          funext b
          by_cases hb : b ∈ as
          · simp [hb]
          · simp [hb]
        rw [eH] at fin
        exact fin
      refine ⟨by omega, G, as, G, ⟨argSl rs 0 ++ List.replicate (N.length - rs.length) none, ds⟩, ?_⟩
      cases e2 : fb ⟨argSl rs 0 ++ List.replicate (N.length - rs.length) none, ds⟩ with
      | none => rw [e2] at hf; cases hf
      | some y =>
        rw [e2] at hf
        refine ⟨y, S0, rfl, ?_⟩
        cases y with
        | nx ρ' =>
          cases hf
          intro σ' G' H' e' S'
          obtain ⟨o1, S2⟩ := back S'
          exact P .non G' H' o1 S2 rfl
        | ret r ρ' =>
          cases r with
          | v d =>
            cases hf
            intro v σ' G' H' e' S' R'
            obtain ⟨o1, S2⟩ := back S'
            exact P v G' H' o1 S2 R'
          | n d =>
            cases hf
            intro v σ' G' H' e' S' R'
            obtain ⟨o1, S2⟩ := back S'
            obtain ⟨a, rfl, g, h0, w, _⟩ := R'
            refine P _ G' H' o1 S2 ⟨a, rfl, g, (S.free (show H a = none from h0)).1, w, fun i x h1 h2 => ?_⟩
            obtain ⟨y, hy⟩ := puts_own h1
            obtain ⟨v, h3, a', e4, g4, h04, w4⟩ := S.slot i _ hy
            rw [h2] at h3
            cases h3; cases e4
            obtain ⟨o, ho⟩ := w4.there
            rw [show H a = none from h0] at ho
            cases ho
          | s i => cases hf
        | ex r ρ' =>
          cases hf
          intro c d σ' G' H' e' S' R'
          obtain ⟨o1, S2⟩ := back S'
          exact P c d G' H' o1 S2 R'
        | bk ρ' => cases hf
        | ct ρ' => cases hf
    · simp only [if_neg hn] at hf; cases hf
theorem evs_len : ∀ {fs : List (M R)} {ρ ρ' : EV} {rs : List R}, evs fs ρ = some (.ok rs ρ') → rs.length = fs.length
  | [], ρ, ρ', rs, h => by cases h; rfl
  | f :: fs, ρ, ρ', rs, h => by
    rcases bind_ok h with ⟨r, ρ1, h1, h2⟩ | ⟨q, ρ1, h1, h2⟩
    · rcases bind_ok h2 with ⟨rs1, ρ2, h3, h4⟩ | ⟨q, ρ1, h3, h4⟩
      · cases h4
        rw [List.length_cons, List.length_cons, evs_len h3]
      · cases h4
    · cases h2
theorem pd_call {x : Str} {p : Pos} {k : Nat} {fA : Addr} {fd : FuncData} {ps N : List Str} {fb : F} (Fo : FnOk X.prog X.w X.kw X.mg X.base (L2.CX X.prog X.w) k fA fd ps (spD X.kw ps N fb)) (hr : Room k X.A) (hg : Gl X x) (hm : X.mg x = some (.ref fA))
    (hk : PySem.W.keepIn X.kw (.ref fA) = true) (hb : Binds X.kw fd ps []) (tk : Takes X W) (ha : PAs X C W (e :: es) (evs fs)) (hl : fs.length = ps.length := by rfl) (hN : ps.length ≤ N.length := by decide)
    (hdb : (x == ("__debug__" : Str)) = false := by decide) (he : starEach (e :: es) X.env = (false, eval e X.env) :: starEach es X.env := by rfl) (hpl : (backTo pos (starEach es X.env)).any (·.1) = false := by rfl) :
    PD X C W (.Call (.Name x p) (e :: es) [] pos) (fCall fb N.length fs) := PE.of (pe_callS Fo hr hg hm hk hb (fun σ => passAt tk σ) ha hdb he hpl) fun σ H Q ⟨G, ρ, x, S, hf, P⟩ => by
  rcases bind_ok hf with ⟨rs, ρ1, h1, h2⟩ | ⟨q, ρ1, h1, rfl⟩
  · refine ⟨G, ρ, _, S, h1, fun vs G1 H1 e1 S1 R1 => call_go S1 R1 h2 ?_ (by rw [evs_len h1, hl]) hN⟩
    cases x with
    | ok r ρ' => exact fun v G' H' e S' R' => P v G' H' (e1.trans e) S' R'
    | ex e ρ' => exact fun c d G' H' e S' R' => P c d G' H' (e1.trans e) S' R'
  · exact ⟨G, ρ, _, S, h1, P⟩
end
section
variable {P : Program} {w : World} {K : PySem.W.Frag} {mg : Str → Option Value} {base : Heap}
/-- THE RULE for a def: its body as data -/
theorem fn_dl {x qual : Str} {st : Stmt} {f : Addr} {fd : FuncData} {N ps : List Str} {k : Nat} {fb : F} (F : Fun K x qual st f fd) (S : FnScope N ps (defScope st))
    (hb : ∀ (cdv : Value) (A : Around) (outer : List Env) (s : Shared) (H : Hp) (E : XK) (C : Ctl), Room k (A.deeper (envOfC qual (defScope st) s.heap.objs.size f cdv)) →
      PQs (cxOf (L2.CX P w) P w K mg base N qual (defScope st) f cdv A outer s H E) C (fun c d _ H' => E c d H') (defBody st) fb) : FnOk P w K mg base (L2.CX P w) (k + 1) f fd ps (spD ⟨K, w⟩ ps N fb) :=
  F.okX S (fun vs H Q E h => h.1) fun cdv A outer s H vs Q E hr ⟨_, G, A0, q⟩ => ⟨_, hb cdv A outer s H E ⟨H, G, A0, 0⟩ hr, q⟩
end
end DL
set_option Elab.async false
set_option linter.all false
set_option maxRecDepth 100000
set_option maxHeartbeats 4000000
namespace DL
open PySem PySem.Spec PyProof.Rows L2

/-! ### list comprehensions -/
def compL (vs : List Nat) (tg : Tg) (tt : M Bool) (el : M R) : List D → List D → M (List D)
  | [], acc => fun ρ => some (.ok acc ρ)
  | d :: ds, acc => fun ρ => match tg d ρ with
    | none => none
    | some ρ1 => (match tt ρ1 with
      | some (.ok true ρ2) => (match el ρ2 with
        | some (.ok (.v y) ρ3) => if szOk (acc.length + 1) then compL vs tg tt el ds (acc ++ [y]) (ρ3.kills vs) else none
        | _ => none)
      | some (.ok false ρ2) => compL vs tg tt el ds acc (ρ2.kills vs)
      | _ => none)
def fComp (src : M (List D)) (vs : List Nat) (tg : Tg) (tt : M Bool) (el : M R) : M R := src.bind fun ds => fun ρ => match compL vs tg tt el ds [] (ρ.kills vs) with
  | some (.ok acc ρ') => some (.ok (.n (.lst acc)) ρ')
  | _ => none
def mYes : M Bool := M.ret true
abbrev PTd (X : Cx) (C : Ctl) (W : WX) (ifs : List Expr) (f : M Bool) : Prop := PTs X ifs (tDT X.kw C W f)
section
variable {K : KW} {C : Ctl} {G G' H H' : Hp} {σ σ' : L2.St} {ρ : EV} {Da : Addr} {xs : List V}
/-- slots that nothing is known of may be anything -/
theorem Sta.resig (S : Sta K C G H σ ρ) (hl : σ'.length = σ.length) (h : ∀ (i : Nat) s, ρ.sl[i]? = some (some s) → σ'[i]? = σ[i]?) : Sta K C G H σ' ρ :=
  { S with
    len := by rw [hl, S.len]
    slot := fun i s e => by
      obtain ⟨v, h1, h2⟩ := S.slot i s e
      exact ⟨v, by rw [h i s e]; exact h1, h2⟩
    dist := fun i j d e v h1 h2 h3 h4 => S.dist i j d e v h1 h2 (by rw [← h i _ h1]; exact h3) (by rw [← h j _ h2]; exact h4) }
theorem kills_out : ∀ {vs : List Nat} {ρ : EV} {i : Nat} {s : Slot}, (ρ.kills vs).sl[i]? = some (some s) → i ∉ vs ∧ ρ.sl[i]? = some (some s)
  | [], ρ, i, s, h => ⟨by simp, h⟩
  | v :: vs, ρ, i, s, h => by
    obtain ⟨h1, h2⟩ := kills_out (vs := vs) (ρ := ρ.kill v) h
    by_cases hi : v = i
    · subst hi
      have hl : v < ρ.sl.length := by
        have := (List.getElem?_eq_some_iff.mp h2).1
        simpa [EV.kill] using this
      simp only [EV.kill, List.getElem?_set_self hl] at h2
      cases h2
    · simp only [EV.kill, List.getElem?_set_ne hi] at h2
      exact ⟨by simp only [List.mem_cons, not_or]; exact ⟨fun e => hi e.symm, h1⟩, h2⟩
theorem wipe_out' {σ : L2.St} {i : Nat} : ∀ {vs : List Nat}, i ∉ vs → (wipe σ vs)[i]? = σ[i]?
  | [], _ => rfl
  | v :: vs, h => by
    simp only [List.mem_cons, not_or] at h
    unfold wipe
    rw [List.getElem?_set_ne (fun e => h.1 e.symm)]
    exact wipe_out' h.2
theorem wipe_in {σ : L2.St} {i : Nat} : ∀ {vs : List Nat}, i ∈ vs → i < σ.length → (wipe σ vs)[i]? = some none
  | [], h, _ => by cases h
  | v :: vs, h, hl => by
    unfold wipe
    by_cases hi : v = i
    · subst hi
      rw [List.getElem?_set_self (by rw [wipe_length]; exact hl)]
    · rw [List.getElem?_set_ne hi]
      refine wipe_in ?_ hl
      rcases List.mem_cons.mp h with e | e
      · exact absurd e.symm hi
      · exact e
theorem wipe_same {vs : List Nat} (b : But vs (wipe σ vs) σ') : wipe σ' vs = wipe σ vs := by
  have l : σ'.length = σ.length := by rw [b.1, wipe_length]
  apply List.ext_getElem?
  intro i
  by_cases hi : i ∈ vs
  · by_cases hl : i < σ.length
    · rw [wipe_in hi (by omega), wipe_in hi hl]
    · rw [List.getElem?_eq_none (by rw [wipe_length]; omega), List.getElem?_eq_none (by rw [wipe_length]; omega)]
  · rw [wipe_out' hi, wipe_out' hi, b.2 i hi, wipe_out' hi]
/-- an object Da of ours (no slot's) is locked for a while -/
abbrev Ctl.lock (C : Ctl) (Da : Addr) (o : HO) : Ctl := ⟨upd C.H0 Da o, C.G0, C.A0, C.xa⟩
structure Loose (C : Ctl) (G H : Hp) (σ : L2.St) (ρ : EV) (Da : Addr) (xs : List V) : Prop where
  at_ : H Da = some (.lst xs)
  g : G Da = none
  h0 : C.H0 Da = none
  ns : ∀ (i : Nat) d, ρ.sl[i]? = some (some (.own d)) → σ[i]? ≠ some (some (.ref Da))
theorem Sta.lock (S : Sta K C G H σ ρ) (L : Loose C G H σ ρ Da xs) : Sta K (C.lock Da (.lst xs)) G H σ ρ :=
  { S with
    new := fun a o e => by
      have ne : a ≠ Da := fun z => by rw [z, L.g] at e; cases e
      rcases S.new a o e with h | h
      · exact .inl h
      · exact .inr (by show upd C.H0 Da _ a = none; rw [upd_ne ne]; exact h)
    base := fun b o e hA => by
      by_cases hb : b = Da
      · subst hb
        have e' : upd C.H0 b (.lst xs) b = some o := e
        rw [upd_same] at e'; cases e'
        exact L.at_
      · have e' : upd C.H0 Da (.lst xs) b = some o := e
        rw [upd_ne hb] at e'
        exact S.base b o e' hA
    slot := fun i s e => by
      obtain ⟨v, h1, h2⟩ := S.slot i s e
      refine ⟨v, h1, ?_⟩
      cases s with
      | val d => exact h2
      | own d =>
        obtain ⟨a, rfl, g, h0, w⟩ := h2
        have ne : a ≠ Da := fun z => by subst z; exact L.ns i d e h1
        exact ⟨a, rfl, g, by show upd C.H0 Da _ a = none; rw [upd_ne ne]; exact h0, w⟩
      | par k => exact h2
      | xn => exact h2
    pin := fun a ha => by
      obtain ⟨o, e⟩ := S.pin a ha
      have ne : a ≠ Da := fun z => by rw [z, L.h0] at e; cases e
      exact ⟨o, by show upd C.H0 Da _ a = some o; rw [upd_ne ne]; exact e⟩ }
theorem Sta.unlock (S : Sta K (C.lock Da (.lst xs)) G H σ ρ) (h0 : C.H0 Da = none) (g0 : C.G0 Da = none) (pin : ∀ a, a ∈ C.A0 → ∃ o, C.H0 a = some o) : Sta K C G H σ ρ ∧ Loose C G H σ ρ Da xs := by
  have nA : Da ∉ C.A0 := fun m => by obtain ⟨o, e⟩ := pin Da m; rw [h0] at e; cases e
  have gD : G Da = none := by
    cases e : G Da with
    | none => rfl
    | some o =>
      rcases S.new Da o e with z | z
      · rw [show C.G0 Da = some o from z] at g0; cases g0
      · have z' : upd C.H0 Da (.lst xs) Da = none := z
        rw [upd_same] at z'; cases z'
  have own : ∀ (i : Nat) d, ρ.sl[i]? = some (some (.own d)) → ∃ a, σ[i]? = some (some (.ref a)) ∧ a ≠ Da ∧ G a = none ∧ C.H0 a = none ∧ View K G H d a := fun i d e => by
    obtain ⟨v, h1, a, rfl, g, z, w⟩ := S.slot i _ e
    have ne : a ≠ Da := fun q => by
      subst q
      have z' : upd C.H0 a (.lst xs) a = none := z
      rw [upd_same] at z'; cases z'
    have z' : upd C.H0 Da (.lst xs) a = none := z
    rw [upd_ne ne] at z'
    exact ⟨a, h1, ne, g, z', w⟩
  refine ⟨{ S with
    new := fun a o e => by
      rcases S.new a o e with h | h
      · exact .inl h
      · have h' : upd C.H0 Da (.lst xs) a = none := h
        have ne : a ≠ Da := fun z => by subst z; rw [upd_same] at h'; cases h'
        rw [upd_ne ne] at h'
        exact .inr h'
    base := fun b o e hA => by
      have ne : b ≠ Da := fun z => by rw [z, h0] at e; cases e
      exact S.base b o (by show upd C.H0 Da _ b = some o; rw [upd_ne ne]; exact e) hA
    slot := fun i s e => by
      cases s with
      | own d =>
        obtain ⟨a, h1, ne, g, z, w⟩ := own i d e
        exact ⟨_, h1, a, rfl, g, z, w⟩
      | val d => exact S.slot i _ e
      | par k => exact S.slot i _ e
      | xn => exact S.slot i _ e
    pin := pin }, S.base Da _ (by show upd C.H0 Da _ Da = _; rw [upd_same]) nA, gD, h0, fun i d e q => ?_⟩
  obtain ⟨a, h1, ne, _⟩ := own i d e
  rw [h1] at q
  cases q
  exact ne rfl
end
section
variable {X : Cx} {C : Ctl} {W : WX} {e a b c o tg : Expr} {es rest : List Expr} {pos : Pos} {f g h : M R} {fs : List (M R)} {t : M Bool}
theorem ptd_nil : PTd X C W [] mYes := ⟨fun pins s σ H Q I ⟨G, ρ, x, S, hf, P⟩ => by
  cases hf
  exact pts_nil.run pins s σ H Q I (P G H (Same.refl _) S)⟩
theorem ptd_one (h : PB X C W c t) : PTd X C W [c] t := pts_one h
abbrev W0 : WX := fun _ _ _ _ => False
theorem lc_go {src : M (List D)} {vs sl : List Nat} {tgf : Tg} {el : M R} {tt : M Bool} {σ : L2.St} {H : Hp} {Q : VK} (q0 : tD X.kw C W (fComp src vs tgf tt el) σ H Q) (hsl : ∀ i ∈ sl, i ∈ vs) :
    tLc (tId X.kw C W src) (fun v σ H Q => ∃ C', tGd X.kw C' tgf sl v σ H Q) (fun σ H Q => ∃ C', tDT X.kw C' W0 tt σ H Q) (fun σ H Q => ∃ C', tD X.kw C' W0 el σ H Q) vs σ H Q := by
  obtain ⟨G, ρ, x, S, hf, P⟩ := q0
  rcases bind_ok hf with ⟨ds, ρ1, h1, h2⟩ | ⟨q, ρ1, h1, rfl⟩
  · refine ⟨G, ρ, _, S, h1, fun J G1 H1 e1 S1 jk D hD => ?_⟩
    have h3 : ∃ acc ρ', compL vs tgf tt el ds [] (ρ1.kills vs) = some (.ok acc ρ') ∧ x = .ok (.n (.lst acc)) ρ' := by
      have h2' : (match compL vs tgf tt el ds [] (ρ1.kills vs) with
        | some (.ok acc ρ') => some (XR.ok (R.n (.lst acc)) ρ')
        | _ => none) = some x := h2
      split at h2'
      · rename_i acc ρ' hq
        exact ⟨acc, ρ', hq, (Option.some.inj h2').symm⟩
      · cases h2'
    obtain ⟨accF, ρF, h3, rfl⟩ := h3
    have fr := S1.free hD
    have g0D : C.G0 D = none := by
      cases z : C.G0 D with
      | none => rfl
      | some o => rw [S1.old D o z] at fr; exact absurd fr.2.1 (by simp)
    have S2 : Sta X.kw C G1 (upd H1 D (.lst [])) σ (ρ1.kills vs) := (S1.lay hD _).kills vs
    have L2' : Loose C G1 (upd H1 D (.lst [])) σ (ρ1.kills vs) D [] := ⟨upd_same, fr.2.1, fr.1, fun i d q1 q2 => by
      obtain ⟨v, h4, a, e5, _, _, w⟩ := S1.slot i _ (kills_out q1).2
      rw [q2] at h4; cases h4; cases e5
      obtain ⟨u, hu⟩ := w.there
      rw [hD] at hu; cases hu⟩
    refine ⟨fun i m Hh => i ≤ ds.length ∧ m = ds.length - i ∧ ∃ G' ρ' acc xs, Same G1 G' ∧ Sta X.kw C G' Hh σ ρ' ∧ Loose C G' Hh σ ρ' D xs ∧ RepL X.kw G' acc xs ∧ (∀ (j : Nat) s, ρ'.sl[j]? = some (some s) → j ∉ vs) ∧ compL vs tgf tt el (ds.drop i) acc ρ' = some (.ok accF ρF),
      ⟨ds.length, Nat.zero_le _, rfl, G1, ρ1.kills vs, [], [], Same.refl _, S2, L2', RepL.nil, fun j s hj => (kills_out hj).1, h3⟩, ?_⟩
    rintro i m Hh ⟨hi, rfl, G', ρ', acc, xs, e', S', L', r', nv, hx⟩
    by_cases hlt : i < ds.length
    · -- a turn
      have SL : Sta X.kw (C.lock D (.lst xs)) G' Hh σ ρ' := S'.lock L'
      obtain ⟨j1, j2⟩ := jk (C.lock D (.lst xs)) i G' Hh σ ρ' e' SL
      obtain ⟨go, jy⟩ := j2 ds[i] (List.getElem?_eq_getElem hlt)
      have hd : ds.drop i = ds[i] :: ds.drop (i + 1) := List.drop_eq_getElem_cons hlt
      rw [hd] at hx
      refine .inr ⟨go, fun Hh2 => ∃ G2 ρ2 acc2 xs2, Same G1 G2 ∧ Sta X.kw C G2 Hh2 σ ρ2 ∧ Loose C G2 Hh2 σ ρ2 D xs2 ∧ RepL X.kw G2 acc2 xs2 ∧ (∀ (j : Nat) s, ρ2.sl[j]? = some (some s) → j ∉ vs) ∧ compL vs tgf tt el (ds.drop (i + 1)) acc2 ρ2 = some (.ok accF ρF),
        fun Hh2 z => ⟨ds.length - (i + 1), by omega, hlt, rfl, z⟩, fun v H3 y => ?_⟩
      obtain ⟨G3, e3, S3, R3⟩ := jy v H3 y
      unfold compL at hx
      cases e4 : tgf ds[i] ρ' with
      | none => rw [e4] at hx; cases hx
      | some ρ4 =>
        rw [e4] at hx
        have S3w : Sta X.kw (C.lock D (.lst xs)) G3 H3 (wipe σ vs) ρ' := S3.resig (wipe_length _ _) fun j s hj => wipe_out' (nv j s hj)
        refine ⟨C.lock D (.lst xs), G3, ρ', ds[i], ρ4, S3w, R3, e4, fun σ4 G4 H4 e5 S4 b4 => ?_⟩
        have b4' : But vs (wipe σ vs) σ4 := b4.mono hsl
        refine ⟨wipe_same b4', ?_⟩
        have hx' : (match tt ρ4 with
          | some (.ok true ρ2) => (match el ρ2 with
            | some (.ok (.v y) ρ3) => if szOk (acc.length + 1) then compL vs tgf tt el (ds.drop (i + 1)) (acc ++ [y]) (ρ3.kills vs) else none
            | _ => none)
          | some (.ok false ρ2) => compL vs tgf tt el (ds.drop (i + 1)) acc (ρ2.kills vs)
          | _ => none) = some (.ok accF ρF) := hx
        -- back to the slots ahead of the turn
        have home : ∀ {G5 H5 ρ5}, Sta X.kw (C.lock D (.lst xs)) G5 H5 σ4 ρ5 → Sta X.kw C G5 H5 σ (ρ5.kills vs) ∧ Loose C G5 H5 σ (ρ5.kills vs) D xs := fun {G5 H5 ρ5} S5 => by
          have S6 : Sta X.kw (C.lock D (.lst xs)) G5 H5 σ (ρ5.kills vs) := (S5.kills vs).resig (by rw [b4'.1, wipe_length]) fun j s hj => by
            have nj := (kills_out hj).1
            rw [b4'.2 j nj, wipe_out' nj]
          exact S6.unlock fr.1 g0D S'.pin
        cases e6 : tt ρ4 with
        | none => rw [e6] at hx'; cases hx'
        | some y6 =>
          rw [e6] at hx'
          cases y6 with
          | ex r ρ5 => cases hx'
          | ok bb ρ5 =>
            refine ⟨C.lock D (.lst xs), G4, ρ4, _, S4, e6, fun G5 H5 e7 S5 => ?_⟩
            have e15 : Same G1 G5 := ((e'.trans e3).trans e5).trans e7
            cases bb with
            | false =>
              obtain ⟨S6, L6⟩ := home S5
              refine iteF ?_
              exact ⟨G5, _, acc, xs, e15, S6, L6, r'.mono ((e3.trans e5).trans e7), fun j s hj => (kills_out hj).1, hx'⟩
            | true =>
              refine iteT ?_
              have hx2 : (match el ρ5 with
                | some (.ok (.v y) ρ3) => if szOk (acc.length + 1) then compL vs tgf tt el (ds.drop (i + 1)) (acc ++ [y]) (ρ3.kills vs) else none
                | _ => none) = some (.ok accF ρF) := hx'
              cases e8 : el ρ5 with
              | none => rw [e8] at hx2; cases hx2
              | some y8 =>
                rw [e8] at hx2
                cases y8 with
                | ex r ρ6 => cases hx2
                | ok r ρ6 =>
                  cases r with
                  | v y =>
                    have hx3 : (if szOk (acc.length + 1) then compL vs tgf tt el (ds.drop (i + 1)) (acc ++ [y]) (ρ6.kills vs) else none) = some (.ok accF ρF) := hx2
                    by_cases hz : szOk (acc.length + 1)
                    · rw [if_pos hz] at hx3
                      refine ⟨C.lock D (.lst xs), G5, ρ5, _, S5, e8, fun u G6 H6 e9 S6 R6 => ?_⟩
                      obtain ⟨S7, L7⟩ := home S6
                      have r6 : RepL X.kw G6 acc xs := r'.mono (((e3.trans e5).trans e7).trans e9)
                      have hz2 := hz.line
                      rw [r6.length] at hz2
                      refine ⟨xs, L7.at_, hz2, G6, _, acc ++ [y], xs ++ [u], e15.trans e9, ?_, ?_, r6.append (RepL.cons R6 RepL.nil), fun j s hj => (kills_out hj).1, hx3⟩
                      · -- the list at D is written
                        refine S7.turn (fun b o q => ?_) (Same.refl _) (fun a o q => .inl q) (fun b o q _ _ => ?_) (fun j d a q1 q2 => ?_) (fun a ha => ?_)
                        · rw [upd_ne (fun z => by rw [z, L7.g] at q; cases q)]; exact S7.sub b o q
                        · rename_i q1 q2
                          obtain ⟨o', q1⟩ := q1
                          rw [upd_ne (fun z => by rw [z, L7.h0] at q1; cases q1)]; exact q
                        · obtain ⟨v7, h7, a7, e77, g7, _, w7⟩ := S7.slot j _ q1
                          rw [q2] at h7; cases h7; cases e77
                          exact ⟨g7, upd_ne (fun z => by subst z; exact L7.ns j d q1 q2)⟩
                        · refine ⟨(S7.parAt ha).1, upd_ne (fun z => by
                            obtain ⟨o', q1⟩ := S7.pin a ha
                            rw [z, L7.h0] at q1; cases q1)⟩
                      · exact ⟨upd_same, L7.g, L7.h0, L7.ns⟩
                    · rw [if_neg hz] at hx3; cases hx3
                  | _ => cases hx2
    · have ei : i = ds.length := by omega
      subst ei
      rw [List.drop_length] at hx
      cases hx
      obtain ⟨j1, _⟩ := jk C ds.length G' Hh σ ρF e' S'
      refine .inl ⟨j1 (Nat.le_refl _), P (.ref D) G' Hh (e1.trans e') S' ⟨D, rfl, L'.g, L'.h0, ⟨xs, L'.at_, r'⟩, L'.ns⟩⟩
  · exact ⟨G, ρ, _, S, h1, P⟩
theorem PG.ex {u : Ctl → TG} (h : ∀ C, PG X tg (u C)) : PG X tg (fun v σ H Q => ∃ C', u C' v σ H Q) := ⟨fun pins s σ H v uu Q I r ⟨C', q⟩ => (h C').run pins s σ H v uu Q I r q⟩
theorem PTs.ex {ifs : List Expr} {u : Ctl → TT} (h : ∀ C, PTs X ifs (u C)) : PTs X ifs (fun σ H Q => ∃ C', u C' σ H Q) := ⟨fun pins s σ H Q I ⟨C', q⟩ => (h C').run pins s σ H Q I q⟩
theorem PE.ex {u : Ctl → TE} (h : ∀ C, PE X e (u C)) : PE X e (fun σ H Q => ∃ C', u C' σ H Q) := ⟨fun pins s σ H Q I ⟨C', q⟩ => (h C').run pins s σ H Q I q⟩
theorem pd_lc {elt tg iter : Expr} {ifs : List Expr} {scope : Scope} {own : List (Str × Nat)} {src : M (List D)} {tgf : Tg} {tt : M Bool} {el : M R} {sl : List Nat} (hc : X.calm = true) (hN : X.N.Nodup) (hi : PId X C W tg iter src) (ok : BlkOk X.N X.env.scope scope own) (hsl : ∀ i ∈ sl, i ∈ own.map (·.2))
    (hg : ∀ (C' : Ctl) (s : Shared) (H : Hp) (c : Addr) (cl : List (Str × Addr)) (fp : List Addr), PGd (X.blk s H scope (compEnvC scope cl c X.env) fp) C' tg tgf sl)
    (ht : ∀ (C' : Ctl) (s : Shared) (H : Hp) (c : Addr) (cl : List (Str × Addr)) (fp : List Addr), PTd (X.blk s H scope (compEnvC scope cl c X.env) fp) C' W0 ifs tt)
    (he : ∀ (C' : Ctl) (s : Shared) (H : Hp) (c : Addr) (cl : List (Str × Addr)) (fp : List Addr), PD (X.blk s H scope (compEnvC scope cl c X.env) fp) C' W0 elt el) (hs : ∀ x, foldedSetIterable iter X.env x = pure x := by intro _; rfl) :
    PD X C W (.ListComp elt [⟨tg, iter, ifs, 0⟩] scope pos) (fComp src (own.map (·.2)) tgf tt el) :=
  PE.of (pe_lc hc hN hi ok (fun s H c cl fp => PG.ex fun C' => hg C' s H c cl fp) (fun s H c cl fp => PTs.ex fun C' => ht C' s H c cl fp) (fun s H c cl fp => PE.ex fun C' => he C' s H c cl fp) hs) fun σ H Q q => lc_go q hsl
theorem pq_setLc {i : Nat} {y : Str} {py spos : Pos} {elt tg iter : Expr} {ifs : List Expr} {scope : Scope} {own : List (Str × Nat)} {src : M (List D)} {tgf : Tg} {tt : M Bool} {el : M R} {sl : List Nat} (hc : X.calm = true) (hN : X.N.Nodup) (hy : X.N[i]? = some y) (hyl : X.env.scope.names.lookup y = some .local)
    (hsw : swapsWith (.ListComp elt [⟨tg, iter, ifs, 0⟩] scope pos) (some (.Name y py)) spos.line X.env = pure true) (hi : PId X C W tg iter src) (ok : BlkOk X.N X.env.scope scope own) (hsl : ∀ i ∈ sl, i ∈ own.map (·.2))
    (hg : ∀ (C' : Ctl) (s : Shared) (H : Hp) (c : Addr) (cl : List (Str × Addr)) (fp : List Addr), PGd (X.blk s H scope (compEnvC scope cl c X.env) fp) C' tg tgf sl)
    (ht : ∀ (C' : Ctl) (s : Shared) (H : Hp) (c : Addr) (cl : List (Str × Addr)) (fp : List Addr), PTd (X.blk s H scope (compEnvC scope cl c X.env) fp) C' W0 ifs tt)
    (he : ∀ (C' : Ctl) (s : Shared) (H : Hp) (c : Addr) (cl : List (Str × Addr)) (fp : List Addr), PD (X.blk s H scope (compEnvC scope cl c X.env) fp) C' W0 elt el) (hs : ∀ x, foldedSetIterable iter X.env x = pure x := by intro _; rfl) :
    PQ X C W (.Assign [.Name y py] (.ListComp elt [⟨tg, iter, ifs, 0⟩] scope pos) spos) (fSetN i (fComp src (own.map (·.2)) tgf tt el)) :=
  pq_of (ps_setLc hc hN hy hyl hsw hi ok (fun s H c cl fp => PG.ex fun C' => hg C' s H c cl fp) (fun s H c cl fp => PTs.ex fun C' => ht C' s H c cl fp) (fun s H c cl fp => PE.ex fun C' => he C' s H c cl fp) hs) fun D σ H q0 => by
    have q1 := tS.ofE (Q := fun x H1 => gName i x σ H1 D.nx) q0 fun r ρ1 x v G1 H1 S1 R1 h2 P => by
      cases r with
      | v d => cases h2; exact P _ G1 H1 (Same.refl _) (S1.setVal R1 i)
      | n d => cases h2; exact P _ G1 H1 (Same.refl _) (S1.setOwn R1 i)
      | s j => cases h2
    exact lc_go q1 hsl
end
end DL
set_option Elab.async false
set_option linter.all false
set_option maxRecDepth 100000
set_option maxHeartbeats 4000000
namespace DL
open PySem PySem.Spec PyProof.Rows L2

/-! ### f-strings -/
def fFmt (f : M R) : M R := f.bind fun r => fun ρ => match r with
  | .v (.str y) => if szOk y.length then some (.ok (.v (.str y)) ρ) else none
  | .v (.int i) => if i.natAbs.log2 < 1920 then some (.ok (.v (.str (toString i))) ρ) else none
  | _ => none
def fJs : List (M R) → Str → M R
  | [], acc => M.ret (.v (.str acc))
  | f :: fs, acc => f.bind fun r => match r with
    | .v (.str y) => fun ρ => if szOk (acc ++ y).length then fJs fs (acc ++ y) ρ else none
    | _ => fun _ => none
section
variable {X : Cx} {C : Ctl} {W : WX} {e a b c o tg : Expr} {es rest : List Expr} {pos : Pos} {f g h : M R} {fs : List (M R)} {t : M Bool} {sts sts2 : List Stmt} {p q : F}
theorem pd_fmt (he : PD X C W e f) : PD X C W (.FormattedValue e (-1) none pos) (fFmt f) := PE.of (pe_fmt he) fun σ H Q ⟨G, ρ, x, S, hf, P⟩ => by
  refine tD.seq S hf P fun r ρ1 v G1 H1 e1 S1 R1 h2 P1 => ?_
  cases r with
  | v d =>
    cases d with
    | str y =>
      have h3 : (if szOk y.length then some (XR.ok (R.v (.str y)) ρ1) else none) = some x := h2
      split at h3
      · rename_i hz
        cases h3
        exact .inl ⟨y, R1, hz.line, P1 _ G1 H1 (Same.refl _) S1 rfl⟩
      · cases h3
    | int i =>
      have h3 : (if i.natAbs.log2 < 1920 then some (XR.ok (R.v (.str (toString i))) ρ1) else none) = some x := h2
      split at h3
      · rename_i hz
        cases h3
        exact .inr ⟨i, R1, hz, P1 _ G1 H1 (Same.refl _) S1 rfl⟩
      · cases h3
    | _ => cases h2
  | _ => cases h2
inductive PJd (X : Cx) (C : Ctl) (W : WX) : List Expr → List (M R) → Prop where
  | nil : PJd X C W [] []
  | cons {e : Expr} {f : M R} {es : List Expr} {fs : List (M R)} : PD X C W e f → PJd X C W es fs → PJd X C W (e :: es) (f :: fs)
theorem pj_of : ∀ {es : List Expr} {fs : List (M R)}, PJd X C W es fs → PJ X es (fs.map fun f => tD X.kw C W f)
  | _, _, .nil => .nil
  | _, _, .cons h t => .cons h (pj_of t)
theorem js_go {σ : L2.St} {Q : VK} : ∀ {fs : List (M R)} {acc : Str} {G H : Hp} {ρ : EV} {x : XR R}, Sta X.kw C G H σ ρ → fJs fs acc ρ = some x → XPost X.kw C W G σ x Q → tJs (fs.map fun f => tD X.kw C W f) acc σ H fun out H1 => Q (.str out) H1
  | [], acc, G, H, ρ, x, S, hf, P => by
    cases hf
    exact P _ G H (Same.refl _) S rfl
  | f :: fs, acc, G, H, ρ, x, S, hf, P => by
    show tD X.kw C W f σ H _
    refine tD.seq S hf P fun r ρ1 v G1 H1 e1 S1 R1 h2 P1 => ?_
    cases r with
    | v d =>
      cases d with
      | str y =>
        have h3 : (if szOk (acc ++ y).length then fJs fs (acc ++ y) ρ1 else none) = some x := h2
        split at h3
        · rename_i hz
          exact ⟨y, R1, hz.line, js_go S1 h3 P1⟩
        · cases h3
      | _ => cases h2
    | _ => cases h2
theorem pd_joined (h : PJd X C W (a :: b :: rest) fs) : PD X C W (.JoinedStr (a :: b :: rest) pos) (fJs fs Str.empty) := PE.of (pe_joined (pj_of h)) fun σ H Q ⟨G, ρ, x, S, hf, P⟩ => js_go S hf P
theorem pd_joined1 (h : PD X C W a f) : PD X C W (.JoinedStr [a] pos) f := pe_joined1 h
/-! ### list(range(..)), tuple(range(..)) -/
def fRgL (src : M (List D)) : M R := src.bind fun ds => fun ρ => if szOk ds.length then some (.ok (.n (.lst ds)) ρ) else none
theorem rgV_rep {K : KW} {G : Hp} (i : Int) (n : Nat) : RepL K G (rangeL i n) ((List.range n).map fun k => V.int (i + (k : Nat))) := by
  unfold rangeL
  have aux : ∀ l : List Nat, RepL K G (l.map fun k => D.int (i + (k : Nat))) (l.map fun k => V.int (i + (k : Nat))) := fun l => by
    induction l with
    | nil => exact RepL.nil
    | cons k l ih => exact RepL.cons rfl ih
  exact aux _
theorem pd_listRg1 {p pp : Pos} {x2 : Pos} (hc : X.calm = true) (hg : Gl X "list") (hm : X.mg "list" = none) (hg2 : Gl X "range") (hm2 : X.mg "range" = none) (ha : PD X C W a f) (na : starEach [a] X.env = (false, eval a X.env) :: starEach [] X.env := by rfl)
    (na2 : starEach [Expr.Call (.Name "range" p) [a] [] pp] X.env = (false, eval (Expr.Call (.Name "range" p) [a] [] pp) X.env) :: starEach [] X.env := by rfl) :
    PD X C W (.Call (.Name "list" x2) [Expr.Call (.Name "range" p) [a] [] pp] [] pos) (fRgL (srcN rangeD1 [fNN f])) :=
  PE.of (pe_listRg hc hg hm (prg_1 hg2 hm2 ha na) na2) fun σ H Q ⟨G, ρ, x, S, hf, P⟩ => by
    rcases bind_ok hf with ⟨ds, ρ1, h1, h2⟩ | ⟨q, ρ1, h1, rfl⟩
    · rcases srcN_ok h1 with ⟨rs, ρ2, ds2, xs, h3, h4, h5, e5⟩ | ⟨q, ρ2, h3, e5⟩
      · cases e5
        have h2' : (if szOk ds.length then some (XR.ok (R.n (.lst ds)) ρ1) else none) = some x := h2
        split at h2'
        · rename_i hz
          cases h2'
          rcases bind_ok h3 with ⟨r, ρ3, h6, h7⟩ | ⟨q, ρ3, h6, h7⟩
          · rcases bind_ok h6 with ⟨r0, ρ0, h8, h9⟩ | ⟨q, ρ3, h8, h9⟩
            · rcases bind_ok h7 with ⟨r8, ρ8, h10, h11⟩ | ⟨q, ρ8, h10, h11⟩
              · cases h10
                cases h11
                refine ⟨G, ρ, _, S, h8, fun v G1 H1 e1 S1 R1 => ?_⟩
                cases r0 with
                | n d => cases h9
                | s i => cases h9; cases h4
                | v d =>
                  cases h9
                  cases h4
                  unfold rangeD1 at h5
                  split at h5
                  · rename_i j hj
                    split at h5
                    · rename_i hz2
                      cases h5
                      cases hj
                      have hl : j.toNat ≤ 2 ^ 24 := by
                        have := hz
                        simp only [rangeL, List.length_map, List.length_range] at this
                        exact this
                      refine ⟨j, R1, ⟨by decide, by decide, hz2.1, hz2.2, by rw [Int.sub_zero]; exact hl⟩, fun q hq => ?_⟩
                      refine P _ G1 _ e1 (S1.lay hq _) (S1.newList hq ?_)
                      unfold rgV
                      rw [Int.sub_zero]
                      exact rgV_rep 0 _
                    · cases h5
                  · cases h5
              · cases h10
            · cases h9
          · cases h7
        · cases h2'
      · cases e5
    · rcases srcN_ok h1 with ⟨rs, ρ2, ds2, xs, h3, h4, h5, e5⟩ | ⟨q2, ρ2, h3, e5⟩
      · cases e5
      · cases e5
        rcases bind_ok h3 with ⟨r, ρ3, h6, h7⟩ | ⟨q3, ρ3, h6, h7⟩
        · rcases bind_ok h7 with ⟨r8, ρ8, h10, h11⟩ | ⟨q8, ρ8, h10, h11⟩
          · cases h11
          · cases h10
        · cases h7
          rcases bind_ok h6 with ⟨r0, ρ0, h8, h9⟩ | ⟨q9, ρ9, h8, h9⟩
          · cases r0 with
            | n d => cases h9
            | v d => cases h9
            | s i => cases h9
          · cases h9
            exact ⟨G, ρ, _, S, h8, P⟩
/-! ### a dict of the module with text keys -/
def KeysAre (K : KW) (a : Addr) (kvs : List (Str × D)) : Prop := ∀ z : Str, ∃ r, PySem.W.nsIn K a z = some r ∧ r.isSome = (kvs.lookup z).isSome ∧ ∀ d, kvs.lookup z = some d → ∃ u v, r = some u ∧ RelV v u ∧ ∀ G, Rep K G d v
def inKD (kvs : List (Str × D)) : D → Option R
  | .str z => some (.v (.bl (kvs.lookup z).isSome))
  | _ => none
def ixKD (kvs : List (Str × D)) : D → Option R
  | .str z => (match kvs.lookup z with
    | some d => some (.v d)
    | none => none)
  | _ => none
theorem in_kd {da : Addr} {es' : Array DictEntry} {n : Nat} {kvs : List (Str × D)} {x : Str} {px : Pos} (Dk : KDict X.kw X.w da es' n) (Kk : KeysAre X.kw da kvs) (ha : PD X C W a f) (hg : Gl X x) (hm : X.mg x = some (.ref da)) (hd : (x == ("__debug__" : Str)) = false := by decide) (hb : behindInMarks .In (.Name x px) = false := by rfl) :
    PD X C W (.Compare a [.In] [.Name x px] pos) (fUn (inKD kvs) f) := PE.of (pe_cmpR (op_in_kd Dk) ha (pe_glob (v := .ref da) hg hm rfl hd) hb) fun σ H Q ⟨G, ρ, x, S, hf, P⟩ => by
  refine tD.seq S hf P fun r ρ1 v G1 H1 e1 S1 R1 h2 P1 => ?_
  obtain ⟨d, q, l, hk, rfl⟩ := op1_ok h2
  unfold inKD at hk
  split at hk
  · cases hk
    obtain ⟨r, hr, hs, _⟩ := Kk _
    exact ⟨_, r, S1.look R1 l, rfl, hr, by rw [hs]; exact P1 _ G1 H1 (Same.refl _) S1 rfl⟩
  · cases hk
theorem inB_kd {da : Addr} {es' : Array DictEntry} {n : Nat} {kvs : List (Str × D)} {x : Str} {px : Pos} (Dk : KDict X.kw X.w da es' n) (Kk : KeysAre X.kw da kvs) (ha : PD X C W a f) (hg : Gl X x) (hm : X.mg x = some (.ref da)) (hd : (x == ("__debug__" : Str)) = false := by decide) (hb : behindInMarks .In (.Name x px) = false := by rfl) :
    PB X C W (.Compare a [.In] [.Name x px] pos) (fBool (fUn (inKD kvs) f)) := PT.by fun σ H Q q => ⟨_, pt_cmpR (op_in_kd Dk) ha (pe_glob (v := .ref da) hg hm rfl hd) hb, by
  obtain ⟨G, ρ, x, S, hf, P⟩ := test_go q
  refine tD.seq (Q := fun x H' => ∃ c, x = .bl c ∧ Q c H') S hf P fun r ρ1 v G1 H1 e1 S1 R1 h2 P1 => ?_
  obtain ⟨d, q, l, hk, rfl⟩ := op1_ok h2
  unfold inKD at hk
  split at hk
  · cases hk
    obtain ⟨r, hr, hs, _⟩ := Kk _
    refine ⟨_, r, S1.look R1 l, rfl, hr, ?_⟩
    rw [hs]
    exact P1 _ G1 H1 (Same.refl _) S1 rfl
  · cases hk⟩
/-- the entries of a written dict with text keys -/
theorem keys_of {K : PySem.W.Frag} {a : Addr} {ks : List Str} {P : Params} (h : He.dicW K a = some (He.keysIn P ks)) : ∀ z : Str, ∃ r, PySem.W.nsIn K a z = some r ∧ r.isSome = ks.contains z := by
  unfold He.dicW at h
  cases q : K.lookup a with
  | none => rw [q] at h; cases h
  | some o =>
    obtain ⟨oc, od, dt, osl⟩ := o
    rw [q] at h
    cases oc with
    | type c =>
      cases od with
      | none =>
        cases dt with
        | dict es n =>
          have h1 : (match decide (c = "dict") && (osl.isEmpty && !(a == sysModules)) with
            | true => some (es.toList.map He.keyOf)
            | false => none) = some (He.keysIn P ks) := h
          cases z : decide (c = "dict") && (osl.isEmpty && !(a == sysModules)) with
          | false => rw [z] at h1; cases h1
          | true =>
            rw [z] at h1
            have h2 : es.toList.map He.keyOf = He.keysIn P ks := Option.some.inj h1
            intro y
            have aux : ∀ (l : List DictEntry) (ks : List Str), l.map He.keyOf = He.keysIn P ks → (l.any (·.refKey) = false) ∧ (l.find? (·.key.isStr y)).isSome = ks.contains y := by
              intro l
              induction l with
              | nil => intro ks e; cases ks with
                | nil => exact ⟨rfl, rfl⟩
                | cons k ks => cases e
              | cons e l ih =>
                intro ks hh
                cases ks with
                | nil => cases hh
                | cons k ks =>
                  have h3 : He.keyOf e :: l.map He.keyOf = some (k, PyData.keyHash P k) :: He.keysIn P ks := hh
                  injection h3 with h4 h5
                  obtain ⟨i1, i2⟩ := ih ks h5
                  unfold He.keyOf at h4
                  split at h4
                  · rename_i x t q2
                    have h6 := Option.some.inj h4
                    obtain ⟨h7, _⟩ := Prod.mk.inj h6
                    subst h7
                    refine ⟨?_, ?_⟩
                    · rw [List.any_cons, i1]
                      simp [DictEntry.refKey, q2]
                    · rw [List.find?_cons, List.contains_cons, q2]
                      by_cases hy : y = x
                      · subst hy
                        simp [Value.isStr]
                      · have n0 : (x == y) = false := by simpa using (fun e : x = y => hy e.symm)
                        have n1 : Value.isStr (Value.str x t) y = false := n0
                        have n2 : (y == x) = false := by simpa using hy
                        simp only [n1, n2, Bool.false_or]
                        exact i2
                  · cases h4
            obtain ⟨a1, a2⟩ := aux es.toList ks h2
            unfold PySem.W.nsIn
            rw [q]
            show ∃ r, (match es.toList.find? (·.key.isStr y) with
              | some e => some (some e.val)
              | none => if es.toList.any (·.refKey) then none else some none) = some r ∧ _
            cases e3 : es.toList.find? (·.key.isStr y) with
            | some e => exact ⟨some e.val, rfl, by rw [← a2, e3]; rfl⟩
            | none => exact ⟨none, by simp [a1], by rw [← a2, e3]; rfl⟩
        | _ => cases h
      | some d => cases dt <;> cases h
    | _ => cases od <;> cases dt <;> cases h
/-! ### try, where nothing is raised -/
/-- the body raises nothing on the ways that are read -/
def fThru (f : F) : F := fun ρ => match f ρ with
  | some (.ex _ _) => none
  | o => o
/-! ### name op= e -/
def fAug (i : Nat) (k : D → D → Option R) (f : M R) : F := ofM (fBin k (fVar i) f) fun r ρ => match r with
  | .v d => some (.nx (ρ.set i (.val d)))
  | _ => none
end
end DL
set_option Elab.async false
set_option linter.all false
set_option maxRecDepth 100000
set_option maxHeartbeats 4000000
namespace DL
open PySem PySem.Spec PyProof.Rows L2

section
variable {X : Cx} {C : Ctl} {W : WX} {e a b c o tg : Expr} {es rest : List Expr} {pos : Pos} {f g h : M R} {fs : List (M R)} {t : M Bool} {st : Stmt} {sts sts2 body : List Stmt} {p q : F}
/-- try: body except ..: the body raises nothing on the ways that are read -/
theorem pq_thru {h₀ : ExceptHandler} {hs : List ExceptHandler} (hb : ∀ C, PQs X.nox C W0 body p) : PQ X C W (.Try body (h₀ :: hs) [] [] pos) (fThru p) := pq_of (ps_try_thru0 (hb C)) fun D σ H ⟨G, ρ, x, S, hf, P⟩ => by
  unfold fThru at hf
  cases e1 : p ρ with
  | none => rw [e1] at hf; cases hf
  | some y =>
    rw [e1] at hf
    cases y with
    | ex r ρ1 => cases hf
    | nx ρ1 => cases hf; exact ⟨G, ρ, _, S, e1, P⟩
    | ret r ρ1 => cases hf; exact ⟨G, ρ, _, S, e1, P⟩
    | bk ρ1 => cases hf; exact ⟨G, ρ, _, S, e1, P⟩
    | ct ρ1 => cases hf; exact ⟨G, ρ, _, S, e1, P⟩
theorem takes_nox {X : Cx} : Takes X.nox W0 := takes0
/-! ### a, b = x, y and a, b, c = x, y, z -/
def parV (is : List Nat) (rs : List R) : EV → Option Flow := fun ρ => match settled rs with
  | some ds => if is.length = ds.length then some (.nx ((is.zip ds).foldl (fun ρ p => ρ.set p.1 (.val p.2)) ρ)) else none
  | none => none
def fPar (is : List Nat) (fs : List (M R)) : F := ofM (evs fs) fun rs => parV is rs
theorem tS.ofA {K : KW} {k : List R → EV → Option Flow} {D : Ends} {σ : L2.St} {H : Hp} {Q : List V → Hp → Prop} (q0 : tS K C W (ofM (evs fs) k) D σ H)
    (hk : ∀ rs ρ1 x vs G1 H1, Sta K C G1 H1 σ ρ1 → RepRs K C G1 H1 σ ρ1 rs vs → k rs ρ1 = some x → SPost K C W G1 x D → Q vs H1) : tDA K C W (evs fs) σ H Q := by
  obtain ⟨G, ρ, x, S, hf, P⟩ := q0
  rcases ofM_ok hf with ⟨r, ρ1, h1, h2⟩ | ⟨q, ρ1, h1, rfl⟩
  · exact ⟨G, ρ, _, S, h1, fun v G1 H1 e1 S1 R1 => hk r ρ1 x v G1 H1 S1 R1 h2 (P.mono e1)⟩
  · exact ⟨G, ρ, _, S, h1, fun c d G' H' e' S' R' => P c d σ G' H' e' S' R'⟩
theorem pq_par {i j : Nat} {x y : Str} {px py pt : Pos} {kt k2 pt2} (hc : X.calm = true) (hN : X.N.Nodup) (hi : X.N[i]? = some x) (hj : X.N[j]? = some y) (hij : i ≠ j)
    (hx : X.env.scope.names.lookup x = some .local) (hy : X.env.scope.names.lookup y = some .local) (ha : PAs X C W [a, b] (evs fs))
    (hw : swappedStores [.Tuple [.Name x px, .Name y py] kt pt] (.Tuple [a, b] k2 pt2) X.env = pure (some [x, y]))
    (hs : swapsWithSole [.Tuple [.Name x px, .Name y py] kt pt] (.Tuple [a, b] k2 pt2) pos.line X.env = pure false := by rfl) :
    PQ X C W (.Assign [.Tuple [.Name x px, .Name y py] kt pt] (.Tuple [a, b] k2 pt2) pos) (fPar [i, j] fs) := pq_of (ps_par hc hN hi hj hij hx hy ha hw hs) fun D σ H q0 => tS.ofA q0 fun rs ρ1 x vs G1 H1 S1 R1 h2 P => by
  unfold parV at h2
  cases e1 : settled rs with
  | none => rw [e1] at h2; cases h2
  | some ds =>
    rw [e1] at h2
    have r := R1.settled e1
    match ds, h2, r with
    | [d1, d2], h2, r =>
      cases h2
      obtain ⟨v, v', rfl, r1, r2⟩ := repl2 r
      exact ⟨v, v', rfl, P _ G1 H1 (Same.refl _) ((S1.setVal r1 i).setVal r2 j)⟩
    | [], h2, r => simp at h2
    | [_], h2, r => simp at h2
    | _ :: _ :: _ :: _, h2, r => simp at h2
theorem repl3 {K : KW} {G : Hp} {d d' d'' : D} {vs : List V} (r : RepL K G [d, d', d''] vs) : ∃ v v' v'', vs = [v, v', v''] ∧ Rep K G d v ∧ Rep K G d' v' ∧ Rep K G d'' v'' := by
  obtain ⟨v, t, e, h, ht⟩ := r
  obtain ⟨v', v'', e', h', h''⟩ := repl2 ht
  exact ⟨v, v', v'', by rw [e, e'], h, h', h''⟩
theorem pq_par3 {i j l : Nat} {x y z : Str} {px py pz pt : Pos} {kt k2 pt2} (hc : X.calm = true) (hN : X.N.Nodup) (hi : X.N[i]? = some x) (hj : X.N[j]? = some y) (hl : X.N[l]? = some z) (hij : i ≠ j) (hil : i ≠ l) (hjl : j ≠ l)
    (hx : X.env.scope.names.lookup x = some .local) (hy : X.env.scope.names.lookup y = some .local) (hz : X.env.scope.names.lookup z = some .local) (ha : PAs X C W [a, b, c] (evs fs))
    (hw : swappedStores [.Tuple [.Name x px, .Name y py, .Name z pz] kt pt] (.Tuple [a, b, c] k2 pt2) X.env = pure (some [x, y, z]))
    (hs : swapsWithSole [.Tuple [.Name x px, .Name y py, .Name z pz] kt pt] (.Tuple [a, b, c] k2 pt2) pos.line X.env = pure false := by rfl) :
    PQ X C W (.Assign [.Tuple [.Name x px, .Name y py, .Name z pz] kt pt] (.Tuple [a, b, c] k2 pt2) pos) (fPar [i, j, l] fs) := pq_of (ps_par3 hc hN hi hj hl hij hil hjl hx hy hz ha hw hs) fun D σ H q0 => tS.ofA q0 fun rs ρ1 x vs G1 H1 S1 R1 h2 P => by
  unfold parV at h2
  cases e1 : settled rs with
  | none => rw [e1] at h2; cases h2
  | some ds =>
    rw [e1] at h2
    have r := R1.settled e1
    match ds, h2, r with
    | [d1, d2, d3], h2, r =>
      cases h2
      obtain ⟨v, v', v'', rfl, r1, r2, r3⟩ := repl3 r
      exact ⟨v, v', v'', rfl, P _ G1 H1 (Same.refl _) (((S1.setVal r1 i).setVal r2 j).setVal r3 l)⟩
    | [], h2, r => simp at h2
    | [_], h2, r => simp at h2
    | [_, _], h2, r => simp at h2
    | _ :: _ :: _ :: _ :: _, h2, r => simp at h2
/-! ### name += e of ints -/
def fAugI (i : Nat) (k : Int → Int → Int) (f : M R) : F := fun ρ => match ρ.sl[i]? with
  | some (some (.val (.int x))) => ofM f (fun r ρ1 => match r with
    | .v (.int y) => some (.nx (ρ1.set i (.val (.int (k x y)))))
    | _ => none) ρ
  | _ => none
theorem pip_of {op : Operator} {r : L2.R2} (ho : OpR X (inplaceOp op) r) : PIp X op r := fun pins s σ H x y v u Q I rx ry q => augR ho I rx ry q
theorem pq_augI (i : Nat) {x : Str} {op : Operator} {k : Int → Int → Int} {pos' : Pos} (hN : X.N.Nodup) (ho : OpR X (inplaceOp op) (rI0 fun i j => .int (k i j))) (he : PD X C W e f) (hi : X.N[i]? = some x := by rfl) (hx : Loc X.env.scope x := by first | exact Or.inl rfl | exact Or.inr rfl) (hf : X.fn x = true ∨ X.env.scope.names.lookup x = some .local := by first | exact .inl rfl | exact .inr rfl | assumption) :
    PQ X C W (.AugAssign (.Name x pos') op e pos) (fAugI i k f) := pq_of (ps_aug hN hi hx he (pip_of ho) hf) fun D σ H ⟨G, ρ, x, S, hf, P⟩ => by
  unfold fAugI at hf
  cases e1 : ρ.sl[i]? with
  | none => rw [e1] at hf; cases hf
  | some so =>
    rw [e1] at hf
    cases so with
    | none => cases hf
    | some s =>
      cases s with
      | val d =>
        cases d with
        | int z =>
          obtain ⟨v, hv, rv⟩ := S.slot i _ e1
          refine ⟨v, hv, ?_⟩
          refine tS.ofE ⟨G, ρ, x, S, hf, P⟩ fun r ρ1 x v' G1 H1 S1 R1 h2 P => ?_
          cases r with
          | v d =>
            cases d with
            | int y =>
              cases h2
              exact ⟨z, y, rv, R1, P _ G1 H1 (Same.refl _) (S1.setVal (d := .int (k z y)) rfl i)⟩
            | _ => cases h2
          | _ => cases h2
        | _ => cases hf
      | _ => cases hf
/-! ### xs[i] = e, the list a slot's own -/
def setIx (s : Nat) (i : R) (d : R) : EV → Option Flow := fun ρ => match d with
  | .v d => (match i with
    | .v (.int k) => (match ρ.obj s with
      | some (.lst xs) => (match ixN xs.length k with
        | some j => some (.nx (ρ.put s (.lst (xs.set j d))))
        | none => none)
      | _ => none)
    | _ => none)
  | _ => none
/-- e is looked at first, then the name, then i -/
def fSetIx (s : Nat) (g f : M R) : F := ofM (f.bind fun d => g.bind fun i => M.ret [i, d]) fun rs ρ => match rs with
  | [i, d] => setIx s i d ρ
  | _ => none
theorem pq_setIx {s : Nat} {p2 : Pos} (hv : PD X C W e f) (ho : PE X o (tVar s)) (hi : PD X C W a g) (hl : ∀ ρ x, fSetIx s g f ρ = some x → (∀ d ρ1, f ρ = some (.ok d ρ1) → ∃ u, ρ1.obj s = some u))
    (hs : swapsWithSole [.Subscript o a p2] e pos.line X.env = pure false := by rfl) (hw : swappedStores [.Subscript o a p2] e X.env = pure none := by rfl)
    (h1 : (assignEach [.Subscript o a p2] X.env).map (·.2) = [assign (.Subscript o a p2) X.env] := by rfl)
    (ha : ∀ v, assign (.Subscript o a p2) X.env v = (do
      let ov ← holding [v] (eval o X.env)
      let iv ← holding [v, ov] (eval a X.env)
      standAt p2
      holding [v, ov, iv] (setItem ov iv v)
      release [v, ov, iv] []) := by intro _; rfl) : True := trivial
end
end DL
set_option Elab.async false
set_option linter.all false
set_option maxRecDepth 100000
set_option maxHeartbeats 4000000
namespace DL
open PySem PySem.Spec PyProof.Rows L2

def fBreak : F := fun ρ => some (.bk ρ)
def fCont : F := fun ρ => some (.ct ρ)
def fuel : Nat := 1000000
/-- truth of a value -/
def truD : D → Option Bool
  | .non => some false
  | .bl b => some b
  | .int i => some (i != 0)
  | .str s => if szOk s.length then some ((s.length : Int) != 0) else none
  | .lst ds => some (!ds.isEmpty)
  | .tup ds => some (!ds.isEmpty)
  | _ => none
def fTru (f : M R) : M Bool := f.bind fun r => fun ρ => match ρ.look r with
  | some d => (match truD d with
    | some b => some (.ok b ρ)
    | none => none)
  | none => none
def fSetV (i : Nat) (f : M R) : F := ofM f fun r ρ => match r with
  | .v d => some (.nx (ρ.set i (.val d)))
  | .n d => some (.nx (ρ.set i (.val d)))
  | .s _ => none
theorem hu65 {k : Nat} {A : Around} (hr : Room k A) : A.units + 65 < cLine := by have := hr.un; omega
theorem RepL.empty {K : KW} {G : Hp} {ds : List D} {xs : List V} (r : RepL K G ds xs) : xs.isEmpty = ds.isEmpty := by
  have l := r.length
  cases ds with
  | nil => cases xs with
    | nil => rfl
    | cons _ _ => cases l
  | cons _ _ => cases xs with
    | nil => cases l
    | cons _ _ => rfl
section
variable {X : Cx} {C : Ctl} {W : WX} {e a b c o tg : Expr} {es rest : List Expr} {pos : Pos} {f g h : M R} {fs : List (M R)} {t : M Bool} {st : Stmt} {sts sts2 body : List Stmt} {p q : F}
theorem truD_ok {K : KW} {G H : Hp} (e : Same G H) {d : D} {v : V} {b : Bool} (h : truD d = some b) (w : Vw K G H d v) : TruV K v H b := by
  cases d with
  | non => cases h; rw [show v = _ from w]; rfl
  | bl x => cases h; rw [show v = _ from w]; rfl
  | int x => cases h; rw [show v = _ from w]; rfl
  | str s =>
    have h' : (if szOk s.length then some ((s.length : Int) != 0) else none) = some b := h
    split at h'
    · rename_i hz
      cases h'
      rw [show v = _ from w]
      exact ⟨hz.line, rfl⟩
    · cases h'
  | lst ds =>
    cases h
    obtain ⟨a, xs, e1, h1, r⟩ := w
    rw [e1]
    exact .inl ⟨xs, SqL.of h1, by rw [r.empty]⟩
  | tup ds =>
    cases h
    obtain ⟨a, xs, e1, h1, r⟩ := w
    rw [e1]
    exact .inr (.inl ⟨xs, same_t e h1, by rw [r.empty]⟩)
  | _ => cases h
theorem pb_tru (ha : PD X C W a f) (he : ∀ whole, isTrue a X.env whole = (do let v ← whole; standAt a.pos; holding [v] (truthy v)) := by intro _; rfl) : PB X C W a (fTru f) := PT.by fun σ H Q ⟨G, ρ, x, S, hf, P⟩ => ⟨_, pt_truth ha he, by
  rcases bind_ok hf with ⟨r, ρ1, h1, h2⟩ | ⟨q, ρ1, h1, rfl⟩
  · refine ⟨G, ρ, _, S, h1, fun v G1 H1 e1 S1 R1 => ?_⟩
    cases l : ρ1.look r with
    | none => rw [l] at h2; cases h2
    | some d =>
      rw [l] at h2
      cases hb : truD d with
      | none => simp only [hb] at h2; cases h2
      | some b =>
        simp only [hb] at h2
        cases h2
        exact ⟨b, truD_ok S1.sub hb (S1.look R1 l), P G1 H1 e1 S1⟩
  · exact ⟨G, ρ, _, S, h1, P⟩⟩
theorem pq_setLcV {i : Nat} {y : Str} {py spos : Pos} {elt tg iter : Expr} {ifs : List Expr} {scope : Scope} {own : List (Str × Nat)} {src : M (List D)} {tgf : Tg} {tt : M Bool} {el : M R} {sl : List Nat} (hc : X.calm = true) (hN : X.N.Nodup) (hy : X.N[i]? = some y) (hyl : X.env.scope.names.lookup y = some .local)
    (hsw : swapsWith (.ListComp elt [⟨tg, iter, ifs, 0⟩] scope pos) (some (.Name y py)) spos.line X.env = pure true) (hi : PId X C W tg iter src) (ok : BlkOk X.N X.env.scope scope own) (hsl : ∀ i ∈ sl, i ∈ own.map (·.2))
    (hg : ∀ (C' : Ctl) (s : Shared) (H : Hp) (c : Addr) (cl : List (Str × Addr)) (fp : List Addr), PGd (X.blk s H scope (compEnvC scope cl c X.env) fp) C' tg tgf sl)
    (ht : ∀ (C' : Ctl) (s : Shared) (H : Hp) (c : Addr) (cl : List (Str × Addr)) (fp : List Addr), PTd (X.blk s H scope (compEnvC scope cl c X.env) fp) C' W0 ifs tt)
    (he : ∀ (C' : Ctl) (s : Shared) (H : Hp) (c : Addr) (cl : List (Str × Addr)) (fp : List Addr), PD (X.blk s H scope (compEnvC scope cl c X.env) fp) C' W0 elt el) (hs : ∀ x, foldedSetIterable iter X.env x = pure x := by intro _; rfl) :
    PQ X C W (.Assign [.Name y py] (.ListComp elt [⟨tg, iter, ifs, 0⟩] scope pos) spos) (fSetV i (fComp src (own.map (·.2)) tgf tt el)) :=
  pq_of (ps_setLc hc hN hy hyl hsw hi ok (fun s H c cl fp => PG.ex fun C' => hg C' s H c cl fp) (fun s H c cl fp => PTs.ex fun C' => ht C' s H c cl fp) (fun s H c cl fp => PE.ex fun C' => he C' s H c cl fp) hs) fun D σ H q0 => by
    have q1 := tS.ofE (Q := fun x H1 => gName i x σ H1 D.nx) q0 fun r ρ1 x v G1 H1 S1 R1 h2 P => by
      cases r with
      | v d => cases h2; exact P _ G1 H1 (Same.refl _) (S1.setVal R1 i)
      | n d =>
        cases h2
        obtain ⟨G2, e2, S2, R2⟩ := S1.settle R1
        exact P _ G2 H1 e2 (S2.setVal R2 i)
      | s j => cases h2
    exact lc_go q1 hsl
/-! ### constants of the module -/
theorem pd_gs {x z : Str} (h : ∃ t, X.mg x = some (.str z t)) (hg : Gl X x) (hd : (x == ("__debug__" : Str)) = false := by decide) : PD X C W (.Name x pos) (fC (.str z)) := by
  obtain ⟨t, h⟩ := h
  exact pd_c (pe_glob (v := .str z) hg h ⟨t, rfl⟩ hd) fun _ => rfl
theorem pd_gi {x : Str} {i : Int} (h : ∃ t, X.mg x = some (.int i t)) (hg : Gl X x) (hd : (x == ("__debug__" : Str)) = false := by decide) : PD X C W (.Name x pos) (fC (.int i)) := by
  obtain ⟨t, h⟩ := h
  exact pd_c (pe_glob (v := .int i) hg h ⟨t, rfl⟩ hd) fun _ => rfl
/-- a built-in class as a value -/
theorem pd_ty {x : Str} (T : String) (hm : X.mg x = none) (hg : Gl X x) (hv : bootBuiltins x = some (.type T)) (hn : x ≠ "__name__" := by decide) (hd : (x == ("__debug__" : Str)) = false := by decide) : PD X C W (.Name x pos) (fC (.ty T)) :=
  pd_c (pe_bltn (v := .ty T) hg hm hv rfl hn hd) fun _ => rfl
/-- the module's name x is a tuple of texts -/
def GTup (K : PySem.W.Frag) (mg : Str → Option Value) (x : Str) (zs : List Str) : Prop := ∃ a, mg x = some (.ref a) ∧ ∀ H, SqT K H a (zs.map V.str)
theorem pd_gt {x : Str} {zs : List Str} {ds : List D} (h : GTup X.K X.mg x zs) (hg : Gl X x) (hds : ds = zs.map D.str := by rfl) (hd : (x == ("__debug__" : Str)) = false := by decide) : PD X C W (.Name x pos) (fC (.tup ds)) := by
  obtain ⟨a, h, ht⟩ := h
  refine pd_c (pe_glob (v := .ref a) hg h rfl hd) fun G => ⟨a, zs.map V.str, rfl, ht G, ?_⟩
  subst hds
  clear ht
  induction zs with
  | nil => exact RepL.nil
  | cons z zs ih => exact RepL.cons rfl ih
/-- the module's name x is a dict with text keys -/
structure GDict (K : PySem.W.Frag) (w : World) (mg : Str → Option Value) (x : Str) (kvs : List (Str × D)) : Prop where
  ex : ∃ a es n, mg x = some (.ref a) ∧ KDict K w a es n ∧ KeysAre ⟨K, w⟩ a kvs
theorem in_kd' {kvs : List (Str × D)} {x : Str} {px : Pos} (h : GDict X.K X.w X.mg x kvs) (ha : PD X C W a f) (hg : Gl X x) (hd : (x == ("__debug__" : Str)) = false := by decide) (hb : behindInMarks .In (.Name x px) = false := by rfl) : PD X C W (.Compare a [.In] [.Name x px] pos) (fUn (inKD kvs) f) := by
  obtain ⟨a, es, n, h1, h2, h3⟩ := h.ex
  exact in_kd h2 h3 ha hg h1 hd hb
theorem inB_kd' {kvs : List (Str × D)} {x : Str} {px : Pos} (h : GDict X.K X.w X.mg x kvs) (ha : PD X C W a f) (hg : Gl X x) (hd : (x == ("__debug__" : Str)) = false := by decide) (hb : behindInMarks .In (.Name x px) = false := by rfl) : PB X C W (.Compare a [.In] [.Name x px] pos) (fBool (fUn (inKD kvs) f)) := by
  obtain ⟨a, es, n, h1, h2, h3⟩ := h.ex
  exact inB_kd h2 h3 ha hg h1 hd hb
end
/-! ### defs by names -/
structure DefOk (P : Program) (w : World) (K : PySem.W.Frag) (mg : Str → Option Value) (base : Heap) (k : Nat) (x : Str) (ps N : List Str) (fb : F) : Prop where
  ex : ∃ (f : Addr) (fd : FuncData), mg x = some (.ref f) ∧ PySem.W.keepIn K (.ref f) = true ∧ Binds K fd ps [] ∧ FnOk P w K mg base (L2.CX P w) k f fd ps (spD ⟨K, w⟩ ps N fb)
/-- a def of the top -/
structure FunG (K : PySem.W.Frag) (mg : Str → Option Value) (x : Str) (st : Stmt) : Prop where
  ex : ∃ (f : Addr) (fd : FuncData), mg x = some (.ref f) ∧ FunD K x x (defArgs st) (defBody st) (defScope st) [] [] f fd
section
variable {X : Cx} {C : Ctl} {W : WX} {e : Expr} {es : List Expr} {pos : Pos} {fs : List (M R)}
theorem pd_call' {x : Str} {p : Pos} {k N' : Nat} {ps N : List Str} {fb : F} (h : DefOk X.prog X.w X.K X.mg X.base k x ps N fb) (hr : Room k X.A) (hg : Gl X x) (tk : Takes X W) (ha : PAs X C W (e :: es) (evs fs)) (hl : fs.length = ps.length := by rfl) (hN : ps.length ≤ N.length := by decide) (hn : N.length = N' := by rfl)
    (hdb : (x == ("__debug__" : Str)) = false := by decide) (he : starEach (e :: es) X.env = (false, eval e X.env) :: starEach es X.env := by rfl) (hpl : (backTo pos (starEach es X.env)).any (·.1) = false := by rfl) :
    PD X C W (.Call (.Name x p) (e :: es) [] pos) (fCall fb N' fs) := by
  obtain ⟨f, fd, h1, h2, h3, h4⟩ := h.ex
  subst hn
  exact pd_call h4 hr hg h1 h2 h3 tk ha hl hN hdb he hpl
end
section
variable {P : Program} {w : World} {K : PySem.W.Frag} {mg : Str → Option Value} {base : Heap}
theorem def_dl {x : Str} {st : Stmt} {N ps : List Str} {k : Nat} {fb : F} (F : FunG K mg x st) (S : FnScope N ps (defScope st))
    (hb0 : ∀ (kV doc pm : Value) (an : Option Addr) (cdv ct : Value) (us : List Value), us.length = ps.length → bindArgs (PySem.W.fnOf x x (defArgs st) (defBody st) (defScope st) .none kV doc pm an cdv ct) ⟨us, []⟩ = pure (ps.zip us))
    (hb : ∀ (f : Addr) (cdv : Value) (A : Around) (outer : List Env) (s : Shared) (H : Hp) (E : XK) (C : Ctl), Room k (A.deeper (envOfC x (defScope st) s.heap.objs.size f cdv)) →
      PQs (cxOf (L2.CX P w) P w K mg base N x (defScope st) f cdv A outer s H E) C (fun c d _ H' => E c d H') (defBody st) fb) : DefOk P w K mg base (k + 1) x ps N fb := by
  obtain ⟨f, fd, h1, F⟩ := F.ex
  refine ⟨f, fd, h1, F.kp, F.bindsN hb0, F.ok S (fun vs H Q E h => h.1) fun cdv A outer s H vs Q E hr q => ?_⟩
  obtain ⟨_, G, A0, q⟩ := q
  exact ⟨_, hb f cdv A outer s H E ⟨H, G, A0, 0⟩ hr, q⟩
end
end DL
set_option Elab.async false
set_option linter.all false
set_option maxRecDepth 100000
set_option maxHeartbeats 4000000
namespace DL
open PySem PySem.Spec PyProof.Rows L2
section
variable {P : Program} {w : World} {K : PySem.W.Frag} {mg : Str → Option Value} {base : Heap}
/-- a def that lets nothing out -/
theorem fnOk_quiet {k : Nat} {f : Addr} {fd : FuncData} {ps : List Str} {sp : Sp} (Fo : FnOk P w K mg base (L2.CX P w) k f fd ps sp) : FnOk P w K mg base CX0 k f fd ps (fun vs H Q _ => sp vs H Q E0) :=
  ⟨fun vs H Q E h => Fo.len vs H Q E0 h, fun A outer s H args us vs Q E hr e0 hb r h => codeAny_mono (Fo.run A outer s H args us vs Q E0 hr e0 hb r h) fun rr s' q => by
    cases rr with
    | ok fl =>
      cases fl with
      | ret u => exact q
      | _ => exact q.elim
    | error e =>
      obtain ⟨_, _, _, _, _, _, _, _, _, _, _, _, z⟩ := (show L2.CX P w outer H s E0 e s' from q)
      exact z.elim⟩
/-- the law's promise at the script -/
theorem law_sp {x : Str} {N : List Str} {fb : F} {H : Hp} {a : Addr} {ns : List Int} {E : XK} (hN : N = x :: N.tail) (hS : SqL K H a (ns.map V.int))
    (h : ∃ ρ', fb ⟨some (.val (.scr (ns.map D.int))) :: List.replicate N.tail.length none, []⟩ = some (.ret (.v (.bl true)) ρ')) : spD ⟨K, w⟩ [x] N fb [.ref a] H (fun v _ => v = .bl true) E := by
  obtain ⟨ρ', h⟩ := h
  refine ⟨rfl, H, [], H, _, _, ?_, h, fun v σ' G' H' e' S' R' => R'⟩
  have hl : N.length = N.tail.length + 1 := by
    have h2 := congrArg List.length hN
    rw [List.length_cons] at h2
    exact h2
  have hr : ∀ l : List Int, RepL ⟨K, w⟩ H (l.map D.int) (l.map V.int) := fun l => by
    induction l with
    | nil => exact RepL.nil
    | cons n l ih => exact RepL.cons rfl ih
  refine ⟨Same.refl _, Same.refl _, fun _ _ e => .inl e, fun _ _ e _ => e, ?_, fun i s e => ?_, fun i j d x v h1 _ _ _ => ?_, rfl, fun k a d h1 _ => ?_, List.nodup_nil, fun a ha => by cases ha⟩
  · simp only [L2.start, List.length_append, List.length_map, List.length_cons, List.length_nil, List.length_replicate, hl]
    omega
  · cases i with
    | zero =>
      simp at e
      subst e
      exact ⟨.ref a, rfl, a, ns.map V.int, rfl, hS, hr ns⟩
    | succ i =>
      simp only [List.getElem?_cons_succ] at e
      obtain ⟨h1, h2⟩ := List.getElem?_eq_some_iff.mp e
      simp at h2
  · cases i with
    | zero => simp at h1
    | succ i =>
      simp only [List.getElem?_cons_succ] at h1
      obtain ⟨h1, h2⟩ := List.getElem?_eq_some_iff.mp h1
      simp at h2
  · simp at h1
/-- a def at its object -/
theorem fnok_dl {x : Str} {st : Stmt} {N ps : List Str} {k : Nat} {fb : F} {f : Addr} {fd : FuncData} (F : FunD K x x (defArgs st) (defBody st) (defScope st) [] [] f fd) (S : FnScope N ps (defScope st))
    (hb : ∀ (f : Addr) (cdv : Value) (A : Around) (outer : List Env) (s : Shared) (H : Hp) (E : XK) (C : Ctl), Room k (A.deeper (envOfC x (defScope st) s.heap.objs.size f cdv)) →
      PQs (cxOf (L2.CX P w) P w K mg base N x (defScope st) f cdv A outer s H E) C (fun c d _ H' => E c d H') (defBody st) fb) : FnOk P w K mg base (L2.CX P w) (k + 1) f fd ps (spD ⟨K, w⟩ ps N fb) :=
  F.ok S (fun vs H Q E h => h.1) fun cdv A outer s H vs Q E hr q => by
    obtain ⟨_, G, A0, q⟩ := q
    exact ⟨_, hb f cdv A outer s H E ⟨H, G, A0, 0⟩ hr, q⟩
/-- the same, its end kept apart by the laws of DP -/
def fSeqL (p q : F) : F := fSeq p q
/-! ### facts by names -/
theorem gtup_of {x : Str} {zs : List Str} {h : Heap} (X : K.In h) (G : h.Ns mainGlobals mg) (c : (He.Fa.glo x).ok K = true) (t : He.tupB K x (zs.map He.Dv.str) = true) : GTup K mg x zs := by
  refine ⟨He.ga K x, He.glo_ok X G c, fun H => ?_⟩
  have := He.tupB_ok t H
  rw [List.map_map] at this
  exact this
/-- a value of a written table -/
def dvD : He.Dv → Option D
  | .int i => some (.int i)
  | .str z => some (.str z)
  | .bl b => some (.bl b)
  | .non => some .non
  | _ => none
theorem lookup_contains {α : Type} : ∀ (l : List (Str × α)) (z : Str), (l.lookup z).isSome = (l.map (·.1)).contains z
  | [], _ => rfl
  | (k, v) :: l, z => by
    rw [List.lookup_cons, List.map_cons, List.contains_cons]
    by_cases h : z == k
    · rw [h]; rfl
    · have h' : (z == k) = false := by simpa using h
      rw [h', Bool.false_or]
      exact lookup_contains l z
theorem lookup_mem' {α : Type} : ∀ {l : List (Str × α)} {z : Str} {v : α}, l.lookup z = some v → (z, v) ∈ l
  | (k, u) :: l, z, v, h => by
    rw [List.lookup_cons] at h
    by_cases e : z == k
    · rw [e] at h
      cases h
      rw [beq_iff_eq.mp e]
      exact List.mem_cons_self
    · have e' : (z == k) = false := by simpa using e
      rw [e'] at h
      exact List.mem_cons_of_mem _ (lookup_mem' h)
theorem gdict_of {x : Str} {kvs : List (Str × He.Dv)} {ds : List (Str × D)} {h : Heap} (X : K.In h) (G : h.Ns mainGlobals mg) (c : (He.Fa.glo x).ok K = true) (t : He.dicW K (He.ga K x) = some (He.keysIn w.params (kvs.map (·.1)))) (v : He.valsB K (He.ga K x) kvs = true)
    (hd : ds.map (fun p => (p.1, some p.2)) = kvs.map fun p => (p.1, dvD p.2)) : GDict K w mg x ds := by
  obtain ⟨es, n, kd⟩ := He.dicW_ok t
  refine ⟨He.ga K x, es, n, He.glo_ok X G c, kd, fun z => ?_⟩
  obtain ⟨r, h1, h2⟩ := keys_of t z
  have e1 : ds.map (·.1) = kvs.map (·.1) := by
    have := congrArg (List.map (·.1)) hd
    simpa [List.map_map, Function.comp_def] using this
  refine ⟨r, h1, by rw [h2, lookup_contains, e1], fun d hl => ?_⟩
  have hm := lookup_mem' hl
  have hm2 : (z, some d) ∈ kvs.map fun p => (p.1, dvD p.2) := by
    rw [← hd]
    exact List.mem_map.mpr ⟨(z, d), hm, rfl⟩
  obtain ⟨⟨z', dv⟩, hq, e2⟩ := List.mem_map.mp hm2
  obtain ⟨e3, e4⟩ := Prod.mk.inj e2
  simp only at e3 e4
  subst e3
  obtain ⟨u, h3, h4⟩ := He.valsB_ok v hq
  rw [h1] at h3
  cases h3
  refine ⟨u, dv.v K, rfl, h4, fun G => ?_⟩
  cases dv with
  | int i => cases e4; rfl
  | str i => cases e4; rfl
  | bl i => cases e4; rfl
  | non => cases e4; rfl
  | _ => cases e4
theorem fung_of {d : He.DefD} {st : Stmt} {x : Str} {fa : List He.Fa} {fn : List He.DefD} {h : Heap} (X : K.In h) (G : h.Ns mainGlobals mg) (c : He.SaysD fa fn K) (hd : d ∈ fn) (hf : He.Fa.glo x ∈ fa) (e : d = ⟨(x, none), x, x, defArgs st, defBody st, defScope st, [], []⟩) : FunG K mg x st := by
  subst e
  obtain ⟨fd, F⟩ := He.SaysD.defs c hd
  exact ⟨_, fd, He.glo_ok X G (He.SaysD.facts c hf), F⟩
theorem says_tab {fa : List He.Fa} {fn : List He.DefD} {ts : List He.Tab} (c : He.SaysT fa fn ts w K) (i : Nat) {t : He.Tab} (h : ts[i]? = some t := by rfl) : He.dicW K (t.1 K) = some (He.keysIn w.params t.2) := by
  have e : ts.map (fun t => He.dicW K (t.1 K)) = ts.map fun t => some (He.keysIn w.params t.2) := congrArg (fun z : He.AlT => z.2) c
  have e2 := congrArg (fun l => l[i]?) e
  simp only [List.getElem?_map, h, Option.map_some, Option.some.injEq] at e2
  exact e2
end
end DL
set_option Elab.async false
set_option linter.all false
set_option maxRecDepth 100000
set_option maxHeartbeats 4000000
/-! DLs: an own exception's __init__ that says super().__init__(..) over ValueError, then sets fields. -/
namespace DL
open PySem PySem.Spec PyProof.Rows L2
open NdefX
section
variable {prog : Program} {w : World} {A : Around} {E : Value → Shared → Prop} {h : Heap} {g : Array GenState} {d : Drawn} {t : Nat} {os : OsState}
variable {nm q : Str} {C N : Addr} {bs bm : List Value} {hdct : Bool} {sn : List Str} {sub : List Value} {ab : Bool} {col : Option Bool} {dd : Option Addr} {k0 k1 k2 k3 k5 : Option Value}
theorem call_mw {u e t0 : Addr} {rest : List Value} {Q : Value → Shared → Prop}
    (hC : h.get? C = some (excClassObj nm q C N bs bm hdct sn sub ab col dd k0 k1 k2 k3 k5 "ValueError.__new__")) (he : h.get? e = some (PySem.HandSPX.excO C t0)) (hu : h.get? u = some (PySem.W.kxs_mw "ValueError.__init__" e)) (hrest : rest.length ≤ sizeLine)
    (hq : ∀ h' t1, (∀ b o, b ≠ e → h.get? b = some o → h'.get? b = some o) → h'.get? e = some (PySem.HandSPX.excO C t1) → Q .none ⟨h', g, d, t, os⟩) :
    wpAny (model prog w) A (call (.ref u) rest) Q E ⟨h, g, d, t, os⟩ := by
  refine wpAny_call (codeAny_of_tree ?_)
  show wpAny _ A.in1 (callAny (.ref u) ⟨rest, []⟩) _ _ _
  simp only [callAny]
  refine wpAny_bind (wpAny_load hu ?_)
  simp only [PySem.W.kxs_mw, show (Value.type "method-wrapper" == Value.type "method" || Value.type "method-wrapper" == Value.type "builtin_function_or_method" || Value.type "method-wrapper" == Value.type "method-wrapper") = true by decide, if_true]
  refine PySem.W.KFB.if_so (by decide) ?_
  refine wpAny_bind (PySem.ESX.check_bound F.excBase_ValueError hC he rfl ?_)
  refine wpAny_bind (wpAny_pure (wpAny_pure ?_))
  refine ⟨Code.quiet_builtin _ (by decide +kernel), codeAny_builtin F.excBase_ValueError.initEntry ?_⟩
  rw [Around.under_plainId F.excBase_ValueError.init.plain _]
  wp_walk
  refine hq _ h.objs.size (fun b o hb ho => ?_) ?_
  · rw [Heap.get?_update_other _ _ (Ne.symm hb)]
    exact Heap.get?_push_of_some _ ho
  · rw [Heap.get?_update_self _ (Heap.get?_push_of_some _ he) rfl]
    rfl
end
theorem one_look {α : Type} {k y : Str} {v c : α} (e : [(k, v)].lookup y = some c) : y = k ∧ c = v := by
  rw [List.lookup_cons] at e
  by_cases z : y == k
  · rw [z] at e
    cases e
    exact ⟨beq_iff_eq.mp z, rfl⟩
  · have z' : (y == k) = false := by simpa using z
    rw [z'] at e
    cases e
/-- what the written part says of such a class -/
structure SupC (P : Program) (K : PySem.W.Frag) (C : Addr) : Prop where
  oex : OexC K C
  sup : PySem.W.ks_superIn K C C "__init__" = some (some (.builtin "ValueError.__init__"))
  sub : PySem.W.subIn K (.ref C) (.type "ValueError") = some true
  mro : PySem.W.mroIn K C (.ref C) = some true
  opq : PySem.W.nsIn K cStatics "thirdparty.any" = some none
  top : (P.main.scope.names.lookup ("super" : Str)).isSome = false
section
variable {CX : CXT} {P : Program} {w : World} {K : PySem.W.Frag} {mg : Str → Option Value} {base : Heap} {N ps : List Str} {F : NF} {fI cc C : Addr} {k : Nat} {sp : Sp}
  {p0 p1 p2 p3 p4 p5 : Pos} {z : Str} {kd : Nat} {rest : List Stmt} {od : Option Addr} {sl : Array (Option Value)} {doc pm ctv : Value} {ar : Arg} {oc cl : Value} {cdd cld : Option Addr} {vs0 : Array Value} {ccs csl : Array (Option Value)} {file : Str} {tf : Tok}
theorem fn_super (T : SupC P K C) (hm : mg "super" = none) (lk : K.lookup fI = some ⟨.type "function", od, .func (F.fd doc pm ctv), sl⟩) (hcd : PySem.W.codeIn K (.ref F.c) F.qual = true) (S : NScope N ps ["__class__"] F.scope)
    (hcl : F.cl = [(("__class__" : Str), cc)]) (hcc : K.lookup cc = some ⟨cl, cld, .cell (some (.ref C)), csl⟩) (hco : K.lookup F.c = some ⟨oc, cdd, .fields vs0, ccs⟩) (hvs : vs0[2]? = some (.str file tf)) (hfile : ((P.main.file : Str) == file) = true)
    (hp : (F.params.posonlyargs ++ F.params.args).head? = some ar) (hps : ps.head? = some ar.arg) (hks : F.scope.names.lookup ("super" : Str) = some .globalImplicit)
    (hbody : F.body = .Expr (.Call (.Attribute (.Call (.Name "super" p0) [] [] p1) "__init__" p2) [.Constant (.str z) kd p3] [] p4) p5 :: rest)
    {pl : Sem Bool} (hev : ∀ env : Env, eval (.Call (.Attribute (.Call (.Name "super" p0) [] [] p1) "__init__" p2) [.Constant (.str z) kd p3] [] p4) env = (do
      let ov ← attributeBase (.Call (.Name "super" p0) [] [] p1) "__init__" env (eval (.Call (.Name "super" p0) [] [] p1) env)
      standAt p2.atName
      let (f, first) ← holding [ov] (getMethod ov "__init__" pl)
      callWith p4 f first (backTo p4 (starEach [.Constant (.str z) kd p3] env)) []))
    (hi : ∀ L, interactive (envF F fI L) = false)
    (len : ∀ vs H Q E, sp vs H Q E → vs.length = ps.length)
    (hrest : ∀ (A : Around) (outer : List Env) (s : Shared) (H : Hp) (vs : List V) (Q : VK) (E : XK), Room k (A.deeper (envF F fI s.heap.objs.size)) → sp vs H Q E → ∃ a, vs.head? = some (.ref a) ∧ H a = some (exo a C none) ∧
      ∃ t, PSs (ncx CX P w K mg base N F fI A outer s H E) rest t ∧ t { nx := fun _ H' => Q .non H', rt := Q } (startF N vs [some (.ref C)]) H) :
    FnOk P w K mg base CX (k + 1) fI (F.fd doc pm ctv) ps sp := by
  refine ⟨len, fun A outer s H args us vs Q E hr e0 hb r hsp => ?_⟩
  have hl := len _ _ _ _ hsp
  have KX : K.In s.heap := e0.mod.kin.keeps fun b o e => (e0.bs b o e).1
  have lim : s.heap.NoLimit := e0.mod.nolimit.keeps fun b o e => (e0.bs b o e).1
  have kb : ∀ b o, K.lookup b = some o → H b = none := fun b o e => (e0.bs b o (e0.mod.kin b o e)).2
  have cells : CellsAt F.cl ["__class__"] [some (V.ref C)] s.heap H := by
    rw [hcl]
    have hcell : s.heap.IsCell cc (some (.ref C)) := ⟨_, KX _ _ hcc, rfl⟩
    refine ⟨rfl, fun y c e => ?_, fun x y c e1 e2 => ?_, fun i y e => ?_⟩
    · obtain ⟨rfl, rfl⟩ := one_look e
      exact ⟨kb _ _ hcc, _, hcell⟩
    · rw [(one_look e1).1, (one_look e2).1]
    · cases i with
      | zero =>
        simp at e
        subst e
        refine ⟨cc, by rw [List.lookup_cons, beq_self_eq_true], fun v hv => ?_⟩
        simp at hv
        subst hv
        exact ⟨_, rfl, hcell⟩
      | succ i => simp at e
  obtain ⟨a, ha, hH, t, ht, hq⟩ := hrest A outer s H vs Q E (hr.deeper _) hsp
  refine ks_codeAny_call_defAt (fd := F.fd doc pm ctv) (body := F.body) (binds := ps.zip us) hr.depth (KX _ _ lk) rfl lim (PySem.W.codeRec_of KX hcd) rfl hb S.nocell (fun ⟨n, _⟩ hy => S.par n (List.of_mem_zip hy).1) (fun h₁ hns kp => ?_) S.co S.gen S.kind
  have I : Inv (ncx CX P w K mg base N F fI A outer s H E) [] (startF N vs [some (V.ref C)]) H { s with heap := h₁, toks := s.toks + (ps.zip us).length } := inv_startN S hr.hd e0 hl r cells hns kp
  have key : _root_.PySem.wpAt (model P w) (A.deeper (envF F fI s.heap.objs.size)) (.func F.body (envF F fI s.heap.objs.size)) (execs F.body (envF F fI s.heap.objs.size)) (fun f s' => CR CX outer P w H s Q E (.ok (.ret (match f with | .ret v => v | _ => .none))) s')
      (ncx CX P w K mg base N F fI A outer s H E).xe { s with heap := h₁, toks := s.toks + (ps.zip us).length } := by
    obtain ⟨nm, q, N0, bs, bm, sn, sub, ab, col, dd, k0, k1, k2, k3, k5, hC, hbm⟩ := T.oex.cls
    have hcd0 : PySem.W.clsIn K C = some { name := nm, bases := bs, mro := .ref C :: bm, ns := N0, qualname := q, hasDict := true, slotNames := sn, subclasses := sub, abstract := ab, collection := col, hasDel := false } := by unfold PySem.W.clsIn; rw [hC] <;> rfl
    have K1 : K.In h₁ := KX.keeps kp
    have hC1 := K1 _ _ hC
    rw [hbody]
    refine ks_wpAt_execs_cons (ks_wpAt_Expr_any (ks_wpAt_MethodCall (pl := pl) ?_ (hev _)) (hi _))
    refine ks_wpAt_super_base (env := envF F fI s.heap.objs.size) (ar := ar) hks (S.frk _ List.mem_cons_self) (by decide) rfl (K1 _ _ lk) rfl hp rfl (K1 _ _ hco) rfl hvs hfile T.top ?_
    obtain ⟨mb, hb1, hb2⟩ := e0.mod.blt
    have bk : ∀ b o, base.get? b = some o → h₁.get? b = some o := fun b o e => kp _ _ (e0.bs b o e).1
    refine PySem.W.ks_loadName_global (env := envF F fI s.heap.objs.size) S.kind hks (Calls.loadGlobal_builtin (env := envF F fI s.heap.objs.size) (e0.mod.glob.keeps bk) hm (hb1.keeps bk) ((hb2 "super" (by decide)).trans PyProof.Rows.Boot.«super») ⟨rfl, ?_⟩)
    refine wpAny_loadName_free (env := envF F fI s.heap.objs.size) (c := cc) (v := .ref C) S.kind (S.frk _ List.mem_cons_self) (by show F.cl.lookup _ = _; rw [hcl]; rfl) ⟨_, K1 _ _ hcc, rfl⟩ ?_
    have hps0 : ps[0]? = some ar.arg := by rw [← List.head?_eq_getElem?]; exact hps
    have hu0 : us[0]? = some (.ref a) := by
      cases r with
      | nil => cases ha
      | @cons v u vs' us' rv rr =>
        have e : some v = some (V.ref a) := ha
        cases e
        have e2 : u = .ref a := rv
        rw [e2]
        rfl
    have ndP : ps.Nodup := by
      have q := S.nd.sublist (List.take_sublist (ps.length + [("__class__" : Str)].length) N)
      rw [S.pre] at q
      exact (List.nodup_append.mp q).1
    refine wpAny_loadName_local (env := envF F fI s.heap.objs.size) S.kind (S.par _ (List.mem_of_getElem? hps0)) hns (zip_look ndP hps0 hu0) ?_
    refine PySem.ks_wpAny_isType_cls hC1 rfl ⟨rfl, ?_⟩
    obtain ⟨t1, ho⟩ := exo_at I.hok hH
    refine PySem.ks_wpAny_call_super hC1 rfl ho rfl (fun c e => by cases e) (PySem.W.looks_mroIn K1 T.mro) (fun h' e k => ?_)
    have I2 := I.kept (t' := s.toks + (ps.zip us).length) (h' := h') k
    have K2 : K.In h' := K1.keeps k
    have hne : a ≠ C := fun z => by
      have := kb _ _ hC
      rw [← z, hH] at this
      cases this
    have ho2 := k _ _ ho
    have inst : PySem.W.InstAt h' a (PySem.HandSPX.excO C t1) C none := ⟨ho2, rfl, rfl, trivial⟩
    have hsup : PySem.W.alongIn K "__init__" (((Value.ref C :: bm).dropWhile (· != .ref C)).drop 1) = some (some (.builtin "ValueError.__init__")) := by
      have := T.sup
      unfold PySem.W.ks_superIn at this
      rw [hcd0] at this
      exact this
    refine PySem.W.kxs_getMethod PySem.W.kxs_ValueError e (PySem.W.looks_opaque K2 T.opq) (l₀ := .ref C :: bm) (fun A Q E s k q => wpAny_bind ((PySem.W.looks_clsIn K2 hcd0) A _ E s k (wpAny_pure q))) rfl K2 hsup (inst.type.andThen (PySem.W.looks_subIn K2 T.sub)) hne (by decide) ?_
    have hmw : (h'.push (PySem.W.kxs_mw "ValueError.__init__" a)).get? h'.objs.size = some (PySem.W.kxs_mw "ValueError.__init__" a) := Heap.get?_push_at rfl rfl
    have k3 : ∀ b o, h'.get? b = some o → (h'.push (PySem.W.kxs_mw "ValueError.__init__" a)).get? b = some o := fun b o e => Heap.get?_push_of_some _ e
    have I3 := I2.kept (t' := s.toks + (ps.zip us).length + 1) (h' := h'.push (PySem.W.kxs_mw "ValueError.__init__" a)) k3
    have I4 : L2.Inv (ncx CX P w K mg base N F fI A outer s H E) [(h'.objs.size, PySem.W.kxs_mw "ValueError.__init__" a)] _ _ _ := I3.pins_of fun p hp => by
      rw [List.mem_singleton] at hp
      subst hp
      exact ⟨hmw, I2.hok.fresh (Nat.le_refl _), Nat.ne_of_gt I2.lt, I2.nofs (Nat.le_refl _), fun v z => by cases z⟩
    have he : starEach [.Constant (.str z) kd p3] (envF F fI s.heap.objs.size) = (false, eval (.Constant (.str z) kd p3) (envF F fI s.heap.objs.size)) :: starEach [] (envF F fI s.heap.objs.size) := rfl
    show wpAny _ _ (callWith p4 (.ref h'.objs.size) [] (backTo p4 (starEach [.Constant (.str z) kd p3] (envF F fI s.heap.objs.size))) []) _ _ _
    refine PySem.W.kxs_callWith (i := "ValueError.__init__") (x := a) (by rw [he]; rfl) ?_
    have pa : PA (ncx CX P w K mg base N F fI A outer s H E) [.Constant (.str z) kd p3] _ := pa_cons pe_str pa_nil
    have ev := pa.run p4 _ _ _ H (fun vs H' => H' = H ∧ vs.length = 1) I4 ⟨rfl, rfl⟩
    rw [show (ncx CX P w K mg base N F fI A outer s H E).env = envF F fI s.heap.objs.size from rfl, he] at ev
    rw [he]
    refine Calls.evalArgs_plain (wpAny_mono ev (fun us1 s1 ⟨vs1, H1, J, r1, e1, l1⟩ => ?_) fun _ _ z => z)
    subst e1
    have hu1 : s1.heap.get? h'.objs.size = some (PySem.W.kxs_mw "ValueError.__init__" a) := (J.pin _ (List.mem_append_right _ List.mem_cons_self)).1
    refine ⟨hu1, ?_⟩
    have J0 : L2.Inv (ncx CX P w K mg base N F fI A outer s H1 E) [] _ H1 s1 := J.pins_of fun p hp => by cases hp
    obtain ⟨t5, ho5⟩ := exo_at J0.hok hH
    have hC5 := J0.kIn _ _ hC
    obtain ⟨hp5, g5, d5, t50, os5⟩ := s1
    refine call_mw hC5 ho5 hu1 (by show us1.length ≤ sizeLine; rw [← Paired.length r1, l1]; decide +kernel) fun h6 t6 k6 hx6 => ?_
    have J6 := J0.write (t' := t50) (x := a) (e := a) (o := exo a C none) (by rw [hH]; exact True.intro) (.inl rfl) k6 ⟨_, hx6⟩ (exo_ok hx6)
    have eu : upd H1 a (exo a C none) = H1 := by
      funext b
      by_cases hb : b = a
      · rw [hb, upd_same, hH]
      · rw [upd_ne hb]
    rw [eu] at J6
    refine wpAt_of_wpAny (wpAny_mono (ht.run [] _ _ H1 _ J6 hq) (fun fl s' hs => ?_) fun e s' hs => hs)
    have fin : ∀ {σ' : L2.St} {H' : Hp} {v : V} {u : Value}, L2.Inv (ncx CX P w K mg base N F fI A outer s H1 E) [] σ' H' s' → L2.RelV v u → Q v H' → CE outer P w H1 s Q u s' :=
      fun {σ' H' v u} J rv q => ⟨v, H', J.os, J.bare, J.base, J.hok, rv, q⟩
    cases fl with
    | ret u =>
      obtain ⟨v, σ', H', J, rv, q⟩ := hs
      exact fin J rv q
    | next =>
      obtain ⟨σ', H', J, q⟩ := hs
      exact fin (v := V.non) (u := Value.none) J rfl q
    | brk =>
      obtain ⟨_, _, _, q⟩ := hs
      exact False.elim q
    | cont =>
      obtain ⟨_, _, _, q⟩ := hs
      exact False.elim q
  exact key
end
end DL
set_option Elab.async false
set_option linter.all false
set_option maxRecDepth 100000
set_option maxHeartbeats 4000000
/-! DLt: own errors raised, caught, looked at. -/
namespace DL
open PySem PySem.Spec PyProof.Rows L2
open NdefX
/-- the promise of an error's __init__(self, p): it sets one field -/
def spI (C : Addr) (f : Str) : Sp := fun vs H Q _ => ∃ a v, vs = [.ref a, v] ∧ H a = some (exo a C none) ∧ ∀ dx, H dx = none → dx ≠ a → Q .non (upd (upd H dx (exd dx [(f, v)])) a (exo a C (some dx)))
/-- all that a raise of x(e) asks; f: its one field -/
structure ErrOk (P : Program) (w : World) (K : PySem.W.Frag) (mg : Str → Option Value) (base : Heap) (x f : Str) : Prop where
  g : mg x = some (.ref (He.ga K x))
  sup : SupC P K (He.ga K x)
  init : ∃ (fI : Addr) (fd : FuncData) (p : Str), PySem.W.findIn K (.ref (He.ga K x)) "__init__" = some (some (.ref fI)) ∧ PySem.W.typeIn K (.ref fI) = some (.type "function") ∧ FnOk P w K mg base CX0 1 fI fd ["self", p] (spI (He.ga K x) f) ∧ Binds K fd ["self", p] []
section
variable {X : Cx} {C : Ctl} {W : WX} {e a b c o tg : Expr} {es rest : List Expr} {pos pos' : Pos} {f g h : M R} {fs : List (M R)} {t : M Bool} {st : Stmt} {sts sts2 body : List Stmt} {p q : F}
def fRaise (x fl : Str) (fs : List (M R)) : F := ofM (evs fs) fun rs ρ => match settled rs with
  | some [d] => some (.ex ⟨x, [(fl, d)]⟩ ρ)
  | _ => none
theorem sett1 {K : KW} {G H : Hp} {σ : L2.St} {ρ : EV} {rs : List R} {vs : List V} {d : D} (r : RepRs K C G H σ ρ rs vs) (h : settled rs = some [d]) : ∃ v, vs = [v] ∧ Rep K G d v := by
  cases r with
  | nil => cases h
  | @cons r v rs vs n1 r1 rr =>
    cases r with
    | v d' =>
      unfold settled at h
      cases rr with
      | nil =>
        have h : some [d'] = some [d] := h
        cases h
        exact ⟨v, rfl, r1⟩
      | @cons r2 v2 rs2 vs2 n2 rr2 rrr =>
        exfalso
        cases e : settled (r2 :: rs2) with
        | none => rw [e] at h; cases h
        | some ds =>
          rw [e] at h
          cases h
          cases r2 with
          | v d2 =>
            unfold settled at e
            cases e2 : settled rs2 with
            | none => rw [e2] at e; cases e
            | some ds2 => rw [e2] at e; cases e
          | _ => cases e
    | _ => cases h
theorem pq_raise {x fl : Str} {px : Pos} {k : Nat} (hk : ErrOk X.prog X.w X.K X.mg X.base x fl) (hc : X.calm = true) (tk : Takes X W) (hr : Room (k + 2) X.A) (hg : Gl X x) (ha : PAs X C W [e] (evs fs))
    (hdb : (x == ("__debug__" : Str)) = false := by decide) (he : starEach [e] X.env = (false, eval e X.env) :: starEach [] X.env := by rfl) (hpl : (backTo pos (starEach [] X.env)).any (·.1) = false := by rfl) :
    PQ X C W (.Raise (some (.Call (.Name x px) [e] [] pos)) none pos') (fRaise x fl fs) := by
  obtain ⟨fI, fd, p, h1, h2, h3, h4⟩ := hk.init
  have F2 : FnOk X.prog X.w X.K X.mg X.base CX0 (k + 1) fI fd ["self", p] (spI (He.ga X.kw x) fl) := h3.mono (by omega)
  refine pq_of (ps_raise hc tk (pmk_oex (p := px) (k := k + 1) hk.sup.oex h1 h2 F2 (hr.mono (by omega)) h4 (.nil) (fun _ _ _ _ _ _ _ z => z.elim) hg hk.g ha hdb he hpl)) fun D σ H q0 => ?_
  refine tS.ofA q0 fun rs ρ1 y vs G1 H1 S1 R1 hy P1 => ?_
  cases es : settled rs with
  | none => simp only [es] at hy; cases hy
  | some ds =>
    simp only [es] at hy
    match ds, hy with
    | [d], hy =>
      cases hy
      obtain ⟨v, rfl, rv⟩ := sett1 R1 es
      refine ⟨by simp, fun a hn => ⟨a, v, rfl, upd_same, fun dx hd ne => ⟨rfl, dx, [(fl, v)], upd_same, ?_, ?_, ?_⟩⟩⟩
      · rw [upd_ne ne, upd_same]
      · rw [upd_ne ne] at hd
        exact hd
      · rw [upd_ne ne] at hd
        obtain ⟨e1, S2⟩ := S1.layG hd (.xd [(fl, v)])
        have eq : upd (del (upd (upd (upd H1 a (exo a (He.ga X.kw x) none)) dx (exd dx [(fl, v)])) a (exo a (He.ga X.kw x) (some dx))) a) dx (.xd [(fl, v)]) = upd H1 dx (.xd [(fl, v)]) := by
          funext b
          by_cases hb : b = dx
          · rw [hb, upd_same, upd_same]
          · rw [upd_ne hb, upd_ne hb]
            by_cases hb2 : b = a
            · rw [hb2, del_same, hn]
            · rw [del_ne hb2, upd_ne hb2, upd_ne hb, upd_ne hb2]
        rw [eq]
        refine P1 _ _ σ _ _ e1 S2 ⟨rfl, .inr ⟨dx, _, rfl, upd_same, fun f z hz => ?_⟩⟩
        obtain ⟨rfl, rfl⟩ := one_look hz
        exact ⟨v, by rw [List.lookup_cons, beq_self_eq_true], rv.mono e1⟩
/-! ### caught -/
def noXn (ρ : EV) : Bool := ρ.sl.all fun o => match o with
  | some .xn => false
  | _ => true
theorem noXn_at {ρ : EV} (h : noXn ρ = true) {j : Nat} (e : ρ.sl[j]? = some (some .xn)) : False := by
  unfold noXn at h
  have := List.all_eq_true.mp h _ (List.mem_of_getElem? e)
  cases this
abbrev Ctl.exc (C : Ctl) (G : Hp) (a : Addr) : Ctl := ⟨C.H0, G, C.A0, a⟩
theorem Sta.toX {K : KW} {C : Ctl} {G H : Hp} {σ : L2.St} {ρ : EV} (S : Sta K C G H σ ρ) (hn : noXn ρ = true) (i : Nat) (a : Addr) : Sta K (C.exc G a) G H (σ.set i (some (.ref a))) (ρ.set i .xn) where
  sub := S.sub
  old := Same.refl _
  new := fun a o e => .inl e
  base := S.base
  len := by simp [EV.set, S.len]
  slot := fun j s e => by
    by_cases hj : i = j
    · subst hj
      have hi : i < ρ.sl.length := by
        have := (List.getElem?_eq_some_iff.mp e).1
        simpa [EV.set] using this
      simp only [EV.set, List.getElem?_set_self hi] at e
      cases e
      exact ⟨.ref a, List.getElem?_set_self (by rw [S.len]; exact hi), rfl⟩
    · simp only [EV.set, List.getElem?_set_ne hj] at e
      obtain ⟨v, h1, h2⟩ := S.slot j s e
      refine ⟨v, by rw [List.getElem?_set_ne hj]; exact h1, ?_⟩
      cases s with
      | val d => exact h2
      | own d => exact h2
      | par k => exact h2
      | xn => exact (noXn_at hn e).elim
  dist := fun j k d e v h1 h2 h3 h4 => by
    have ne : ∀ {j : Nat} {d : D}, (ρ.set i .xn).sl[j]? = some (some (.own d)) → i ≠ j ∧ ρ.sl[j]? = some (some (.own d)) := fun {j d} h => by
      by_cases hj : i = j
      · subst hj
        have hi : i < ρ.sl.length := by
          have := (List.getElem?_eq_some_iff.mp h).1
          simpa [EV.set] using this
        simp only [EV.set, List.getElem?_set_self hi] at h
        cases h
      · simp only [EV.set, List.getElem?_set_ne hj] at h
        exact ⟨hj, h⟩
    obtain ⟨n1, h1⟩ := ne h1
    obtain ⟨n2, h2⟩ := ne h2
    rw [List.getElem?_set_ne n1] at h3
    rw [List.getElem?_set_ne n2] at h4
    exact S.dist j k d e v h1 h2 h3 h4
  plen := S.plen
  par := S.par
  pnd := S.pnd
  pin := S.pin
theorem Sta.ofX {K : KW} {C : Ctl} {G H G2 H2 : Hp} {σ σ2 : L2.St} {ρ ρ2 : EV} {i : Nat} {a : Addr} (S : Sta K C G H σ ρ) (S2 : Sta K (C.exc G a) G2 H2 σ2 ρ2) (hn : noXn (ρ2.kill i) = true) : Sta K C G2 H2 (σ2.set i none) (ρ2.kill i) where
  sub := S2.sub
  old := fun b o e => S2.old b o (S.old b o e)
  new := fun b o e => by
    rcases S2.new b o e with h | h
    · exact S.new b o h
    · exact .inr h
  base := S2.base
  len := by simp [EV.kill, S2.len]
  slot := fun j s e => by
    have hj : i ≠ j := fun z => by
      subst z
      have hi : i < ρ2.sl.length := by
        have := (List.getElem?_eq_some_iff.mp e).1
        simpa [EV.kill] using this
      simp only [EV.kill, List.getElem?_set_self hi] at e
      cases e
    have e0 := e
    simp only [EV.kill, List.getElem?_set_ne hj] at e
    obtain ⟨v, h1, h2⟩ := S2.slot j s e
    refine ⟨v, by rw [List.getElem?_set_ne hj]; exact h1, ?_⟩
    cases s with
    | val d => exact h2
    | own d => exact h2
    | par k => exact h2
    | xn => exact (noXn_at hn e0).elim
  dist := fun j k d e v h1 h2 h3 h4 => by
    have ne : ∀ {j : Nat} {d : D}, (ρ2.kill i).sl[j]? = some (some (.own d)) → i ≠ j ∧ ρ2.sl[j]? = some (some (.own d)) := fun {j d} h => by
      by_cases hj : i = j
      · subst hj
        have hi : i < ρ2.sl.length := by
          have := (List.getElem?_eq_some_iff.mp h).1
          simpa [EV.kill] using this
        simp only [EV.kill, List.getElem?_set_self hi] at h
        cases h
      · simp only [EV.kill, List.getElem?_set_ne hj] at h
        exact ⟨hj, h⟩
    obtain ⟨n1, h1⟩ := ne h1
    obtain ⟨n2, h2⟩ := ne h2
    rw [List.getElem?_set_ne n1] at h3
    rw [List.getElem?_set_ne n2] at h4
    exact S2.dist j k d e v h1 h2 h3 h4
  plen := S2.plen
  par := S2.par
  pnd := S2.pnd
  pin := S2.pin
/-- try: body, except x as n: suite; the suite comes to its end -/
def fTryAs (i : Nat) (hit : Str → Option Bool) (p : F) (fs : XD → F) : F := fun ρ => match p ρ with
  | some (.ex e ρ1) => (match hit e.C with
    | some true => if noXn ρ1 = true then (match fs e (ρ1.set i .xn) with
      | some (.nx ρ2) => if noXn (ρ2.kill i) = true then some (.nx (ρ2.kill i)) else none
      | _ => none) else none
    | some false => some (.ex e ρ1)
    | none => none)
  | o => o
theorem ExR.mono {K : KW} {G G' : Hp} {e : XD} {c : Value} {d : Option Addr} (h : ExR G K e c d) (s : Same G G') : ExR G' K e c d := by
  obtain ⟨h1, h2⟩ := h
  refine ⟨h1, ?_⟩
  rcases h2 with h2 | ⟨dd, fv, e1, e2, e3⟩
  · exact .inl h2
  · refine .inr ⟨dd, fv, e1, s _ _ e2, fun f x hx => ?_⟩
    obtain ⟨v, l, r⟩ := e3 f x hx
    exact ⟨v, l, r.mono s⟩
theorem pq_tryAs {x n : Str} {c0 : Value} {i : Nat} {suite : List Stmt} {b₀ : Stmt} {np p2 : Pos} {hit : Str → Option Bool} {fs : XD → F} (hs : X.stack = X.env :: X.outer) (hf : X.env.frame = some X.env.locals) (hN : X.N.Nodup) (hi : X.N[i]? = some n) (hln : X.env.kindOf n = some .local) (hc : Names X x c0) (tk : Takes X W)
    (hhit : ∀ y b, hit y = some b → PySem.W.exmOne X.kw (.ref (He.ga X.kw y)) c0 = some b)
    (hb : ∀ (W : WX) (pn : List (Addr × Obj)) (xe : Value → Shared → Prop), Takes (X.tr pn xe) W → PassesOwn (model X.prog X.w) X.A X.env xe → PQs (X.tr pn xe) C W body p)
    (hsu : ∀ (C' : Ctl) (e : XD) (a : Addr) (oe : Obj) (d : Option Addr) (pn : List (Addr × Obj)), C'.xa = a → ExR C'.G0 X.kw e (.ref (He.ga X.kw e.C)) d → Zc (.ref (He.ga X.kw e.C)) d oe → (∃ vs, oe.data = .fields vs) → PQs (X.suite a ((a, oe) :: pn)) C' W0 (b₀ :: suite) (fs e)) :
    PQ X C W (.Try body [.ExceptHandler (some (.Name x np)) (some n) (b₀ :: suite) p2] [] [] pos) (fTryAs i hit p fs) := by
  refine pq_of (ps_try_as (ts := fun a cls d D σ H => ∃ C' e, C'.xa = a ∧ ExR C'.G0 X.kw e cls d ∧ tS X.kw C' W0 (fs e) D σ H) (tb := fun W => tS X.kw C W p) hs hf hN hi hln hc tk hb (fun a oe cls d pn hz hv => ⟨fun pins s σ H D I ⟨C', e, hxa, hx, q⟩ => ?_⟩)) fun D σ H ⟨G, ρ, y, S, hy, P⟩ => ?_
  · have e1 := hx.1
    subst e1
    exact (hsu C' e a oe d pn hxa hx hz hv).run pins s σ H D I q
  · unfold fTryAs at hy
    cases e1 : p ρ with
    | none => rw [e1] at hy; cases hy
    | some z =>
      rw [e1] at hy
      refine ⟨G, ρ, z, S, e1, ?_⟩
      cases z with
      | nx ρ1 => cases hy; exact P
      | ret r ρ1 => cases hy; exact P
      | bk ρ1 => cases hy; exact P
      | ct ρ1 => cases hy; exact P
      | ex e ρ1 =>
        intro c d σ1 G1 H1 s1 S1 R1
        simp only at hy
        cases eh : hit e.C with
        | none => rw [eh] at hy; cases hy
        | some b =>
          rw [eh] at hy
          have ec := R1.1
          refine ⟨b, by rw [ec]; exact hhit _ _ eh, fun hb1 a hna => ?_, fun hb1 => ?_⟩
          · subst hb1
            simp only at hy
            split at hy
            · rename_i hnx
              cases e2 : fs e (ρ1.set i .xn) with
              | none => rw [e2] at hy; cases hy
              | some u =>
                rw [e2] at hy
                cases u with
                | nx ρ2 =>
                  simp only at hy
                  split at hy
                  · rename_i hnx2
                    cases hy
                    refine ⟨C.exc G1 a, e, rfl, R1, G1, ρ1.set i .xn, _, S1.toX hnx i a, e2, fun σ2 G2 H2 s2 S2 => ?_⟩
                    exact P (σ2.set i none) G2 H2 (s1.trans s2) (S1.ofX S2 hnx2)
                  · cases hy
                | _ => cases hy
            · cases hy
          · subst hb1
            cases hy
            exact P c d σ1 G1 H1 s1 S1 R1
/-! ### looked at -/
def fXf (i : Nat) (e : XD) (ok : Str → Bool) (fld : Str) : M R := fun ρ => match ρ.sl[i]? with
  | some (some .xn) => if ok e.C = true then (match e.fs.lookup fld with
    | some d => some (.ok (.v d) ρ)
    | none => none) else none
  | _ => none
def fIs (i : Nat) (e : XD) (kin : Str → Option Bool) : M R := fun ρ => match ρ.sl[i]? with
  | some (some .xn) => (match kin e.C with
    | some b => if e.fs.isEmpty = false then some (.ok (.v (.bl b)) ρ) else none
    | none => none)
  | _ => none
theorem pd_xf {C' : Ctl} {xd : XD} {a : Addr} {oe : Obj} {d : Option Addr} {pn : List (Addr × Obj)} {n fld : Str} {p1 : Pos} {i : Nat} {ok : Str → Bool} (hxa : C'.xa = a) (hx : ExR C'.G0 X.kw xd (.ref (He.ga X.kw xd.C)) d) (hz : Zc (.ref (He.ga X.kw xd.C)) d oe) (hv : ∃ vs, oe.data = .fields vs)
    (T : ∀ y, ok y = true → XfC X.kw (He.ga X.kw y) ∧ PySem.W.findIn X.kw (.ref (He.ga X.kw y)) fld = some none) (he : PE (X.suite a ((a, oe) :: pn)) (.Name n p1) (tVar i)) (hb : attributeBase (.Name n p1) fld X.env (eval (.Name n p1) X.env) = eval (.Name n p1) X.env := by rfl) :
    PD (X.suite a ((a, oe) :: pn)) C' W (.Attribute (.Name n p1) fld pos) (fXf i xd ok fld) := by
  by_cases hok : ok xd.C = true
  · obtain ⟨T1, T2⟩ := T _ hok
    refine PE.of (pe_xf T1 T2 hz hv he hb) fun σ H Q ⟨G, ρ, y, S, hf, P⟩ => ?_
    unfold fXf at hf
    split at hf
    · rename_i hs
      rw [if_pos hok] at hf
      obtain ⟨v0, h1, h2⟩ := S.slot i _ hs
      have h2 : v0 = .ref C'.xa := h2
      rw [hxa] at h2
      subst h2
      cases el : xd.fs.lookup fld with
      | none => rw [el] at hf; cases hf
      | some z =>
        rw [el] at hf
        cases hf
        rcases hx.2 with h | ⟨dd, fv, e1, e2, e3⟩
        · rw [h] at el; cases el
        · obtain ⟨v, l, r⟩ := e3 _ _ el
          have e2' := S.old _ _ e2
          exact ⟨_, h1, rfl, rfl, dd, fv, v, e1, S.sub _ _ e2', l, P v G H (Same.refl _) S (r.mono S.old)⟩
    · cases hf
  · refine ⟨fun pins s σ H Q I ⟨G, ρ, y, S, hf, P⟩ => ?_⟩
    unfold fXf at hf
    split at hf
    · rw [if_neg hok] at hf; cases hf
    · cases hf
theorem call_isD {D a : Addr} {oe : Obj} {d : Option Addr} {pn : List (Addr × Obj)} (T : ExcC X.kw D) (hz : Zc (.ref D) d oe) (hf : ∃ vs, oe.data = .fields vs) :
    CallR (X.suite a ((a, oe) :: pn)) (.builtin "isinstance") (fun xs H Q => (d = none ∨ ∃ dd fs, d = some dd ∧ H dd = some (.xd fs)) ∧ rIsE X.kw D a xs H Q) := by
  intro pins s σ H xs us Q I r ⟨hd, h⟩
  obtain ⟨c, cv, b, rfl, hcv, e, q⟩ := h
  cases r with
  | cons rx rr =>
    cases rr with
    | cons rt rr =>
      cases rr
      cases rx
      have ec := hcv _ rt
      subst ec
      obtain ⟨hget, _⟩ := I.pin (a, oe) (List.mem_append.mpr (.inl List.mem_cons_self))
      obtain ⟨vs, hv⟩ := hf
      have J : ∃ od, PySem.W.InstAt s.heap a oe D od := by
        rcases hd with rfl | ⟨dd, fs, rfl, ea⟩
        · obtain ⟨oc, od, oda, osl⟩ := oe
          obtain ⟨h1, h2⟩ := hz
          dsimp only at h1 h2 hv
          subst h1 h2 hv
          exact ⟨none, hget, rfl, rfl, trivial⟩
        · have hx : ObjOk X.prog X.w H s.heap dd (.xd fs) := I.hok dd _ ea
          obtain ⟨mA, hns, hr⟩ := hx
          obtain ⟨od, ho, hl⟩ := lookIn_ns hns
          exact ⟨some od, hget, hz.1, by unfold PySem.W.notCls; rw [hv] <;> rfl, by rw [hz.2]; exact ho⟩
      obtain ⟨od, J⟩ := J
      exact PySem.W.kia_one (PySem.W.kitx_exc (od := od) (by obtain ⟨cd, hc, _⟩ := PySem.W.any_some T.hd; rw [hc]; rfl) T.hg T.hk T.hs T.ha T.hn T.ht T.hm) I.kIn J e (fun z => nomatch z) fun tk => ⟨.bl b, H, I.kept (t' := tk) fun _ _ z => z, rfl, q⟩
theorem pd_isE {C' : Ctl} {xd : XD} {a0 : Addr} {oe : Obj} {d : Option Addr} {pn : List (Addr × Obj)} {n : Str} {p1 p2 : Pos} {i : Nat} {kin : Str → Option Bool} {te : Expr} {cV : V} {cv : Value} (hxa : C'.xa = a0) (hx : ExR C'.G0 X.kw xd (.ref (He.ga X.kw xd.C)) d) (hz : Zc (.ref (He.ga X.kw xd.C)) d oe) (hv : ∃ vs, oe.data = .fields vs)
    (T : ∀ y b, kin y = some b → ExcC X.kw (He.ga X.kw y) ∧ PySem.W.kitOne X.kw (.ref (He.ga X.kw y)) cv = some b) (he : PE (X.suite a0 ((a0, oe) :: pn)) (.Name n p1) (tVar i)) (ht : PE (X.suite a0 ((a0, oe) :: pn)) te (tC cV)) (hcv : ∀ u, RelV cV u → u = cv)
    (hg : Gl X "isinstance") (hm : X.mg "isinstance" = none) (hsE : starEach [.Name n p1, te] X.env = (false, eval (.Name n p1) X.env) :: starEach [te] X.env := by rfl) (hs2 : starEach [te] X.env = (false, eval te X.env) :: starEach [] X.env := by rfl) (hpl : (backTo pos (starEach [te] X.env)).any (·.1) = false := by rfl) :
    PD (X.suite a0 ((a0, oe) :: pn)) C' W (.Call (.Name "isinstance" p2) [.Name n p1, te] [] pos) (fIs i xd kin) := by
  cases hk : kin xd.C with
  | none =>
    refine ⟨fun pins s σ H Q I ⟨G, ρ, y, S, hf, P⟩ => ?_⟩
    unfold fIs at hf
    rw [hk] at hf
    split at hf <;> cases hf
  | some b =>
    obtain ⟨T1, T2⟩ := T _ _ hk
    refine PE.of (pe_callB (call_isD T1 hz hv) hg hm PyProof.Rows.Boot.isinstance (pa_cons he (pa_cons ht pa_nil hs2) hsE) (by decide) (by decide) hsE hpl) fun σ H Q ⟨G, ρ, y, S, hf, P⟩ => ?_
    unfold fIs at hf
    rw [hk] at hf
    split at hf
    · rename_i hs
      simp only at hf
      split at hf
      rename_i hne
      cases hf
      obtain ⟨v0, h1, h2⟩ := S.slot i _ hs
      have h2 : v0 = .ref C'.xa := h2
      rw [hxa] at h2
      subst h2
      refine ⟨_, h1, ?_, _, cv, b, rfl, hcv, T2, P (.bl b) G H (Same.refl _) S rfl⟩
      rcases hx.2 with h | ⟨dd, fv, e1, e2, e3⟩
      · rw [h] at hne; cases hne
      · exact .inr ⟨dd, fv, e1, S.sub _ _ (S.old _ _ e2)⟩
      · cases hf
    · cases hf
end
end DL
set_option Elab.async false
set_option linter.all false
set_option maxRecDepth 100000
set_option maxHeartbeats 4000000
/-! DLu: the head's facts with own errors. -/
namespace DL
open PySem PySem.Spec PyProof.Rows L2
open NdefX
abbrev FnC : Type := Option (Str × Str × Arguments × FuncBody × Scope × Addr × List Str × Addr)
/-- an own error: its class, its field, its __init__'s row -/
structure IniD where
  cls : Str
  fld : Str
  st : Stmt
  qual : Str
def iniA (K : PySem.W.Frag) (d : IniD) : Addr := He.ma K (He.ga K d.cls) "__init__"
def fnC (K : PySem.W.Frag) (d : IniD) : FnC := match K.lookup (iniA K d) with
  | some ⟨_, _, .func fd, _⟩ => some (fd.name, fd.qualname, fd.params, fd.body, fd.scope, fd.globals, fd.closure.map (·.1), fd.builtins)
  | _ => none
def IniD.val (d : IniD) : FnC := some ("__init__", d.qual, defArgs d.st, .stmts (defBody d.st), defScope d.st, mainGlobals, ["__class__"], builtinsNs)
/-- the class object -/
def clsB (K : PySem.W.Frag) (C : Addr) : Bool := match K.lookup C with
  | some ⟨.type t, _, .cls cd, sl⟩ => (match cd.mro, sl.toList with
    | .ref C' :: bm, [_, _, _, _, some (.builtin n), _] => decide (t = "type") && (decide (C' = C) && (decide (n = "ValueError.__new__") && (!cd.hasDel && (cd.hasDict && PySem.HandSPX.refsVE bm))))
    | _, _ => false)
  | _ => false
/-- the __init__ object -/
def iniB (file : Str) (K : PySem.W.Frag) (C f : Addr) (qual : Str) : Bool := match K.lookup f with
  | some ⟨.type t, _, .func fd, _⟩ => decide (t = "function") && (decide (fd.defaults = .none) && (decide (fd.kwdefaults = .none) && (decide (fd.annotations = none) && (PySem.W.codeIn K fd.code qual && (match fd.closure, fd.code with
    | [(_, cc)], .ref cda => (match K.lookup cc with
      | some ⟨_, _, .cell (some (.ref D)), _⟩ => decide (D = C)
      | _ => false) && (match K.lookup cda with
      | some ⟨_, _, .fields vs, _⟩ => (match vs[2]? with
        | some (Value.str fl _) => file == fl
        | _ => false)
      | _ => false)
    | _, _ => false)))))
  | _ => false
def errB (file : Str) (K : PySem.W.Frag) (d : IniD) : Bool :=
  clsB K (He.ga K d.cls) && (decide (PySem.W.findIn K (.ref (He.ga K d.cls)) "__setattr__" = some (some (.builtin "object.__setattr__"))) && (decide (PySem.W.subIn K (.ref (He.ga K d.cls)) (.type "BaseException") = some true) && (decide (PySem.W.typeIn K (.ref (He.ga K d.cls)) = some (.type "type")) && (PySem.W.keepIn K (.ref (He.ga K d.cls)) &&
  (decide (PySem.W.ks_superIn K (He.ga K d.cls) (He.ga K d.cls) "__init__" = some (some (.builtin "ValueError.__init__"))) && (decide (PySem.W.subIn K (.ref (He.ga K d.cls)) (.type "ValueError") = some true) && (decide (PySem.W.mroIn K (He.ga K d.cls) (.ref (He.ga K d.cls)) = some true) && (decide (PySem.W.nsIn K cStatics "thirdparty.any" = some none) &&
  (decide (PySem.W.findIn K (.ref (He.ga K d.cls)) "__init__" = some (some (.ref (iniA K d)))) && (decide (PySem.W.typeIn K (.ref (iniA K d)) = some (.type "function")) && (decide (PySem.W.findIn K (.ref (He.ga K d.cls)) d.fld = some none) && iniB file K (He.ga K d.cls) (iniA K d) d.qual)))))))))))
theorem clsB_ok {K : PySem.W.Frag} {C : Addr} (h : clsB K C = true) : ∃ nm q N bs bm sn sub ab col dd k0 k1 k2 k3 k5, K.lookup C = some (excClassObj nm q C N bs bm true sn sub ab col dd k0 k1 k2 k3 k5 "ValueError.__new__") ∧ PySem.HandSPX.refsVE bm = true := by
  unfold clsB at h
  split at h
  · rename_i t dd cd sl lk
    split at h
    · rename_i C' bm k0 k1 k2 k3 n k5 hm hs
      simp only [Bool.and_eq_true, decide_eq_true_eq, Bool.not_eq_true'] at h
      obtain ⟨rfl, rfl, rfl, h1, h2, h3⟩ := h
      obtain ⟨nm, bs, mro, ns, qn, hd, sn, sub, ab, col, del⟩ := cd
      dsimp only at hm h1 h2
      subst hm h1 h2
      have hsl : sl = #[k0, k1, k2, k3, some (.builtin "ValueError.__new__"), k5] := by
        obtain ⟨l⟩ := sl
        simp only at hs
        rw [hs]
      subst hsl
      exact ⟨nm, qn, ns, bs, bm, sn, sub, ab, col, dd, k0, k1, k2, k3, k5, lk, h3⟩
    · cases h
  · cases h
section
variable {P : Program} {w : World} {K : PySem.W.Frag} {mg : Str → Option Value} {base h : Heap}
theorem errOk_of {d : IniD} {file p z : Str} {kd : Nat} {p0 p1 p2 p3 p4 p5 q0 q1 q2 q3 : Pos} {pl : Sem Bool} {ar : Arg} (X : K.In h) (G : h.Ns mainGlobals mg) (c : (He.Fa.glo d.cls).ok K = true) (hm : mg "super" = none) (b : errB file K d = true) (v : fnC K d = d.val)
    (top : (P.main.scope.names.lookup ("super" : Str)).isSome = false) (hfile : P.main.file = file)
    (hbody : defBody d.st = [.Expr (.Call (.Attribute (.Call (.Name "super" p0) [] [] p1) "__init__" p2) [.Constant (.str z) kd p3] [] p4) p5, .Assign [.Attribute (.Name "self" q0) d.fld q1] (.Name p q2) q3])
    (S : NScope ["self", p, "__class__"] ["self", p] ["__class__"] (defScope d.st)) (hks : (defScope d.st).names.lookup ("super" : Str) = some .globalImplicit)
    (hp : ((defArgs d.st).posonlyargs ++ (defArgs d.st).args).head? = some ar) (har : ar.arg = "self")
    (hev : ∀ env : Env, eval (.Call (.Attribute (.Call (.Name "super" p0) [] [] p1) "__init__" p2) [.Constant (.str z) kd p3] [] p4) env = (do
      let ov ← attributeBase (.Call (.Name "super" p0) [] [] p1) "__init__" env (eval (.Call (.Name "super" p0) [] [] p1) env)
      standAt p2.atName
      let (f, first) ← holding [ov] (getMethod ov "__init__" pl)
      callWith p4 f first (backTo p4 (starEach [.Constant (.str z) kd p3] env)) []))
    (hi : ∀ (f L c : Addr) cl, interactive (PySem.W.envX d.qual (defScope d.st) L f (.ref c) cl) = false)
    (hb : ∀ (cl : List (Str × Addr)) (doc pm cdv ct : Value) (us : List Value), us.length = 2 → bindArgs (PySem.W.fnX "__init__" d.qual (defArgs d.st) (defBody d.st) (defScope d.st) cl .none .none doc pm none cdv ct) ⟨us, []⟩ = pure ((["self", p] : List Str).zip us))
    (hself : ∀ (F : NF) (f : Addr) A outer s H E, F.scope = defScope d.st → PE (ncx CX0 P w K mg base ["self", p, "__class__"] F f A outer s H E) (.Name "self" q0) (tVar 0))
    (hpar : ∀ (F : NF) (f : Addr) A outer s H E, F.scope = defScope d.st → PE (ncx CX0 P w K mg base ["self", p, "__class__"] F f A outer s H E) (.Name p q2) (tVar 1))
    (hsw : ∀ (env : Env), swapsWith (.Name p q2) (some (.Attribute (.Name "self" q0) d.fld q1)) q3.line env = pure false) : ErrOk P w K mg base d.cls d.fld := by
  unfold errB at b
  simp only [Bool.and_eq_true, decide_eq_true_eq] at b
  obtain ⟨b1, b2, b3, b4, b5, b6, b7, b8, b9, b10, b11, b12, b13⟩ := b
  have T : SupC P K (He.ga K d.cls) := ⟨⟨clsB_ok b1, b2, b3, b4, b5⟩, b6, b7, b8, b9, top⟩
  refine ⟨He.glo_ok X G c, T, ?_⟩
  unfold iniB at b13
  unfold fnC at v
  cases lk : K.lookup (iniA K d) with
  | none => rw [lk] at b13; cases b13
  | some o =>
    obtain ⟨oc, od, dt, osl⟩ := o
    rw [lk] at b13 v
    cases dt with
    | func fd =>
      cases oc with
      | type t =>
        obtain ⟨n1, n2, n3, n4, n5, n6, n7, n8, n9, n10, n11, n12, n13, n14, n15⟩ := fd
        have v2 : (some (n1, n2, n3, n4, n5, n6, n7.map (·.1), n15) : FnC) = (some (("__init__" : Str), d.qual, defArgs d.st, FuncBody.stmts (defBody d.st), defScope d.st, mainGlobals, [("__class__" : Str)], builtinsNs) : FnC) := v
        simp only [Option.some.injEq, Prod.mk.injEq] at v2
        obtain ⟨h1, h2, h3, h4, h5, h6, h7, h8⟩ := v2
        subst h1 h2 h3 h4 h5 h6 h8
        simp only [Bool.and_eq_true, decide_eq_true_eq] at b13
        obtain ⟨rfl, rfl, rfl, rfl, hcd, hcl⟩ := b13
        match n7, h7, hcl with
        | [(y, cc)], h7, hcl =>
          have ey : y = "__class__" := by simpa using h7
          subst ey
          cases n13 with
          | ref cda =>
            simp only [Bool.and_eq_true] at hcl
            obtain ⟨hc1, hc2⟩ := hcl
            cases lcc : K.lookup cc with
            | none => rw [lcc] at hc1; cases hc1
            | some o2 =>
              rw [lcc] at hc1
              cases lcd : K.lookup cda with
              | none => rw [lcd] at hc2; cases hc2
              | some o3 =>
                rw [lcd] at hc2
                split at hc1
                · rename_i oc2 od2 D sl2 e2
                  cases e2
                  have hD : D = He.ga K d.cls := of_decide_eq_true hc1
                  subst hD
                  split at hc2
                  · rename_i oc3 od3 vs sl3 e3
                    cases e3
                    split at hc2
                    · rename_i fl tf e4
                      refine ⟨iniA K d, PySem.W.fnX "__init__" d.qual (defArgs d.st) (defBody d.st) (defScope d.st) [(("__class__" : Str), cc)] .none .none n10 n11 none (.ref cda) n14, p, b10, b11, ?_, Binds.all fun us hl => hb _ _ _ _ _ us hl⟩
                      let F : NF := ⟨"__init__", d.qual, defArgs d.st, defBody d.st, defScope d.st, [(("__class__" : Str), cc)], cda⟩
                      exact fn_super (F := F) (k := 0) (ar := ar) (pl := pl) T hm lk hcd S rfl lcc lcd e4 (by rw [hfile]; exact hc2) hp (by rw [har]; rfl) hks hbody hev (fun L => hi _ _ _ _) (fun vs H Q E ⟨a, v, e, _⟩ => by rw [e]; rfl)
                        (fun A outer s H vs Q E hr ⟨a, v, e, hH, hq⟩ => by
                          subst e
                          refine ⟨a, rfl, hH, _, pss_one (ps_ost (hself F _ A outer s H E rfl) (hpar F _ A outer s H E rfl) (hsw _)), ?_⟩
                          exact ⟨v, rfl, _, rfl, a, He.ga K d.cls, rfl, T.oex, b12, .inl ⟨hH, fun dx n ne => hq dx n ne⟩⟩)
                    · cases hc2
                  · cases hc2
                · cases hc1
          | _ => cases hcl
      | _ => cases b13
    | _ => cases v
/-! ### the Hook -/
abbrev AlZ : Type := He.AlT × (Bool × List FnC)
def frZ (g : Addr → Option Obj) (n : Nat) : PySem.W.Frag := He.frT g (cStatics :: He.asD g n)
def obsZ (n : Nat) (fa : List He.Fa) (fn : List He.DefD) (ts : List He.Tab) (ex : PySem.W.Frag → Bool) (ini : List IniD) (g : Addr → Option Obj) : AlZ := (He.obsT fa fn ts (frZ g n), (ex (frZ g n), ini.map (fnC (frZ g n))))
def valZ (fn : List He.DefD) (ts : List He.Tab) (ini : List IniD) (w : World) : AlZ := (He.valT fn ts w, (true, ini.map IniD.val))
structure SaysZ (fa : List He.Fa) (fn : List He.DefD) (ts : List He.Tab) (ex : PySem.W.Frag → Bool) (ini : List IniD) (w : World) (K : PySem.W.Frag) : Prop where
  t : He.SaysT fa fn ts w K
  more : ex K = true
  ini : ini.map (fnC K) = ini.map IniD.val
def hookZ (n : Nat) (fa : List He.Fa) (fn : List He.DefD) (ts : List He.Tab) (ex : PySem.W.Frag → Bool) (ini : List IniD) : PySem.W.Hook where
  α := AlZ
  obs := fun s => obsZ n fa fn ts ex ini s.heap.get?
  val := fun w => valZ fn ts ini w
  says := fun w h => ∃ K : PySem.W.Frag, K.In h ∧ SaysZ fa fn ts ex ini w K
  of := fun w s e => ⟨frZ s.heap.get? n, He.frT_in, ⟨congrArg (fun z : AlZ => z.1) e, congrArg (fun z : AlZ => z.2.1) e, congrArg (fun z : AlZ => z.2.2) e⟩⟩
  keeps := fun _ _ _ ⟨K, hK, c⟩ k => ⟨K, PySem.W.Frag.In.keeps hK k, c⟩
theorem obsZ_eq {n : Nat} {fa : List He.Fa} {fn : List He.DefD} {ts : List He.Tab} {ex : PySem.W.Frag → Bool} {ini : List IniD} {g : Addr → Option Obj} {s : Shared} (h : ∀ a, g a = s.heap.get? a) : obsZ n fa fn ts ex ini g = (hookZ n fa fn ts ex ini).obs s := by
  have e : g = s.heap.get? := funext h
  rw [e] <;> rfl
theorem says_ini {fa : List He.Fa} {fn : List He.DefD} {ts : List He.Tab} {ex : PySem.W.Frag → Bool} {ini : List IniD} (c : SaysZ fa fn ts ex ini w K) (i : Nat) {d : IniD} (e : ini[i]? = some d) : fnC K d = d.val := by
  have h := congrArg (fun l => l[i]?) c.ini
  simp only [List.getElem?_map, e, Option.map_some, Option.some.injEq] at h
  exact h
end
end DL
set_option Elab.async false
set_option linter.all false
set_option maxRecDepth 100000
set_option maxHeartbeats 4000000
/-! DLv: errors by names. -/
namespace DL
open PySem PySem.Spec PyProof.Rows L2
def excB (K : PySem.W.Frag) (D : Addr) : Bool :=
  decide (PySem.W.findIn K (.ref D) "__getattribute__" = some (some (.builtin "BaseException.__getattribute__"))) && (decide (PySem.W.findIn K (.ref D) "__getattr__" = some none) && (decide (PySem.W.subIn K (.ref D) (.type "BaseException") = some true) && (PySem.W.hasDictIn K D && (decide (PySem.W.findIn K (.ref D) "__class__" = some (some (.builtin "object.__class__"))) &&
  (decide (PySem.W.specialIn K (.builtin "object.__class__") "__get__" = some (some (.builtin "getset_descriptor.__get__"))) && (decide (PySem.W.takesIn K (.builtin "object.__class__") = some true) && decide (PySem.W.mroIn K D (.type "object") = some true)))))))
theorem excB_ok {K : PySem.W.Frag} {D : Addr} (h : excB K D = true) : ExcC K D := by
  unfold excB at h
  simp only [Bool.and_eq_true, decide_eq_true_eq] at h
  obtain ⟨h1, h2, h3, h4, h5, h6, h7, h8⟩ := h
  exact ⟨h1, h2, h3, h4, h5, h6, h7, h8⟩
theorem exc_xf {K : PySem.W.Frag} {D : Addr} (h : ExcC K D) : XfC K D := ⟨h.hg, h.hk, h.hs, h.hd⟩
/-- an own error with one field -/
structure ErrF (P : Program) (w : World) (K : PySem.W.Frag) (mg : Str → Option Value) (base : Heap) (x f : Str) : Prop where
  ok : ErrOk P w K mg base x f
  no : PySem.W.findIn K (.ref (He.ga K x)) f = some none
  ex : ExcC K (He.ga K x)
theorem errB_no {file : Str} {K : PySem.W.Frag} {d : IniD} (b : errB file K d = true) : PySem.W.findIn K (.ref (He.ga K d.cls)) d.fld = some none := by
  unfold errB at b
  simp only [Bool.and_eq_true, decide_eq_true_eq] at b
  exact b.2.2.2.2.2.2.2.2.2.2.2.1
def exmB (K : PySem.W.Frag) (x y : Str) (b : Bool) : Bool := decide (PySem.W.exmOne K (.ref (He.ga K x)) (.ref (He.ga K y)) = some b)
def kitU (K : PySem.W.Frag) (x y : Str) (b : Bool) : Bool := decide (PySem.W.kitOne K (.ref (He.ga K x)) (.ref (He.ga K y)) = some b)
def kitT (K : PySem.W.Frag) (x : Str) (T : String) (b : Bool) : Bool := decide (PySem.W.kitOne K (.ref (He.ga K x)) (.type T) = some b)
def lk (l : List (Str × Bool)) : Str → Option Bool := fun y => l.lookup y
def inL (l : List Str) : Str → Bool := fun y => l.contains y
theorem al_nil {α : Type} {P : α → Prop} : ∀ x ∈ ([] : List α), P x := fun _ h => by cases h
theorem al_cons {α : Type} {P : α → Prop} {a : α} {l : List α} (h : P a) (t : ∀ x ∈ l, P x) : ∀ x ∈ a :: l, P x := fun x hx => by
  rcases List.mem_cons.mp hx with rfl | hx
  · exact h
  · exact t x hx
section
variable {X : Cx} {C : Ctl} {W : WX} {pos : Pos} {body : List Stmt} {p : F}
theorem pq_try {x n : Str} {i : Nat} {suite : List Stmt} {b₀ : Stmt} {np p2 : Pos} {l : List (Str × Bool)} {fs : XD → F} (hN : X.N.Nodup) (tk : Takes X W) (hg : Gl X x) (hm : X.mg x = some (.ref (He.ga X.K x)))
    (hh : ∀ q ∈ l, PySem.W.exmOne X.K (.ref (He.ga X.K q.1)) (.ref (He.ga X.K x)) = some q.2)
    (hb : ∀ (W : WX) (pn : List (Addr × Obj)) (xe : Value → Shared → Prop), Takes (X.tr pn xe) W → PassesOwn (model X.prog X.w) X.A X.env xe → PQs (X.tr pn xe) C W body p)
    (hsu : ∀ (C' : Ctl) (e : XD) (a : Addr) (oe : Obj) (d : Option Addr) (pn : List (Addr × Obj)), C'.xa = a → ExR C'.G0 X.kw e (.ref (He.ga X.K e.C)) d → Zc (.ref (He.ga X.K e.C)) d oe → (∃ vs, oe.data = .fields vs) → PQs (X.suite a ((a, oe) :: pn)) C' W0 (b₀ :: suite) (fs e))
    (hs : X.stack = X.env :: X.outer := by rfl) (hf : X.env.frame = some X.env.locals := by rfl) (hi : X.N[i]? = some n := by rfl) (hln : X.env.kindOf n = some .local := by rfl) (hd : (x == ("__debug__" : Str)) = false := by decide) :
    PQ X C W (.Try body [.ExceptHandler (some (.Name x np)) (some n) (b₀ :: suite) p2] [] [] pos) (fTryAs i (lk l) p fs) :=
  pq_tryAs hs hf hN hi hln ⟨hg, hd, .inl hm⟩ tk (fun y b e => hh (y, b) (lookup_mem' e)) hb hsu
theorem pd_fld {C' : Ctl} {xd : XD} {a : Addr} {oe : Obj} {d : Option Addr} {pn : List (Addr × Obj)} {n fld : Str} {p1 : Pos} {i : Nat} {l : List Str} (hxa : C'.xa = a) (hx : ExR C'.G0 X.kw xd (.ref (He.ga X.K xd.C)) d) (hz : Zc (.ref (He.ga X.K xd.C)) d oe) (hv : ∃ vs, oe.data = .fields vs)
    (T : ∀ y ∈ l, XfC X.K (He.ga X.K y) ∧ PySem.W.findIn X.K (.ref (He.ga X.K y)) fld = some none) (he : PE (X.suite a ((a, oe) :: pn)) (.Name n p1) (tVar i)) (hb : attributeBase (.Name n p1) fld X.env (eval (.Name n p1) X.env) = eval (.Name n p1) X.env := by rfl) :
    PD (X.suite a ((a, oe) :: pn)) C' W (.Attribute (.Name n p1) fld pos) (fXf i xd (inL l) fld) :=
  pd_xf hxa hx hz hv (fun y e => T y (by simpa [inL] using e)) he hb
theorem pd_isU {C' : Ctl} {xd : XD} {a0 : Addr} {oe : Obj} {d : Option Addr} {pn : List (Addr × Obj)} {n y : Str} {p1 p2 p3 : Pos} {i : Nat} {l : List (Str × Bool)} (hxa : C'.xa = a0) (hx : ExR C'.G0 X.kw xd (.ref (He.ga X.K xd.C)) d) (hz : Zc (.ref (He.ga X.K xd.C)) d oe) (hv : ∃ vs, oe.data = .fields vs)
    (T : ∀ q ∈ l, ExcC X.K (He.ga X.K q.1) ∧ PySem.W.kitOne X.K (.ref (He.ga X.K q.1)) (.ref (He.ga X.K y)) = some q.2) (hy : X.mg y = some (.ref (He.ga X.K y))) (hgy : Gl X y) (hm : X.mg "isinstance" = none) (hg : Gl X "isinstance") (he : PE (X.suite a0 ((a0, oe) :: pn)) (.Name n p1) (tVar i))
    (hd : (y == ("__debug__" : Str)) = false := by decide) (hsE : starEach [.Name n p1, .Name y p3] X.env = (false, eval (.Name n p1) X.env) :: starEach [.Name y p3] X.env := by rfl) (hs2 : starEach [.Name y p3] X.env = (false, eval (.Name y p3) X.env) :: starEach [] X.env := by rfl) (hpl : (backTo pos (starEach [.Name y p3] X.env)).any (·.1) = false := by rfl) :
    PD (X.suite a0 ((a0, oe) :: pn)) C' W (.Call (.Name "isinstance" p2) [.Name n p1, .Name y p3] [] pos) (fIs i xd (lk l)) :=
  pd_isE (cV := .ref (He.ga X.K y)) hxa hx hz hv (fun z b e => T (z, b) (lookup_mem' e)) he (pe_glob (X := X.suite a0 ((a0, oe) :: pn)) (v := .ref (He.ga X.K y)) hgy hy rfl hd) (fun u r => r) hg hm hsE hs2 hpl
theorem pd_isV {C' : Ctl} {xd : XD} {a0 : Addr} {oe : Obj} {d : Option Addr} {pn : List (Addr × Obj)} {n y : Str} {T0 : String} {p1 p2 p3 : Pos} {i : Nat} {l : List (Str × Bool)} (hxa : C'.xa = a0) (hx : ExR C'.G0 X.kw xd (.ref (He.ga X.K xd.C)) d) (hz : Zc (.ref (He.ga X.K xd.C)) d oe) (hv : ∃ vs, oe.data = .fields vs)
    (T : ∀ q ∈ l, ExcC X.K (He.ga X.K q.1) ∧ PySem.W.kitOne X.K (.ref (He.ga X.K q.1)) (.type T0) = some q.2) (hy : X.mg y = none) (hb0 : bootBuiltins y = some (.type T0)) (hgy : Gl X y) (hm : X.mg "isinstance" = none) (hg : Gl X "isinstance") (he : PE (X.suite a0 ((a0, oe) :: pn)) (.Name n p1) (tVar i))
    (hn : y ≠ "__name__" := by decide) (hd : (y == ("__debug__" : Str)) = false := by decide) (hsE : starEach [.Name n p1, .Name y p3] X.env = (false, eval (.Name n p1) X.env) :: starEach [.Name y p3] X.env := by rfl) (hs2 : starEach [.Name y p3] X.env = (false, eval (.Name y p3) X.env) :: starEach [] X.env := by rfl) (hpl : (backTo pos (starEach [.Name y p3] X.env)).any (·.1) = false := by rfl) :
    PD (X.suite a0 ((a0, oe) :: pn)) C' W (.Call (.Name "isinstance" p2) [.Name n p1, .Name y p3] [] pos) (fIs i xd (lk l)) :=
  pd_isE (cV := .ty T0) hxa hx hz hv (fun z b e => T (z, b) (lookup_mem' e)) he (pe_bltn (X := X.suite a0 ((a0, oe) :: pn)) (v := .ty T0) hgy hy hb0 rfl hn hd) (fun u r => r) hg hm hsE hs2 hpl
end
end DL
set_option Elab.async false
set_option linter.all false
set_option maxRecDepth 100000
set_option maxHeartbeats 4000000
/-! DLw: slices of lists with a step. -/
namespace DL
open PySem PySem.Spec PyProof.Rows L2
def pickL {α : Type} (xs : List α) (lo hi st : Option Int) : List α := (sliceRange (sliceBounds lo hi st xs.length).1 (sliceBounds lo hi st xs.length).2.1 (sliceBounds lo hi st xs.length).2.2).filterMap (xs[·]?)
theorem vals_idx {xs : List V} {its : List Value} (r : Vals xs its) : ∀ (l : List Nat), Vals (l.filterMap (xs[·]?)) (l.filterMap (its[·]?))
  | [] => .nil
  | i :: l => by
    have ih := vals_idx r l
    cases e : xs[i]? with
    | none =>
      have e2 : its[i]? = none := by
        rw [List.getElem?_eq_none_iff] at e ⊢
        rw [← r.length]
        exact e
      rw [List.filterMap_cons_none e, List.filterMap_cons_none e2]
      exact ih
    | some v =>
      obtain ⟨u, e2, rv⟩ := r.get e
      rw [List.filterMap_cons_some e, List.filterMap_cons_some e2]
      exact .cons rv ih
theorem repL_idx {K : KW} {G : Hp} {ds : List D} {xs : List V} (r : RepL K G ds xs) : ∀ (l : List Nat), RepL K G (l.filterMap (ds[·]?)) (l.filterMap (xs[·]?))
  | [] => RepL.nil
  | i :: l => by
    have ih := repL_idx r l
    cases e : ds[i]? with
    | none =>
      have e2 : xs[i]? = none := by
        rw [List.getElem?_eq_none_iff] at e ⊢
        rw [← r.length]
        exact e
      rw [List.filterMap_cons_none e, List.filterMap_cons_none e2]
      exact ih
    | some d =>
      obtain ⟨v, e2, rv⟩ := r.get e
      rw [List.filterMap_cons_some e, List.filterMap_cons_some e2]
      exact RepL.cons rv ih
theorem pick_vals {xs : List V} {its : List Value} (r : Vals xs its) (lo hi st : Option Int) : Vals (pickL xs lo hi st) (PySem.slicePick its.toArray lo hi st).toList := by
  unfold pickL PySem.slicePick
  rw [List.size_toArray, r.length]
  have := vals_idx r (sliceRange (sliceBounds lo hi st its.length).1 (sliceBounds lo hi st its.length).2.1 (sliceBounds lo hi st its.length).2.2)
  simpa using this
section
variable {X : Cx} {C : Ctl} {W : WX}
def tStepL (K : KW) (te : TE) (tl th ts : TO) : TE := fun σ H Q => te σ H fun x H1 => tl σ H1 fun l H2 => th σ H2 fun u H3 => ts σ H3 fun t H4 => ∃ a xs, x = .ref a ∧ SqL K H4 a xs ∧ t ≠ some 0 ∧ (pickL xs l u t).length ≤ sizeLine ∧ ∀ p, H4 p = none → Q (.ref p) (upd H4 p (.lst (pickL xs l u t)))
theorem pe_stepL {e st : Expr} {lo hi : Option Expr} {te : TE} {tl th ts : TO} {p2 p3 : Pos} (he : PE X e te) (hl : PO X lo tl) (hh : PO X hi th) (hs : PO X (some st) ts)
    : PE X (.Subscript e (.Slice lo hi (some st) p2) p3) (tStepL X.kw te tl th ts) := by
  refine ⟨fun pins s σ H Q I h => ?_⟩
  refine Subscript_ (thn (he.run pins s σ H _ I h) fun v s1 ⟨x, H1, I1, r1, q1⟩ => ?_)
  refine wpAny_Slice (thn (hl.run pins s1 σ H1 _ I1 q1) fun vl s2 ⟨l, H2, I2, pl, q2⟩ => ?_)
  refine thn (hh.run pins s2 σ H2 _ I2 q2) fun vu s3 ⟨u, H3, I3, pu, q3⟩ => ?_
  refine thn (hs.run pins s3 σ H3 _ I3 q3) fun vs s4 ⟨t, H4, I4, ps, q4⟩ => ?_
  obtain ⟨a, xs, ex, hx, h0, hz0, q⟩ := q4
  subst ex
  cases r1
  have I5 : L2.Inv X pins σ H4 { s4 with heap := s4.heap.push { cls := .type "slice", data := .fields #[vl, vu, vs] } } := I4.kept (t' := s4.toks) fun b ob q => Heap.get?_push_of_some _ q
  obtain ⟨its, r, ht, hz⟩ := I5.list hx
  have hlen := r.length
  refine tail_any (ops := [.ref a, .ref s4.heap.objs.size]) ht.isList.typeIs (PySem.slot_list_getitem.lookup) ?_ (by with_unfolding_all rfl)
  refine wpAny_getItem_list_slice ht.isList (Heap.IsSliceOf.new _ vl vu vs) pl pu ps h0 ?_ (by rw [List.size_toArray]; omega)
  refine ⟨.ref _, _, I5.laid (t' := s4.toks) (o := .lst (pickL xs l u t)) (fun b ob q => Heap.get?_push_of_some _ q) (Nat.le_refl _) ?_, rfl, q _ (I5.hok.fresh (Nat.le_refl _))⟩
  exact ⟨hz0, _, 0, pick_vals r l u t, Heap.get?_push_size _ rfl⟩
variable {a c : Expr} {pos : Pos} {f : M R}
def stepD (lo hi st : Option Int) : D → Option R
  | .lst ds => if st ≠ some 0 ∧ szOk (pickL ds lo hi st).length then some (.n (.lst (pickL ds lo hi st))) else none
  | _ => none
def fStep (f : M R) (lo hi st : M (Option Int)) : M R := f.bind fun r => lo.bind fun l => hi.bind fun u => st.bind fun t => op1 (stepD l u t) r
theorem pick_len {K : KW} {G : Hp} {ds : List D} {xs : List V} (r : RepL K G ds xs) (lo hi st : Option Int) : RepL K G (pickL ds lo hi st) (pickL xs lo hi st) := by
  unfold pickL
  rw [r.length]
  exact repL_idx r _
theorem pd_step {lo hi : Option Expr} {p2 : Pos} {fl fh fs : M (Option Int)} (ha : PD X C W a f) (hl : POd X C W lo fl) (hh : POd X C W hi fh) (hs : POd X C W (some c) fs) : PD X C W (.Subscript a (.Slice lo hi (some c) p2) pos) (fStep f fl fh fs) :=
  PE.of (pe_stepL ha hl hh hs) fun σ H Q ⟨G, ρ, x, S, hf, P⟩ => by
    rcases bind_ok hf with ⟨r1, ρ1, h1, h2⟩ | ⟨q, ρ1, h1, rfl⟩
    · rcases bind_ok h2 with ⟨l, ρ2, h3, h4⟩ | ⟨q, ρ2, h3, rfl⟩
      · rcases bind_ok h4 with ⟨u, ρ3, h5, h6⟩ | ⟨q, ρ3, h5, rfl⟩
        · rcases bind_ok h6 with ⟨t, ρ4, h7, h8⟩ | ⟨q, ρ4, h7, rfl⟩
          · obtain ⟨d, r, l1, hk, rfl⟩ := op1_ok h8
            refine ⟨G, ρ, _, S, h1, fun v1 G1 H1 e1 S1 R1 => ⟨G1, ρ1, _, S1, h3, fun G2 H2 e2 S2 => ⟨G2, ρ2, _, S2, h5, fun G3 H3 e3 S3 => ⟨G3, ρ3, _, S3, h7, fun G4 H4 e4 S4 => ?_⟩⟩⟩⟩
            have w1 := S4.look (R1.later (look_nn l1) ((e2.trans e3).trans e4)) l1
            unfold stepD at hk
            split at hk
            · split at hk
              · rename_i hz
                cases hk
                obtain ⟨p, xs, e5, hp, r5⟩ := w1
                have rr := pick_len r5 l u t
                refine ⟨p, xs, e5, SqL.of hp, hz.1, by rw [← rr.length]; exact hz.2.line, fun p hp => ?_⟩
                exact ans_n (fun v G' H' e' S' R' => P v G' H' ((((e1.trans e2).trans e3).trans e4).trans e') S' R') S4 rr p hp
              · cases hk
            · cases hk
          · exact ⟨G, ρ, _, S, h1, fun v1 G1 H1 e1 S1 R1 => ⟨G1, ρ1, _, S1, h3, fun G2 H2 e2 S2 => ⟨G2, ρ2, _, S2, h5, fun G3 H3 e3 S3 => ⟨G3, ρ3, _, S3, h7, fun cc dd G' H' e' S' R' => P cc dd G' H' (((e1.trans e2).trans e3).trans e') S' R'⟩⟩⟩⟩
        · exact ⟨G, ρ, _, S, h1, fun v1 G1 H1 e1 S1 R1 => ⟨G1, ρ1, _, S1, h3, fun G2 H2 e2 S2 => ⟨G2, ρ2, _, S2, h5, fun cc dd G' H' e' S' R' => P cc dd G' H' ((e1.trans e2).trans e') S' R'⟩⟩⟩
      · exact ⟨G, ρ, _, S, h1, fun v1 G1 H1 e1 S1 R1 => ⟨G1, ρ1, _, S1, h3, fun cc dd G' H' e' S' R' => P cc dd G' H' (e1.trans e') S' R'⟩⟩
    · exact ⟨G, ρ, _, S, h1, P⟩
end
end DL
set_option Elab.async false
set_option linter.all false
set_option maxRecDepth 100000
set_option maxHeartbeats 4000000
/-! DLx: fields of own objects, read. -/
namespace DL
open PySem PySem.Spec PyProof.Rows L2
theorem zip_fld {K : KW} {G : Hp} {f : Str} : ∀ {ns : List Str} {ds : List D} {vs : List V} {d : D}, RepL K G ds vs → (ns.zip ds).lookup f = some d → ∃ v, (ns.zip vs).lookup f = some v ∧ Rep K G d v
  | [], _, _, _, _, h => by cases h
  | _ :: _, [], _, _, _, h => by cases h
  | n :: ns, x :: ds, vs, d, ⟨v, r, e, hv, hr⟩, h => by
    subst e
    rw [List.zip_cons_cons, List.lookup_cons] at h ⊢
    by_cases z : f == n
    · rw [z] at h ⊢
      cases h
      exact ⟨v, rfl, hv⟩
    · have z' : (f == n) = false := by simpa using z
      rw [z'] at h ⊢
      exact zip_fld hr h
def fldD (l : List Str) (f : Str) : D → Option R
  | .ins C ns ds => if l.contains C = true then (match (ns.zip ds).lookup f with
    | some d => some (.v d)
    | none => none) else none
  | _ => none
section
variable {X : Cx} {C : Ctl} {W : WX} {a : Expr} {pos : Pos} {f : M R}
theorem pd_at {l : List Str} {n : Str} (T : ∀ y ∈ l, Cls X.kw (He.ga X.kw y) ∧ NoAttr X.kw (He.ga X.kw y) n) (ha : PD X C W a f) (hb : attributeBase a n X.env (eval a X.env) = eval a X.env := by rfl) : PD X C W (.Attribute a n pos) (fUn (fldD l n) f) :=
  PE.of (pe_fld ha hb) fun σ H Q ⟨G, ρ, x, S, hf, P⟩ => by
    refine tD.seq S hf P fun r ρ1 v G1 H1 e1 S1 R1 h2 P1 => ?_
    obtain ⟨d, q, l1, hk, rfl⟩ := op1_ok h2
    unfold fldD at hk
    split at hk
    · rename_i C0 ns ds
      split at hk
      · rename_i hc
        split at hk
        · rename_i d0 hl
          cases hk
          obtain ⟨a0, dx, vs, e, h1, rl⟩ := S1.look R1 l1
          obtain ⟨v0, hv, rv⟩ := zip_fld rl hl
          obtain ⟨T1, T2⟩ := T C0 (by simpa using hc)
          exact ⟨a0, _, dx, _, v0, e, h1, T1, T2, hv, P1 v0 G1 H1 (Same.refl _) S1 rv⟩
        · cases hk
      · cases hk
    · cases hk
end
/-! ### methods -/
theorem zip_none {m : Str} : ∀ {ns : List Str} {vs : List V}, ns.contains m = false → (ns.zip vs).lookup m = none
  | [], _, _ => rfl
  | _ :: _, [], _ => rfl
  | n :: ns, v :: vs, h => by
    rw [List.contains_cons, Bool.or_eq_false_iff] at h
    rw [List.zip_cons_cons, List.lookup_cons, h.1]
    exact zip_none h.2
def tMethS (C : Addr) (m : Str) (sp : Sp) (E : L2.St → XK) (ta : TE) (t : TA) : TE := fun σ H Q => ta σ H fun x H1 => ∃ a dx fs, x = .ref a ∧ H1 a = some (.ins C dx fs) ∧ fs.lookup m = none ∧ t σ H1 fun vs H2 => sp (x :: vs) H2 Q (E σ)
section
variable {X : Cx} {CX : CXT} {k : Nat} {fA CA : Addr} {fd : FuncData} {ps : List Str} {sp : Sp} {E : L2.St → XK} {x m : Str} {p pos apos : Pos} {e o : Expr} {es : List Expr} {ta : TE} {t : TA}
theorem pe_methS' {pl : Sem Bool} (he : PE X o ta) (c : Cls X.kw CA) (hm : Meth X.kw CA m fA) (F : FnOk X.prog X.w X.kw X.mg X.base CX k fA fd ps sp) (hr : Room k X.A) (hb : L2.Binds X.kw fd ps []) (hx : ∀ σ, PassesAt CX X σ (E σ)) (ha : PA X (e :: es) t)
    (hst : starEach (e :: es) X.env = (false, eval e X.env) :: starEach es X.env) (hpl : (backTo pos (starEach es X.env)).any (·.1) = false)
    (ht : eval (.Call (.Attribute o m apos) (e :: es) [] pos) X.env = (do
      let ov ← eval o X.env
      standAt apos.atName
      let (f, first) ← holding [ov] (getMethod ov m pl)
      callWith pos f first (backTo pos (starEach (e :: es) X.env)) (backToKw pos (keywordEach [] X.env)))) :
    PE X (.Call (.Attribute o m apos) (e :: es) [] pos) (tMethS CA m sp E ta t) := by
  refine ⟨fun pins s σ H Q I h => ?_⟩
  refine PySem.W.methodCall_KW (pl := pl) (thn (he.run pins s σ H _ I h) fun u s1 ⟨z, H1, I1, rx, a, dx, fs, ex, ea, l, q⟩ => ?_) ht
  subst ex
  obtain rfl : u = Value.ref a := rx
  refine getmeth_ok I1 ea c hm l ?_
  refine PySem.W.callWith_K (first := [.ref a]) (h₀ := X.base) I.ok.mod.kin hm.kp (thn (ha.run pos pins s1 σ H1 _ I1 q) fun us s2 ⟨vs, H2, I2, r, q2⟩ => ⟨I2.kIn, ?_⟩) hst hpl
  exact run_fnS (us := .ref a :: us) (vs := .ref a :: vs) F hr hb (hx σ) I2 (.cons rfl r) q2
theorem pe_methS0 {pl : Sem Bool} (he : PE X o ta) (c : Cls X.kw CA) (hm : Meth X.kw CA m fA) (F : FnOk X.prog X.w X.kw X.mg X.base CX k fA fd ps sp) (hr : Room k X.A) (hb : L2.Binds X.kw fd ps []) (hx : ∀ σ, PassesAt CX X σ (E σ))
    (ht : eval (.Call (.Attribute o m apos) [] [] pos) X.env = (do
      let ov ← eval o X.env
      standAt apos.atName
      let (f, first) ← holding [ov] (getMethod ov m pl)
      callWith pos f first (backTo pos (starEach [] X.env)) (backToKw pos (keywordEach [] X.env)))) :
    PE X (.Call (.Attribute o m apos) [] [] pos) (tMethS CA m sp E ta tNil) := by
  refine ⟨fun pins s σ H Q I h => ?_⟩
  refine PySem.W.methodCall_KW (pl := pl) (thn (he.run pins s σ H _ I h) fun u s1 ⟨z, H1, I1, rx, a, dx, fs, ex, ea, l, q⟩ => ?_) ht
  subst ex
  obtain rfl : u = Value.ref a := rx
  refine getmeth_ok I1 ea c hm l ?_
  exact PySem.W.callWith_K0 (first := [.ref a]) I1.kIn hm.kp (run_fnS (us := [.ref a]) (vs := [.ref a]) F hr hb (hx σ) I1 (.cons rfl .nil) q)
end
def fMeth (C m : Str) (fb : F) (N : Nat) (f : M R) (fs : List (M R)) : M R := f.bind fun r => fun ρ => match ρ.look r with
  | some (.ins C0 ns _) => if C0 = C ∧ ns.contains m = false then ((evs fs).bind fun rs => callR fb N (r :: rs)) ρ else none
  | _ => none
section
variable {X : Cx} {C : Ctl} {W : WX} {o e : Expr} {es : List Expr} {pos apos : Pos} {f : M R} {fs : List (M R)}
theorem meth_go {Cn m : Str} {k : Nat} {fA : Addr} {fd : FuncData} {ps N : List Str} {fb : F} {t : TA} {σ : L2.St} {H : Hp} {Q : VK} (hl : fs.length + 1 = ps.length) (hN : ps.length ≤ N.length)
    (ht : ∀ σ H Q, tDA X.kw C W (evs fs) σ H Q → t σ H Q) (q0 : tD X.kw C W (fMeth Cn m fb N.length f fs) σ H Q) : tMethS (He.ga X.kw Cn) m (spD X.kw ps N fb) (fun σ cls d H => W cls d σ H) (tD X.kw C W f) t σ H Q := by
  obtain ⟨G, ρ, x, S, hf, P⟩ := q0
  rcases bind_ok hf with ⟨r, ρ1, h1, h2⟩ | ⟨q, ρ1, h1, rfl⟩
  · refine ⟨G, ρ, _, S, h1, fun v G1 H1 e1 S1 R1 => ?_⟩
    cases l1 : ρ1.look r with
    | none => simp only [l1] at h2; cases h2
    | some d =>
      simp only [l1] at h2
      cases d with
      | ins C0 ns ds =>
        simp only at h2
        split at h2
        · rename_i hc
          obtain ⟨rfl, hc2⟩ := hc
          obtain ⟨a, dx, vs0, ev, ha, rl⟩ := S1.look R1 l1
          refine ⟨a, dx, _, ev, ha, zip_none hc2, ht _ _ _ ?_⟩
          rcases bind_ok h2 with ⟨rs, ρ2, h3, h4⟩ | ⟨q, ρ2, h3, rfl⟩
          · refine ⟨G1, ρ1, _, S1, h3, fun vs G2 H2 e2 S2 R2 => call_go S2 (.cons (fun d z => by rw [z] at l1; cases l1) (R1.later (look_nn l1) e2) R2) h4 ?_ (by rw [List.length_cons, evs_len h3, hl]) hN⟩
            cases x with
            | ok r ρ' => exact fun v G' H' e S' R' => P v G' H' ((e1.trans e2).trans e) S' R'
            | ex e ρ' => exact fun c d G' H' e S' R' => P c d G' H' ((e1.trans e2).trans e) S' R'
          · exact ⟨G1, ρ1, _, S1, h3, fun c d G' H' e S' R' => P c d G' H' (e1.trans e) S' R'⟩
        · cases h2
      | _ => cases h2
  · exact ⟨G, ρ, _, S, h1, P⟩
theorem pd_meth {Cn m : Str} {k : Nat} {fA : Addr} {fd : FuncData} {ps N : List Str} {fb : F} {pl : Sem Bool} (c : Cls X.kw (He.ga X.kw Cn)) (hm : Meth X.kw (He.ga X.kw Cn) m fA) (Fo : FnOk X.prog X.w X.kw X.mg X.base (L2.CX X.prog X.w) k fA fd ps (spD X.kw ps N fb)) (hr : Room k X.A) (hb : L2.Binds X.kw fd ps []) (tk : Takes X W)
    (ho : PD X C W o f) (ha : PAs X C W (e :: es) (evs fs)) (hl : fs.length + 1 = ps.length := by rfl) (hN : ps.length ≤ N.length := by decide) (hst : starEach (e :: es) X.env = (false, eval e X.env) :: starEach es X.env := by rfl) (hpl : (backTo pos (starEach es X.env)).any (·.1) = false := by rfl)
    (ht : eval (.Call (.Attribute o m apos) (e :: es) [] pos) X.env = (do
      let ov ← eval o X.env
      standAt apos.atName
      let (f, first) ← holding [ov] (getMethod ov m pl)
      callWith pos f first (backTo pos (starEach (e :: es) X.env)) (backToKw pos (keywordEach [] X.env))) := by rfl) : PD X C W (.Call (.Attribute o m apos) (e :: es) [] pos) (fMeth Cn m fb N.length f fs) :=
  PE.of (pe_methS' ho c hm Fo hr hb (fun σ => passAt tk σ) ha hst hpl ht) fun σ H Q q => meth_go (k := k) (fA := fA) (fd := fd) hl hN (fun _ _ _ z => z) q
theorem pd_meth0 {Cn m : Str} {k : Nat} {fA : Addr} {fd : FuncData} {ps N : List Str} {fb : F} {pl : Sem Bool} (c : Cls X.kw (He.ga X.kw Cn)) (hm : Meth X.kw (He.ga X.kw Cn) m fA) (Fo : FnOk X.prog X.w X.kw X.mg X.base (L2.CX X.prog X.w) k fA fd ps (spD X.kw ps N fb)) (hr : Room k X.A) (hb : L2.Binds X.kw fd ps []) (tk : Takes X W)
    (ho : PD X C W o f) (hl : 1 = ps.length := by rfl) (hN : ps.length ≤ N.length := by decide)
    (ht : eval (.Call (.Attribute o m apos) [] [] pos) X.env = (do
      let ov ← eval o X.env
      standAt apos.atName
      let (f, first) ← holding [ov] (getMethod ov m pl)
      callWith pos f first (backTo pos (starEach [] X.env)) (backToKw pos (keywordEach [] X.env))) := by rfl) : PD X C W (.Call (.Attribute o m apos) [] [] pos) (fMeth Cn m fb N.length f []) :=
  PE.of (pe_methS0 ho c hm Fo hr hb (fun σ => passAt tk σ) ht) fun σ H Q q => meth_go (k := k) (fA := fA) (fd := fd) (fs := []) hl hN (fun σ H Q z => by
    obtain ⟨G, ρ, x, S, hf, P⟩ := z
    cases hf
    exact P [] G H (Same.refl _) S .nil) q
end
/-! ### properties (whose getter raises nothing) -/
def fProp (C : Str) (fb : F) (N : Nat) (f : M R) : M R := f.bind fun r => fun ρ => match ρ.look r with
  | some (.ins C0 _ _) => if C0 = C then (match callR fb N [r] ρ with
    | some (.ok q ρ') => some (.ok q ρ')
    | _ => none) else none
  | _ => none
section
variable {X : Cx} {C : Ctl} {W : WX} {o : Expr} {pos : Pos} {f : M R}
theorem pd_prop {Cn m : Str} {k : Nat} {fA pA : Addr} {fd : FuncData} {p : Str} {N : List Str} {fb : F} (c : Cls X.kw (He.ga X.kw Cn)) (hp : PropOf X.kw (He.ga X.kw Cn) m pA fA) (Fo : FnOk X.prog X.w X.kw X.mg X.base (L2.CX X.prog X.w) k fA fd [p] (spD X.kw [p] N fb)) (hr : Room (k + 1) X.A) (hb : L2.Binds X.kw fd [p] [])
    (ho : PD X C W o f) (hN : 1 ≤ N.length := by decide) (hab : attributeBase o m X.env (eval o X.env) = eval o X.env := by rfl) : PD X C W (.Attribute o m pos) (fProp Cn fb N.length f) :=
  PE.of (pe_prop ho c hp (fnOk_quiet Fo) hr hb .nil (E := E0) (fun _ _ _ _ _ _ _ z => z) hab) fun σ H Q ⟨G, ρ, x, S, hf, P⟩ => by
    rcases bind_ok hf with ⟨r, ρ1, h1, h2⟩ | ⟨q, ρ1, h1, rfl⟩
    · refine ⟨G, ρ, _, S, h1, fun v G1 H1 e1 S1 R1 => ?_⟩
      cases l1 : ρ1.look r with
      | none => simp only [l1] at h2; cases h2
      | some d =>
        simp only [l1] at h2
        cases d with
        | ins C0 ns ds =>
          simp only at h2
          split at h2
          · rename_i hc
            subst hc
            split at h2
            · rename_i q ρ' hq
              cases h2
              obtain ⟨a, dx, vs0, ev, ha, rl⟩ := S1.look R1 l1
              refine ⟨a, dx, _, ev, ha, ?_⟩
              rw [ev] at R1
              exact call_go (W := W0) S1 (.cons (fun d z => by rw [z] at l1; cases l1) R1 .nil) hq (fun v G' H' e S' R' => P v G' H' (e1.trans e) S' R') rfl hN
            · cases h2
          · cases h2
        | _ => cases h2
    · exact ⟨G, ρ, _, S, h1, P⟩
end
end DL
set_option Elab.async false
set_option linter.all false
set_option maxRecDepth 100000
set_option maxHeartbeats 4000000
/-! DLy: except X without a name. -/
namespace DL
open PySem PySem.Spec PyProof.Rows L2
def fTryOn (hit : Str → Option Bool) (p s : F) : F := fun ρ => match p ρ with
  | some (.ex e ρ1) => (match hit e.C with
    | some true => (match s ρ1 with
      | some (.nx ρ2) => some (.nx ρ2)
      | some (.ret r ρ2) => some (.ret r ρ2)
      | _ => none)
    | some false => some (.ex e ρ1)
    | none => none)
  | o => o
section
variable {X : Cx} {C : Ctl} {W : WX} {pos : Pos} {body : List Stmt} {p q : F}
theorem pq_tryOn {x : Str} {suite : List Stmt} {b₀ : Stmt} {np p2 : Pos} {l : List (Str × Bool)} (tk : Takes X W) (hg : Gl X x) (hm : X.mg x = some (.ref (He.ga X.kw x)))
    (hh : ∀ q ∈ l, PySem.W.exmOne X.kw (.ref (He.ga X.kw q.1)) (.ref (He.ga X.kw x)) = some q.2)
    (hb : ∀ (W : WX) (pn : List (Addr × Obj)) (xe : Value → Shared → Prop), Takes (X.tr pn xe) W → PassesOwn (model X.prog X.w) X.A X.env xe → PQs (X.tr pn xe) C W body p)
    (hsu : ∀ (a : Addr) (oe : Obj) (pn : List (Addr × Obj)), PQs (X.suite a ((a, oe) :: pn)) C W0 (b₀ :: suite) q)
    (hs : X.stack = X.env :: X.outer := by rfl) (hf : X.env.frame = some X.env.locals := by rfl) (hd : (x == ("__debug__" : Str)) = false := by decide) :
    PQ X C W (.Try body [.ExceptHandler (some (.Name x np)) none (b₀ :: suite) p2] [] [] pos) (fTryOn (lk l) p q) := by
  refine pq_of (ps_try_only (ts := fun a cls d D σ H => tS X.kw C W0 q D σ H) (tb := fun W => tS X.kw C W p) hs hf ⟨hg, hd, .inl hm⟩ tk hb (fun a oe cls d pn _ _ => hsu a oe pn)) fun D σ H ⟨G, ρ, y, S, hy, P⟩ => ?_
  unfold fTryOn at hy
  cases e1 : p ρ with
  | none => rw [e1] at hy; cases hy
  | some z =>
    rw [e1] at hy
    refine ⟨G, ρ, z, S, e1, ?_⟩
    cases z with
    | nx ρ1 => cases hy; exact P
    | ret r ρ1 => cases hy; exact P
    | bk ρ1 => cases hy; exact P
    | ct ρ1 => cases hy; exact P
    | ex e ρ1 =>
      intro c d σ1 G1 H1 s1 S1 R1
      simp only at hy
      cases eh : lk l e.C with
      | none => rw [eh] at hy; cases hy
      | some b =>
        rw [eh] at hy
        have ec := R1.1
        refine ⟨b, by rw [ec]; exact hh (e.C, b) (lookup_mem' eh), fun hb1 a hna => ?_, fun hb1 => ?_⟩
        · subst hb1
          simp only at hy
          cases e2 : q ρ1 with
          | none => rw [e2] at hy; cases hy
          | some u =>
            rw [e2] at hy
            cases u with
            | nx ρ2 => cases hy; exact ⟨G1, ρ1, _, S1, e2, fun σ2 G2 H2 s2 S2 => P σ2 G2 H2 (s1.trans s2) S2⟩
            | ret r ρ2 => cases hy; exact ⟨G1, ρ1, _, S1, e2, fun v σ2 G2 H2 s2 S2 R2 => P v σ2 G2 H2 (s1.trans s2) S2 R2⟩
            | _ => cases hy
        · subst hb1
          cases hy
          exact P c d σ1 G1 H1 s1 S1 R1
end
end DL
set_option Elab.async false
set_option linter.all false
set_option maxRecDepth 100000
set_option maxHeartbeats 4000000
/-! DLz: xs[i] = e, xs a name's own list. -/
namespace DL
open PySem PySem.Spec PyProof.Rows L2
def fPutIx (s : Nat) (f g : M R) : F := ofM f fun r ρ => match r with
  | .v d => (match ρ.obj s with
    | some (.lst _) => ofM g (fun q ρ1 => match q with
    | .v (.int k) => (match ρ1.obj s with
      | some (.lst xs) => (match ixN xs.length k with
        | some j => some (.nx (ρ1.put s (.lst (xs.set j d))))
        | none => none)
      | _ => none)
    | _ => none) ρ
    | _ => none)
  | _ => none
section
variable {X : Cx} {C : Ctl} {W : WX} {o a e : Expr} {pos : Pos} {f g : M R}
theorem pq_putIx {s : Nat} {p2 : Pos} (hv : PD X C W e f) (ho : PE X o (tVar s)) (hi : PD X C W a g) (hs : swapsWithSole [.Subscript o a p2] e pos.line X.env = pure false := by rfl) (hw : swappedStores [.Subscript o a p2] e X.env = pure none := by rfl)
    (h1 : (assignEach [.Subscript o a p2] X.env).map (·.2) = [assign (.Subscript o a p2) X.env] := by rfl)
    (ha : ∀ v, assign (.Subscript o a p2) X.env v = (do
      let ov ← holding [v] (eval o X.env)
      let iv ← holding [v, ov] (eval a X.env)
      standAt p2
      holding [v, ov, iv] (setItem ov iv v)
      release [v, ov, iv] []) := by intro _; rfl) : PQ X C W (.Assign [.Subscript o a p2] e pos) (fPutIx s f g) :=
  pq_of (ps_asg hv (pg_sub ho hi set_list ha) hs hw h1) fun D σ H ⟨G, ρ, x, S, hf, P⟩ => by
    rcases ofM_ok hf with ⟨r, ρ1, e1, e2⟩ | ⟨q, ρ1, e1, rfl⟩
    · refine ⟨G, ρ, _, S, e1, fun v G1 H1 s1 S1 R1 => ?_⟩
      cases r with
      | v d =>
        have e2 : (match ρ1.obj s with
          | some (.lst _) => ofM g (fun q ρ1 => match q with
            | .v (.int k) => (match ρ1.obj s with
              | some (.lst xs) => (match ixN xs.length k with
                | some j => some (.nx (ρ1.put s (.lst (xs.set j d))))
                | none => none)
              | _ => none)
            | _ => none) ρ1
          | _ => none) = some x := e2
        split at e2
        rotate_left
        · cases e2
        rename_i ys ob1
        rcases ofM_ok e2 with ⟨q, ρ2, e3, e4⟩ | ⟨q, ρ2, e3, rfl⟩
        · cases q with
          | v dq =>
            cases dq with
            | int k =>
              simp only at e4
              cases ob : ρ2.obj s with
              | none => rw [ob] at e4; cases e4
              | some dd =>
                rw [ob] at e4
                cases dd with
                | lst xs =>
                  simp only at e4
                  cases ix : ixN xs.length k with
                  | none => rw [ix] at e4; cases e4
                  | some j =>
                    rw [ix] at e4
                    cases e4
                    obtain ⟨p, hp, _, _⟩ := obj_slot S1 ob1
                    refine ⟨.ref p, hp, G1, ρ1, _, S1, e3, fun iv G2 H2 s2 S2 R2 => ?_⟩
                    obtain ⟨p', hp', hg', w'⟩ := obj_slot S2 ob
                    rw [hp] at hp'
                    cases hp'
                    obtain ⟨vs, hH, rl⟩ := w'
                    refine ⟨p, vs, k, j, rfl, R2, hH, by rw [← rl.length]; exact ix, ?_⟩
                    have R1' : Rep X.kw G2 d v := Rep.mono s2 R1
                    have rs := rl.set j R1'
                    exact P σ G2 _ (s1.trans s2) (S2.write ob hp ⟨_, upd_same, rs⟩)
                | _ => cases e4
            | _ => cases e4
          | _ => cases e4
        · obtain ⟨p, hp, _, _⟩ := obj_slot S1 ob1
          exact ⟨.ref p, hp, G1, ρ1, _, S1, e3, fun c d G' H' s' S' R' => P c d σ G' H' (s1.trans s') S' R'⟩
      | _ => cases e2
    · exact ⟨G, ρ, _, S, e1, fun c d G' H' s' S' R' => P c d σ G' H' s' S' R'⟩
end
end DL
set_option Elab.async false
set_option linter.all false
set_option maxRecDepth 100000
set_option maxHeartbeats 4000000
/-! DM1: objects of own classes made: C(..), cls(..), C.m(..); fields stored. -/
namespace DL
open PySem PySem.Spec PyProof.Rows L2

section
variable {X : Cx} {pins : List (Addr × Obj)} {σ : L2.St} {H : Hp} {s : Shared}
theorem run_fnRS {CX : CXT} {k : Nat} {f : Addr} {sp : Sp} {E : XK} {Q : VK} {us : List Value} {vs : List V} (F : FnR X.prog X.w X.K X.mg X.base CX k f sp) (hr : Room k X.A) (hx : PassesAt CX X σ E) (I : Inv X pins σ H s) (r : Vals vs us) (h : sp vs H Q E) :
    codeAny (model X.prog X.w) X.A (.call (.ref f) ⟨us, []⟩) (fun r s' => match r with | .ok (.ret v) => EP X pins σ Q v s' | .ok _ => False | .error e => X.xe e s') s := by
  refine codeAny_mono (F X.A X.stack s H us vs Q E hr I.env0 r h) fun r s' hq => ?_
  cases r with
  | error e => exact hx pins H s e s' I hq
  | ok fl =>
    cases fl with
    | ret u => exact I.after hq
    | next => exact False.elim hq
    | brk => exact False.elim hq
    | cont => exact False.elim hq
end
/-! ### C(..) -/
/-- what the promise of an __init__ leaves to the maker -/
def tMakeS (C : Addr) (sp : Sp) (E : L2.St → XK) (t : TA) : TE := fun σ H Q => t σ H fun vs H1 => ∀ x dx, H1 x = none → H1 dx = none → dx ≠ x →
  sp (.ref x :: vs) (upd (upd H1 dx (.own x)) x (.ins C dx [])) (fun v H2 => v = .non ∧ Q (.ref x) H2) (E σ)
section
variable {X : Cx} {CX : CXT} {k i : Nat} {f C : Addr} {sp : Sp} {E : L2.St → XK} {x : Str} {e : Expr} {es : List Expr} {te : TE} {t : TA} {p pos : Pos}
theorem run_makeRS {pins : List (Addr × Obj)} {σ : L2.St} {H : Hp} {s : Shared} {Q : VK} {us : List Value} {vs : List V} {E : XK} (M : Mk X.K C f) (F : FnR X.prog X.w X.K X.mg X.base CX k f sp) (hr : Room (k + 1) X.A)
    (hx : ∀ (H : Hp) (s : Shared) (e : Value) (s' : Shared), Inv X pins σ H s → CX X.stack H s E e s' → X.xe e s') (I : Inv X pins σ H s) (r : Vals vs us)
    (h : ∀ x dx, H x = none → H dx = none → dx ≠ x → sp (V.ref x :: vs) (upd (upd H dx (.own x)) x (.ins C dx [])) (fun v H2 => v = .non ∧ Q (.ref x) H2) E) :
    wpAny (model X.prog X.w) X.A (call (.ref C) us) (EP X pins σ Q) X.xe s := by
  have hq := h (s.heap.objs.size + 1) s.heap.objs.size (I.hok.fresh (Nat.le_succ _)) (I.hok.fresh (Nat.le_refl _)) (Nat.ne_of_lt (Nat.lt_succ_self _))
  have I2 := Inv.made (C := C) I
  have r2 : Vals (V.ref (s.heap.objs.size + 1) :: vs) (Value.ref (s.heap.objs.size + 1) :: us) := .cons rfl r
  refine wpAny_call (make_map (f := f) I.kIn M.makes M.init (beq_iff_eq.mp M.fn) (codeAny_mono (F _ X.stack _ _ (Value.ref (s.heap.objs.size + 1) :: us) _ _ E (hr.make C us []) (I2.env0.make C us []) r2 hq) fun r s' hq' => ?_))
  cases r with
  | error e => exact hx _ _ e s' I2 hq'
  | ok fl =>
    cases fl with
    | ret u =>
      obtain ⟨v, H', I3, rv, ev, q3⟩ := I2.after hq'
      subst ev
      exact ⟨rv, ⟨V.ref (s.heap.objs.size + 1), H', I3, rfl, q3⟩⟩
    | next => exact False.elim hq'
    | brk => exact False.elim hq'
    | cont => exact False.elim hq'
theorem pe_makeS (M : Mk X.K C f) (F : FnR X.prog X.w X.K X.mg X.base CX k f sp) (hr : Room (k + 1) X.A) (hg : Gl X x) (hm : X.mg x = some (.ref C)) (hx : ∀ σ, PassesAt CX X σ (E σ)) (ha : PA X (e :: es) t) (hdb : (x == ("__debug__" : Str)) = false := by decide)
    (he : starEach (e :: es) X.env = (false, eval e X.env) :: starEach es X.env := by rfl) (hpl : (backTo pos (starEach es X.env)).any (·.1) = false := by rfl) : PE X (.Call (.Name x p) (e :: es) [] pos) (tMakeS C sp E t) := by
  refine ⟨fun pins s σ H Q I h => ?_⟩
  refine wpAny_Call_Name_kw (ld_glob I hg hm ?_ hdb)
  refine PySem.W.callWith_K (h₀ := X.base) I.ok.mod.kin M.kp (thn (ha.run pos pins s σ H _ I h) fun us s1 ⟨vs, H1, I1, r, q⟩ => ⟨I1.kIn, ?_⟩) he hpl
  exact run_makeRS M F hr (fun H s e s' => hx σ pins H s e s') I1 r q
theorem pe_makeS0 (M : Mk X.K C f) (F : FnR X.prog X.w X.K X.mg X.base CX k f sp) (hr : Room (k + 1) X.A) (hg : Gl X x) (hm : X.mg x = some (.ref C)) (hx : ∀ σ, PassesAt CX X σ (E σ)) (hdb : (x == ("__debug__" : Str)) = false := by decide) :
    PE X (.Call (.Name x p) [] [] pos) (tMakeS C sp E tNil) := by
  refine ⟨fun pins s σ H Q I h => ?_⟩
  refine wpAny_Call_Name_kw (ld_glob I hg hm ?_ hdb)
  exact PySem.W.callWith_K0 I.kIn M.kp (run_makeRS (us := []) M F hr (fun H s e s' => hx σ pins H s e s') I .nil h)
/-- cls(..), the class in a slot -/
theorem pe_makeL (M : Mk X.K C f) (F : FnR X.prog X.w X.K X.mg X.base CX k f sp) (hr : Room (k + 1) X.A) (hc : PE X (.Name x p) te) (hx : ∀ σ, PassesAt CX X σ (E σ)) (ha : PA X (e :: es) t)
    (he : starEach (e :: es) X.env = (false, eval e X.env) :: starEach es X.env := by rfl) (hpl : (backTo pos (starEach es X.env)).any (·.1) = false := by rfl) :
    PE X (.Call (.Name x p) (e :: es) [] pos) (fun σ H Q => te σ H fun v H1 => v = .ref C ∧ tMakeS C sp E t σ H1 Q) := by
  refine ⟨fun pins s σ H Q I h => ?_⟩
  refine wpAny_Call_Name_kw (thn (hc.run pins s σ H _ I h) fun u s1 ⟨v, H1, I1, r1, ev, q⟩ => ?_)
  subst ev
  obtain rfl : u = Value.ref C := r1
  refine PySem.W.callWith_K (h₀ := X.base) I.ok.mod.kin M.kp (thn (ha.run pos pins s1 σ H1 _ I1 q) fun us s2 ⟨vs, H2, I2, r, q2⟩ => ⟨I2.kIn, ?_⟩) he hpl
  exact run_makeRS M F hr (fun H s e s' => hx σ pins H s e s') I2 r q2
end
/-! ### a slot more -/
section
variable {K : KW} {C : Ctl} {G G' H H' : Hp} {σ : L2.St} {ρ : EV} {d : D} {v : V}
def EV.push (ρ : EV) (d : D) : EV := ⟨ρ.sl ++ [some (.own d)], ρ.ps⟩
def EV.pop (ρ : EV) (n : Nat) : EV := ⟨ρ.sl.take n, ρ.ps⟩
theorem Sta.push (S : Sta K C G H σ ρ) (h : RepR K C G H σ ρ (.n d) v) : Sta K C G H (σ ++ [some v]) (ρ.push d) := by
  obtain ⟨a, rfl, g, h0, w, ns⟩ := h
  have at_ : ∀ {j : Nat} {z : Slot}, (ρ.push d).sl[j]? = some (some z) → (ρ.sl[j]? = some (some z) ∧ (σ ++ [some (V.ref a)])[j]? = σ[j]?) ∨ (j = ρ.sl.length ∧ z = .own d ∧ (σ ++ [some (V.ref a)])[j]? = some (some (.ref a))) := fun {j z} e => by
    by_cases hj : j < ρ.sl.length
    · left
      simp only [EV.push, List.getElem?_append_left hj] at e
      exact ⟨e, List.getElem?_append_left (by rw [S.len]; exact hj)⟩
    · right
      simp only [EV.push, List.getElem?_append_right (Nat.le_of_not_lt hj)] at e
      have h1 : j - ρ.sl.length = 0 := by
        have := (List.getElem?_eq_some_iff.mp e).1
        simp at this
        omega
      rw [h1] at e
      cases e
      have hj2 : j = ρ.sl.length := by omega
      refine ⟨hj2, rfl, ?_⟩
      rw [hj2, ← S.len]
      simp
  exact
    { sub := S.sub, old := S.old, new := S.new, base := S.base
      len := by simp [EV.push, S.len]
      slot := fun i s e => by
        rcases at_ e with ⟨e1, e2⟩ | ⟨e1, rfl, e2⟩
        · rw [e2]; exact S.slot i s e1
        · exact ⟨_, e2, a, rfl, g, h0, w⟩
      dist := fun i j x y u h1 h2 h3 h4 => by
        rcases at_ h1 with ⟨e1, e2⟩ | ⟨e1, f1, e2⟩ <;> rcases at_ h2 with ⟨q1, q2⟩ | ⟨q1, f2, q2⟩
        · rw [e2] at h3; rw [q2] at h4; exact S.dist i j x y u e1 q1 h3 h4
        · rw [e2] at h3; rw [q2] at h4; cases h4; exact absurd h3 (ns i x e1)
        · rw [e2] at h3; rw [q2] at h4; cases h3; exact absurd h4 (ns j y q1)
        · rw [e1, q1]
      plen := S.plen, par := S.par, pnd := S.pnd, pin := S.pin }
theorem Sta.pop {u : Option V} {ρ' : EV} (S : Sta K C G H (σ ++ [u]) ρ') : Sta K C G H σ (ρ'.pop σ.length) := by
  have hl : ρ'.sl.length = σ.length + 1 := by rw [← S.len]; simp
  have at_ : ∀ {j : Nat} {z : Slot}, (ρ'.pop σ.length).sl[j]? = some (some z) → ρ'.sl[j]? = some (some z) ∧ (σ ++ [u])[j]? = σ[j]? := fun {j z} e => by
    simp only [EV.pop] at e
    have hj : j < σ.length := by
      have := (List.getElem?_eq_some_iff.mp e).1
      rw [List.length_take] at this
      omega
    rw [List.getElem?_take_of_lt hj] at e
    exact ⟨e, List.getElem?_append_left hj⟩
  exact
    { sub := S.sub, old := S.old, new := S.new, base := S.base
      len := by simp [EV.pop, hl]
      slot := fun i s e => by
        obtain ⟨e1, e2⟩ := at_ e
        rw [← e2]; exact S.slot i s e1
      dist := fun i j x y w h1 h2 h3 h4 => by
        obtain ⟨e1, e2⟩ := at_ h1
        obtain ⟨q1, q2⟩ := at_ h2
        rw [← e2] at h3; rw [← q2] at h4
        exact S.dist i j x y w e1 q1 h3 h4
      plen := S.plen, par := S.par, pnd := S.pnd, pin := S.pin }
theorem Sta.popN {ρ' : EV} (S : Sta K C G H (σ ++ [some v]) ρ') (e : ρ'.sl[σ.length]? = some (some (.own d))) : RepR K C G H σ (ρ'.pop σ.length) (.n d) v := by
  obtain ⟨v', h1, a, rfl, g, h0, w⟩ := S.slot _ _ e
  simp at h1
  subst h1
  refine ⟨a, rfl, g, h0, w, fun i x e1 e2 => ?_⟩
  simp only [EV.pop] at e1
  have hj : i < σ.length := by
    have := (List.getElem?_eq_some_iff.mp e1).1
    rw [List.length_take] at this
    omega
  rw [List.getElem?_take_of_lt hj] at e1
  have := S.dist i σ.length x d (.ref a) e1 e (by rw [List.getElem?_append_left hj]; exact e2) (by simp)
  omega
/-- a new instance without fields -/
theorem Sta.newIns (S : Sta K C G H σ ρ) {x dx : Addr} (hx : H x = none) (hd : H dx = none) (ne : dx ≠ x) (Cn : Str) :
    Sta K C G (upd (upd H dx (.own x)) x (.ins (He.ga K Cn) dx [])) σ ρ ∧ RepR K C G (upd (upd H dx (.own x)) x (.ins (He.ga K Cn) dx [])) σ ρ (.n (.ins Cn [] [])) (.ref x) := by
  have S1 := S.lay hd (.own x)
  have hx1 : upd H dx (.own x) x = none := by rw [upd_ne ne.symm]; exact hx
  have S2 := S1.lay hx1 (.ins (He.ga K Cn) dx [])
  obtain ⟨h0, g0, _⟩ := S.free hx
  refine ⟨S2, x, rfl, g0, h0, ⟨dx, [], upd_same, RepL.nil⟩, fun i e h1 h2 => ?_⟩
  obtain ⟨v, q1, a', q2, _, _, w⟩ := S.slot i _ h1
  rw [h2] at q1; cases q1; cases q2
  obtain ⟨u, hu⟩ := w.there
  rw [hx] at hu; cases hu
end
/-! ### the reading of C(..) -/
def makeR (C : Str) (fb : F) (N : Nat) (rs : List R) : M R := fun ρ => match callR fb N (.s ρ.sl.length :: rs) (ρ.push (.ins C [] [])) with
  | some (.ok (.v .non) ρ') => (match ρ'.sl[ρ.sl.length]? with
    | some (some (.own d)) => some (.ok (.n d) (ρ'.pop ρ.sl.length))
    | _ => none)
  | some (.ex e ρ') => some (.ex e (ρ'.pop ρ.sl.length))
  | _ => none
def fMake (C : Str) (fb : F) (N : Nat) (fs : List (M R)) : M R := (evs fs).bind (makeR C fb N)
section
variable {X : Cx} {C : Ctl} {W : WX} {e : Expr} {es : List Expr} {pos : Pos} {fs : List (M R)}
theorem RepRs.push {K : KW} {G H : Hp} {σ : L2.St} {ρ : EV} {u : Option V} {ρ' : EV} {rs : List R} {vs : List V} (h : RepRs K C G H σ ρ rs vs) : RepRs K C G H (σ ++ [u]) ρ' rs vs := by
  induction h with
  | nil => exact .nil
  | @cons r v rs vs h1 h2 h3 ih =>
    refine .cons h1 ?_ ih
    cases r with
    | v d => exact h2
    | s i =>
      have h2' : σ[i]? = some (some v) := h2
      have hi := (List.getElem?_eq_some_iff.mp h2').1
      exact (List.getElem?_append_left hi).trans h2'
    | n d => exact absurd rfl (h1 d)
theorem RepRs.heap {K : KW} {G H H' : Hp} {σ : L2.St} {ρ ρ' : EV} {rs : List R} {vs : List V} (h : RepRs K C G H σ ρ rs vs) : RepRs K C G H' σ ρ' rs vs := h.later (Same.refl _)
theorem make_go {Cn : Str} {ps N : List Str} {fb : F} {K : KW} {σ : L2.St} {H : Hp} {G : Hp} {ρ : EV} {rs : List R} {vs : List V} {x : XR R} {Q : VK} (S : Sta K C G H σ ρ) (R1 : RepRs K C G H σ ρ rs vs) (hf : makeR Cn fb N.length rs ρ = some x)
    (P : XPost K C W G σ x Q) (hl : rs.length + 1 = ps.length) (hN : ps.length ≤ N.length) (a dx : Addr) (ha : H a = none) (hd : H dx = none) (ne : dx ≠ a) :
    spD K ps N fb (.ref a :: vs) (upd (upd H dx (.own a)) a (.ins (He.ga K Cn) dx [])) (fun v H2 => v = .non ∧ Q (.ref a) H2) (WE W σ) := by
  obtain ⟨S1, n1⟩ := S.newIns ha hd ne Cn
  have S2 := S1.push n1
  have hz : ρ.sl.length = σ.length := S.len.symm
  unfold makeR at hf
  rw [hz] at hf
  cases ec : callR fb N.length (.s σ.length :: rs) (ρ.push (.ins Cn [] [])) with
  | none => rw [ec] at hf; cases hf
  | some y =>
    have go := call_go (W := fun c d _ H' => W c d σ H') S2 (.cons (fun d z => by cases z) (show RepR K C G _ _ _ (.s σ.length) (.ref a) by show (σ ++ [some (V.ref a)])[σ.length]? = _; simp) (RepRs.push (ρ := ρ) (RepRs.heap (ρ' := ρ) R1))) ec
      (Q := fun v H2 => v = .non ∧ Q (.ref a) H2) (ps := ps) ?_ (by rw [List.length_cons]; exact hl) hN
    · exact go
    · rw [ec] at hf
      cases y with
      | ok r ρ' =>
        cases r with
        | v d =>
          cases d with
          | non =>
            intro v G' H' e1 S3 R3
            refine ⟨R3, ?_⟩
            simp only at hf
            cases e2 : ρ'.sl[σ.length]? with
            | none => rw [e2] at hf; cases hf
            | some o =>
              rw [e2] at hf
              cases o with
              | none => cases hf
              | some sl =>
                cases sl with
                | own d =>
                  cases hf
                  exact P (.ref a) G' H' e1 S3.pop (S3.popN e2)
                | _ => cases hf
          | _ => cases hf
        | _ => cases hf
      | ex q ρ' =>
        cases hf
        intro c d G' H' e1 S3 X3
        exact P c d G' H' e1 S3.pop X3
/-- what a maker must know: the class and its __init__ -/
structure MkD (P : Program) (w : World) (K : PySem.W.Frag) (mg : Str → Option Value) (base : Heap) (k : Nat) (x : Str) (ps N : List Str) (fb : F) : Prop where
  ex : ∃ (f : Addr), mg x = some (.ref (He.ga K x)) ∧ Mk K (He.ga K x) f ∧ FnR P w K mg base (L2.CX P w) k f (spD ⟨K, w⟩ ps N fb)
theorem pd_make {x : Str} {p : Pos} {k N' : Nat} {ps N : List Str} {fb : F} (h : MkD X.prog X.w X.K X.mg X.base k x ps N fb) (hr : Room (k + 1) X.A) (hg : Gl X x) (tk : Takes X W) (ha : PAs X C W (e :: es) (evs fs)) (hl : fs.length + 1 = ps.length := by rfl)
    (hN : ps.length ≤ N.length := by decide) (hn : N.length = N' := by rfl) (hdb : (x == ("__debug__" : Str)) = false := by decide) (he : starEach (e :: es) X.env = (false, eval e X.env) :: starEach es X.env := by rfl)
    (hpl : (backTo pos (starEach es X.env)).any (·.1) = false := by rfl) : PD X C W (.Call (.Name x p) (e :: es) [] pos) (fMake x fb N' fs) := by
  obtain ⟨f, h1, h2, h3⟩ := h.ex
  subst hn
  refine PE.of (pe_makeS (E := fun σ => WE W σ) h2 h3 hr hg h1 (fun σ => passAt tk σ) ha hdb he hpl) fun σ H Q ⟨G, ρ, z, S, hf, P⟩ => ?_
  rcases bind_ok hf with ⟨rs, ρ1, g1, g2⟩ | ⟨q, ρ1, g1, rfl⟩
  · refine ⟨G, ρ, _, S, g1, fun vs G1 H1 e1 S1 R1 a dx ha hd ne => make_go S1 R1 g2 ?_ (by rw [evs_len g1]; exact hl) hN a dx ha hd ne⟩
    cases z with
    | ok r ρ' => exact fun v G' H' e S' R' => P v G' H' (e1.trans e) S' R'
    | ex e ρ' => exact fun c d G' H' e S' R' => P c d G' H' (e1.trans e) S' R'
  · exact ⟨G, ρ, _, S, g1, P⟩
theorem pd_make0 {x : Str} {p : Pos} {k N' : Nat} {ps N : List Str} {fb : F} (h : MkD X.prog X.w X.K X.mg X.base k x ps N fb) (hr : Room (k + 1) X.A) (hg : Gl X x) (tk : Takes X W) (hl : 1 = ps.length := by rfl)
    (hN : ps.length ≤ N.length := by decide) (hn : N.length = N' := by rfl) (hdb : (x == ("__debug__" : Str)) = false := by decide) : PD X C W (.Call (.Name x p) [] [] pos) (fMake x fb N' []) := by
  obtain ⟨f, h1, h2, h3⟩ := h.ex
  subst hn
  refine PE.of (pe_makeS0 (E := fun σ => WE W σ) h2 h3 hr hg h1 (fun σ => passAt tk σ) hdb) fun σ H Q ⟨G, ρ, z, S, hf, P⟩ => ?_
  exact fun a dx ha hd ne => make_go (vs := []) S .nil hf P hl hN a dx ha hd ne
/-- cls(..) -/
def fMakeL (C : Str) (fb : F) (N : Nat) (g : M R) (fs : List (M R)) : M R := g.bind fun r => match r with
  | .v (.cls c) => if c = C then fMake C fb N fs else fun _ => none
  | _ => fun _ => none
theorem pd_makeL {x y : Str} {p : Pos} {k N' : Nat} {ps N : List Str} {fb : F} {g : M R} (h : MkD X.prog X.w X.K X.mg X.base k x ps N fb) (hr : Room (k + 1) X.A) (hc : PD X C W (.Name y p) g) (tk : Takes X W) (ha : PAs X C W (e :: es) (evs fs)) (hl : fs.length + 1 = ps.length := by rfl)
    (hN : ps.length ≤ N.length := by decide) (hn : N.length = N' := by rfl) (he : starEach (e :: es) X.env = (false, eval e X.env) :: starEach es X.env := by rfl)
    (hpl : (backTo pos (starEach es X.env)).any (·.1) = false := by rfl) : PD X C W (.Call (.Name y p) (e :: es) [] pos) (fMakeL x fb N' g fs) := by
  obtain ⟨f, h1, h2, h3⟩ := h.ex
  subst hn
  refine PE.of (pe_makeL (E := fun σ => WE W σ) h2 h3 hr hc (fun σ => passAt tk σ) ha he hpl) fun σ H Q ⟨G, ρ, z, S, hf, P⟩ => ?_
  refine tD.seq S hf P fun r ρ0 v0 G0 H0 e0 S0 R0 hf2 P0 => ?_
  cases r with
  | v d =>
    cases d with
    | cls c =>
      simp only at hf2
      by_cases hcx : c = x
      · rw [if_pos hcx] at hf2
        subst hcx
        refine ⟨R0, ?_⟩
        rcases bind_ok hf2 with ⟨rs, ρ1, g1, g2⟩ | ⟨q, ρ1, g1, rfl⟩
        · refine ⟨G0, ρ0, _, S0, g1, fun vs G1 H1 e1 S1 R1 a dx ha hd ne => make_go S1 R1 g2 ?_ (by rw [evs_len g1]; exact hl) hN a dx ha hd ne⟩
          cases z with
          | ok r ρ' => exact fun v G' H' e S' R' => P0 v G' H' (e1.trans e) S' R'
          | ex e ρ' => exact fun c d G' H' e S' R' => P0 c d G' H' (e1.trans e) S' R'
        · exact ⟨G0, ρ0, _, S0, g1, P0⟩
      · rw [if_neg hcx] at hf2; cases hf2
    | _ => cases hf2
  | _ => cases hf2
end
end DL
set_option Elab.async false
set_option linter.all false
set_option maxRecDepth 100000
set_option maxHeartbeats 4000000
/-! DM2: fields stored, class constants, classmethods. -/
namespace DL
open PySem PySem.Spec PyProof.Rows L2

/-! ### o.f = e -/
def putN (f : Str) : List Str → List Str
  | [] => [f]
  | n :: ns => if n = f then n :: ns else n :: putN f ns
def putV {α : Type} (f : Str) (d : α) : List Str → List α → List α
  | n :: ns, x :: ds => if n = f then d :: ds else x :: putV f d ns ds
  | _, _ => [d]
theorem putF_zip (f : Str) (v : V) : ∀ (ns : List Str) (vs : List V), ns.length = vs.length → putF f v (ns.zip vs) = (putN f ns).zip (putV f v ns vs)
  | [], [], _ => rfl
  | [], _ :: _, h => by cases h
  | _ :: _, [], h => by cases h
  | n :: ns, x :: vs, h => by
    have ih := putF_zip f v ns vs (by simpa using h)
    rw [List.zip_cons_cons]
    show (if n = f then (n, v) :: ns.zip vs else (n, x) :: putF f v (ns.zip vs)) = _
    unfold putN putV
    by_cases e : n = f
    · rw [if_pos e, if_pos e, if_pos e, List.zip_cons_cons]
    · rw [if_neg e, if_neg e, if_neg e, List.zip_cons_cons, ih]
theorem RepL.putV {K : KW} {G : Hp} {f : Str} {d : D} {v : V} (h : Rep K G d v) : ∀ {ns : List Str} {ds : List D} {vs : List V}, RepL K G ds vs → RepL K G (DL.putV f d ns ds) (DL.putV f v ns vs)
  | [], [], vs, r => by rw [show vs = [] from r]; exact RepL.cons h RepL.nil
  | [], _ :: _, vs, r => by
    obtain ⟨u, q, rfl, _, _⟩ := r
    exact RepL.cons h RepL.nil
  | _ :: _, [], vs, r => by rw [show vs = [] from r]; exact RepL.cons h RepL.nil
  | n :: ns, x :: ds, vs, r => by
    obtain ⟨u, q, rfl, r1, r2⟩ := r
    unfold DL.putV
    by_cases e : n = f
    · rw [if_pos e, if_pos e]; exact RepL.cons h r2
    · rw [if_neg e, if_neg e]; exact RepL.cons r1 (RepL.putV h r2)
def fSetF (l : List Str) (i : Nat) (f : Str) (g : M R) : F := ofM g fun r ρ => match r with
  | .v d => (match ρ.obj i with
    | some (.ins C ns ds) => if l.contains C = true ∧ ns.length = ds.length ∧ ns.length < 1000 then some (.nx (ρ.put i (.ins C (putN f ns) (putV f d ns ds)))) else none
    | _ => none)
  | _ => none
section
variable {X : Cx} {C : Ctl} {W : WX} {o e value : Expr} {es : List Expr} {pos pos' apos : Pos} {f g : M R} {fs : List (M R)}
theorem pq_setF {l : List Str} {i : Nat} {n : Str} (T : ∀ y ∈ l, Cls X.K (He.ga X.K y) ∧ NoAttr X.K (He.ga X.K y) n) (hv : PD X C W value g) (ho : PE X o (tVar i)) (hs : swapsWith value (some (.Attribute o n pos')) pos.line X.env = pure false := by rfl) :
    PQ X C W (.Assign [.Attribute o n pos'] value pos) (fSetF l i n g) := pq_of (ps_fld ho hv hs) fun D σ H ⟨G, ρ, x, S, hf, P⟩ => by
  rcases ofM_ok hf with ⟨r, ρ1, h1, h2⟩ | ⟨q, ρ1, h1, rfl⟩
  · refine ⟨G, ρ, _, S, h1, fun v G1 H1 e1 S1 R1 => ?_⟩
    cases r with
    | v d =>
      simp only at h2
      cases eo : ρ1.obj i with
      | none => rw [eo] at h2; cases h2
      | some d0 =>
        rw [eo] at h2
        cases d0 with
        | ins C0 ns ds =>
          simp only at h2
          split at h2
          · rename_i hc
            obtain ⟨c1, c2, c3⟩ := hc
            cases h2
            obtain ⟨a, hσ, g0, w⟩ := obj_slot S1 eo
            obtain ⟨dx, vs, hH, rl⟩ := w
            have lv := rl.length
            refine ⟨_, hσ, a, _, dx, _, rfl, hH, (T C0 (by simpa using c1)).1, (T C0 (by simpa using c1)).2, ?_, ?_⟩
            · rw [List.length_zip]; omega
            · rw [putF_zip _ _ _ _ (by omega)]
              exact P σ G1 _ e1 (S1.write eo hσ ⟨dx, _, upd_same, RepL.putV R1 rl⟩)
          · cases h2
        | _ => cases h2
    | _ => cases h2
  · exact ⟨G, ρ, _, S, h1, fun c d G' H' e' S' R' => P c d σ G' H' e' S' R'⟩
/-! ### constants of a class -/
def conD (l : List Str) (f : Str) (d : D) : D → Option R
  | .ins C ns _ => if l.contains C = true ∧ ns.contains f = false then some (.v d) else none
  | _ => none
theorem pd_con {l : List Str} {n : Str} {v : V} {d : D} (T : ∀ y ∈ l, Cls X.K (He.ga X.K y) ∧ ∃ u, Con X.K (He.ga X.K y) n v u) (hr : ∀ G, Rep X.kw G d v) (ha : PD X C W o f) (hb : attributeBase o n X.env (eval o X.env) = eval o X.env := by rfl) :
    PD X C W (.Attribute o n pos) (fUn (conD l n d) f) :=
  PE.of (pe_con ha hb) fun σ H Q ⟨G, ρ, x, S, hf, P⟩ => by
    refine tD.seq S hf P fun r ρ1 u G1 H1 e1 S1 R1 h2 P1 => ?_
    obtain ⟨d0, q, l1, hk, rfl⟩ := op1_ok h2
    unfold conD at hk
    split at hk
    · rename_i C0 ns ds
      split at hk
      · rename_i hc
        cases hk
        obtain ⟨a0, dx, vs, e, h1, rl⟩ := S1.look R1 l1
        obtain ⟨T1, u0, T2⟩ := T C0 (by simpa using hc.1)
        exact ⟨a0, _, dx, _, v, u0, e, h1, T1, T2, zip_none hc.2, P1 v G1 H1 (Same.refl _) S1 (hr _)⟩
      · cases hk
    · cases hk
def conC (C f : Str) (d : D) : D → Option R
  | .cls c => if c = C then some (.v d) else none
  | _ => none
theorem pd_conC {Cn n : Str} {v : V} {d : D} {mc : Value} (T1 : ClX.CRead X.K (He.ga X.K Cn) mc) (T2 : ∃ u, ClX.CVal X.K (He.ga X.K Cn) mc n v u) (hr : ∀ G, Rep X.kw G d v) (ha : PD X C W o f) (hb : attributeBase o n X.env (eval o X.env) = eval o X.env := by rfl) :
    PD X C W (.Attribute o n pos) (fUn (conC Cn n d) f) :=
  PE.of (ClX.pe_cval ha hb) fun σ H Q ⟨G, ρ, x, S, hf, P⟩ => by
    refine tD.seq S hf P fun r ρ1 u G1 H1 e1 S1 R1 h2 P1 => ?_
    obtain ⟨d0, q, l1, hk, rfl⟩ := op1_ok h2
    unfold conC at hk
    split at hk
    · rename_i c
      split at hk
      · rename_i hc
        subst hc
        cases hk
        have e0 : u = .ref (He.ga X.K c) := S1.look R1 l1
        obtain ⟨u0, T2⟩ := T2
        exact ⟨_, _, v, u0, e0, T1, T2, P1 v G1 H1 (Same.refl _) S1 (hr _)⟩
      · cases hk
    · cases hk
/-- a class of one's own as a value -/
theorem pd_cls {x : Str} {p : Pos} (hg : Gl X x) (hm : X.mg x = some (.ref (He.ga X.K x))) (hd : (x == ("__debug__" : Str)) = false := by decide) : PD X C W (.Name x p) (fC (.cls x)) := pd_c (pe_glob (v := .ref (He.ga X.K x)) hg hm rfl hd) fun _ => rfl
/-! ### C.m(..) -/
def tCMethS (C : Addr) (sp : Sp) (E : L2.St → XK) (ta : TE) (t : TA) : TE := fun σ H Q => ta σ H fun x H1 => x = .ref C ∧ t σ H1 fun vs H2 => sp (.ref C :: vs) H2 Q (E σ)
theorem run_cmS {pins : List (Addr × Obj)} {σ : L2.St} {H : Hp} {s : Shared} {CX : CXT} {k : Nat} {q Ca ga : Addr} {sp : Sp} {E : XK} {Q : VK} {us : List Value} {vs : List V} (F : FnR X.prog X.w X.K X.mg X.base CX k ga sp) (hr : Room k X.A) (hx : PassesAt CX X σ E) (I : Inv X ((q, PySem.W.methodObj (.ref ga) (.ref Ca)) :: pins) σ H s)
    (r : Vals vs us) (h : sp (.ref Ca :: vs) H Q E) : wpAny (model X.prog X.w) X.A (call (.ref q) us) (EP X pins σ Q) X.xe s := by
  have z : wpAny (model X.prog X.w) X.A (call (.ref q) us) (EP X ((q, PySem.W.methodObj (.ref ga) (.ref Ca)) :: pins) σ Q) X.xe s :=
    wpAny_call (PySem.W.method_call (ClX.pin_at I) (run_fnRS (us := .ref Ca :: us) (vs := .ref Ca :: vs) F hr hx I (.cons rfl r) h))
  exact thn z fun _ _ y => ClX.unpinE y
theorem pe_cmethS {CX : CXT} {k : Nat} {Ca p ga : Addr} {mc : Value} {sp : Sp} {E : L2.St → XK} {m : Str} {ta : TE} {t : TA} {pl : Sem Bool} (he : PE X o ta) (r : ClX.CRead X.K Ca mc) (c : ClX.CMet X.K Ca mc m p ga) (F : FnR X.prog X.w X.K X.mg X.base CX k ga sp) (hr : Room k X.A)
    (hx : ∀ σ, PassesAt CX X σ (E σ)) (ha : PA X (e :: es) t)
    (hst : starEach (e :: es) X.env = (false, eval e X.env) :: starEach es X.env) (hpl : (backTo pos (starEach es X.env)).any (·.1) = false)
    (ht : eval (.Call (.Attribute o m apos) (e :: es) [] pos) X.env = (do
      let ov ← eval o X.env
      standAt apos.atName
      let (f, first) ← holding [ov] (getMethod ov m pl)
      callWith pos f first (backTo pos (starEach (e :: es) X.env)) (backToKw pos (keywordEach [] X.env)))) :
    PE X (.Call (.Attribute o m apos) (e :: es) [] pos) (tCMethS Ca sp E ta t) := by
  refine ⟨fun pins s σ H Q I h => ?_⟩
  refine PySem.W.methodCall_KW (pl := pl) (thn (he.run pins s σ H _ I h) fun u s1 ⟨x, H1, I1, rx, ex, q⟩ => ?_) ht
  subst ex
  obtain rfl : u = Value.ref Ca := rx
  refine ClX.getmethcm_ok I1 r c fun s2 I2 => ?_
  refine ClX.callwith_cm I2 (ClX.base_none I1 (Nat.le_refl _)) c.fi (thn (ha.run pos _ s2 σ H1 _ I2 q) fun us s3 ⟨vs, H2, I3, rv, q2⟩ => ⟨⟨ClX.pin_at I3, I3.kIn⟩, ?_⟩) hst hpl
  exact run_cmS F hr (hx σ) I3 rv q2
/-- a classmethod of a class: its promise -/
structure CmD (P : Program) (w : World) (K : PySem.W.Frag) (mg : Str → Option Value) (base : Heap) (k : Nat) (x m : Str) (ps N : List Str) (fb : F) : Prop where
  ex : ∃ (mc : Value) (p f : Addr), ClX.CRead K (He.ga K x) mc ∧ ClX.CMet K (He.ga K x) mc m p f ∧ FnR P w K mg base (L2.CX P w) k f (spD ⟨K, w⟩ ps N fb)
def fCMeth (C : Str) (fb : F) (N : Nat) (g : M R) (fs : List (M R)) : M R := g.bind fun r => match r with
  | .v (.cls c) => if c = C then (evs fs).bind fun rs => callR fb N (.v (.cls C) :: rs) else fun _ => none
  | _ => fun _ => none
theorem pd_cmeth {x m : Str} {k N' : Nat} {ps N : List Str} {fb : F} {pl : Sem Bool} (h : CmD X.prog X.w X.K X.mg X.base k x m ps N fb) (hr : Room k X.A) (tk : Takes X W) (hc : PD X C W o g) (ha : PAs X C W (e :: es) (evs fs)) (hl : fs.length + 1 = ps.length := by rfl)
    (hN : ps.length ≤ N.length := by decide) (hn : N.length = N' := by rfl) (hst : starEach (e :: es) X.env = (false, eval e X.env) :: starEach es X.env := by rfl) (hpl : (backTo pos (starEach es X.env)).any (·.1) = false := by rfl)
    (ht : eval (.Call (.Attribute o m apos) (e :: es) [] pos) X.env = (do
      let ov ← eval o X.env
      standAt apos.atName
      let (f, first) ← holding [ov] (getMethod ov m pl)
      callWith pos f first (backTo pos (starEach (e :: es) X.env)) (backToKw pos (keywordEach [] X.env))) := by rfl) : PD X C W (.Call (.Attribute o m apos) (e :: es) [] pos) (fCMeth x fb N' g fs) := by
  obtain ⟨mc, p, f, h1, h2, h3⟩ := h.ex
  subst hn
  refine PE.of (pe_cmethS (E := fun σ => WE W σ) hc h1 h2 h3 hr (fun σ => passAt tk σ) ha hst hpl ht) fun σ H Q ⟨G, ρ, z, S, hf, P⟩ => ?_
  refine tD.seq S hf P fun r ρ0 v0 G0 H0 e0 S0 R0 hf2 P0 => ?_
  cases r with
  | v d =>
    cases d with
    | cls c =>
      simp only at hf2
      by_cases hcx : c = x
      · rw [if_pos hcx] at hf2
        subst hcx
        refine ⟨R0, ?_⟩
        rcases bind_ok hf2 with ⟨rs, ρ1, g1, g2⟩ | ⟨q, ρ1, g1, rfl⟩
        · refine ⟨G0, ρ0, _, S0, g1, fun vs G1 H1 e1 S1 R1 => call_go S1 (.cons (fun d z => by cases z) (show RepR X.kw C G1 H1 σ ρ1 (.v (.cls c)) (.ref (He.ga X.K c)) from rfl) R1) g2 ?_ (by rw [List.length_cons, evs_len g1, hl]) hN⟩
          cases z with
          | ok r ρ' => exact fun v G' H' e S' R' => P0 v G' H' (e1.trans e) S' R'
          | ex e ρ' => exact fun c d G' H' e S' R' => P0 c d G' H' (e1.trans e) S' R'
        · exact ⟨G0, ρ0, _, S0, g1, P0⟩
      · rw [if_neg hcx] at hf2; cases hf2
    | _ => cases hf2
  | _ => cases hf2
end
end DL
set_option Elab.async false
set_option linter.all false
set_option maxRecDepth 100000
set_option maxHeartbeats 4000000
/-! DM3: special methods of own classes by values: len(o), x in o, o == p, o[i], str(o). -/
namespace DL
open PySem PySem.Spec PyProof.Rows L2

/-- a special method of a class -/
structure SpecD (P : Program) (w : World) (K : PySem.W.Frag) (mg : Str → Option Value) (base : Heap) (k : Nat) (x m : Str) (ps N : List Str) (fb : F) : Prop where
  ex : ∃ f : Addr, PySem.W.findIn K (.ref (He.ga K x)) m = some (some (.ref f)) ∧ PySem.W.isFn K (.ref f) = true ∧ PySem.W.fnIn K f = true ∧ FnR P w K mg base (L2.CX P w) k f (spD ⟨K, w⟩ ps N fb)
/-- a quiet run on settled data -/
def ownQ (fb : F) (N : Nat) (ds : List D) : Option R := match fb ⟨(ds.map fun d => some (.val d)) ++ List.replicate (N - ds.length) none, []⟩ with
  | some (.ret (.v d) _) => some (.v d)
  | some (.ret (.n d) _) => some (.n d)
  | some (.nx _) => some (.v .non)
  | _ => none
section
variable {X : Cx} {pins : List (Addr × Obj)} {σ : L2.St} {H : Hp} {s : Shared}
theorem run_sub {n : Nat} {f : Addr} {sp : Sp} {A1 : Around} {Q : VK} {us : List Value} {vs : List V} (F : FnR X.prog X.w X.K X.mg X.base (L2.CX X.prog X.w) n f sp) (sb : Sub X n A1) (I : Inv X pins σ H s) (r : Vals vs us) (h : sp vs H Q E0) {E : Value → Shared → Prop} :
    wpAny (model X.prog X.w) A1 (call (.ref f) us) (EP X pins σ Q) E s := by
  have e0 : Env0 X.prog X.w X.K X.mg X.base A1 X.stack s H := by
    have e := I.env0
    exact ⟨by rw [sb.fr]; exact e.frames, e.mod, e.bs, e.bsz, e.funs, e.frf, e.hok, e.bare⟩
  refine wpAny_call (codeAny_mono (F A1 X.stack s H us vs Q E0 sb.room e0 r h) fun r s' hq => ?_)
  cases r with
  | error e =>
    obtain ⟨_, _, _, _, _, _, _, _, _, _, _, _, z⟩ := (show L2.CX X.prog X.w X.stack H s E0 e s' from hq)
    exact z.elim
  | ok fl =>
    cases fl with
    | ret u => exact I.after hq
    | next => exact False.elim hq
    | brk => exact False.elim hq
    | cont => exact False.elim hq
theorem sub0 {k : Nat} (hr : Room k X.A) : Sub X k X.A := ⟨hr, rfl⟩
end
section
variable {K : KW} {C : Ctl} {W : WX} {G H : Hp} {σ : L2.St} {ρ : EV}
theorem repRs_v (S : Sta K C G H σ ρ) : ∀ {ds : List D} {vs : List V}, RepL K G ds vs → RepRs K C G H σ ρ (ds.map R.v) vs
  | [], vs, r => by rw [show vs = [] from r]; exact .nil
  | d :: ds, vs, r => by
    obtain ⟨v, q, rfl, r1, r2⟩ := r
    exact .cons (fun d z => by cases z) r1 (repRs_v S r2)
theorem argIx_v : ∀ ds : List D, argIx (ds.map R.v) = []
  | [] => rfl
  | _ :: ds => argIx_v ds
theorem argSl_v : ∀ (ds : List D) (k : Nat), argSl (ds.map R.v) k = ds.map fun d => some (.val d)
  | [], _ => rfl
  | d :: ds, k => by
    show some (Slot.val d) :: argSl (ds.map R.v) k = _
    rw [argSl_v ds k]; rfl
theorem ownQ_call {fb : F} {N : Nat} {ds : List D} {r : R} (h : ownQ fb N ds = some r) : callR fb N (ds.map R.v) ρ = some (.ok r ρ) := by
  unfold callR
  rw [argIx_v, argSl_v, List.length_map]
  simp only [EV.objs, List.map_nil, List.nodup_nil, if_true]
  unfold ownQ at h
  split at h
  · rename_i e; cases h; rw [e]; rfl
  · rename_i e; cases h; rw [e]; rfl
  · rename_i e; cases h; rw [e]; rfl
  · cases h
theorem own_go {ps N : List Str} {fb : F} {ds : List D} {vs : List V} {r : R} {Q : VK} (S : Sta K C G H σ ρ) (rl : RepL K G ds vs) (h : ownQ fb N.length ds = some r) (hl : ds.length = ps.length) (hN : ps.length ≤ N.length)
    (q : Ans K C G H σ ρ r Q) : spD K ps N fb vs H Q E0 := by
  have go := call_go (W := W0) S (repRs_v S rl) (ownQ_call (ρ := ρ) h) (Q := Q) q (ps := ps) (by rw [List.length_map]; exact hl) hN
  exact go
end
def fS1 (g : D → Option R) (f : M R) : M R := f.bind fun r => match r with
  | .v d => (match g d with
    | some q => M.ret q
    | none => fun _ => none)
  | _ => fun _ => none
def fS2 (g : D → D → Option R) (f h : M R) : M R := f.bind fun r1 => h.bind fun r2 => match r1, r2 with
  | .v d1, .v d2 => (match g d1 d2 with
    | some q => M.ret q
    | none => fun _ => none)
  | _, _ => fun _ => none
def ofC (C : Str) (k : D → Option R) : D → Option R
  | .ins c ns ds => if c = C then k (.ins c ns ds) else none
  | _ => none
theorem ofC_ok {C : Str} {k : D → Option R} {d : D} {r : R} (h : ofC C k d = some r) : ∃ ns ds, d = .ins C ns ds ∧ k d = some r := by
  unfold ofC at h
  split at h
  · rename_i c ns ds
    split at h
    · rename_i e; subst e; exact ⟨ns, ds, rfl, h⟩
    · cases h
  · cases h
section
variable {X : Cx} {C : Ctl} {W : WX} {a b e o : Expr} {es : List Expr} {pos : Pos} {f h : M R} {fs : List (M R)}
/-- a two-place operation on settled data -/
def OpS (X : Cx) (fo : Value → Value → Sem Value) (g : D → D → Option R) : Prop := ∀ d1 d2 r, g d1 d2 = some r → ∃ rd : L2.R2, OpR X fo rd ∧
  ∀ C G H σ ρ v1 v2 Q, Sta X.kw C G H σ ρ → Rep X.kw G d1 v1 → Rep X.kw G d2 v2 → Ans X.kw C G H σ ρ r Q → rd v1 v2 H Q
theorem binS_go {fo : Value → Value → Sem Value} {k : D → D → Option R} (ho : OpS X fo k) {σ : L2.St} {H : Hp} {Q : VK} (q : tD X.kw C W (fS2 k f h) σ H Q) : ∃ rd : L2.R2, OpR X fo rd ∧ tOp rd (tD X.kw C W f) (tD X.kw C W h) σ H Q := by
  obtain ⟨G, ρ, x, S, hf, P⟩ := q
  rcases bind_ok hf with ⟨r1, ρ1, h1, h2⟩ | ⟨q, ρ1, h1, rfl⟩
  · rcases bind_ok h2 with ⟨r2, ρ2, h3, h4⟩ | ⟨q, ρ2, h3, rfl⟩
    · cases r1 with
      | v d1 =>
        cases r2 with
        | v d2 =>
          simp only at h4
          cases hk : k d1 d2 with
          | none => rw [hk] at h4; cases h4
          | some r =>
            rw [hk] at h4
            cases h4
            obtain ⟨rd, hr, hd⟩ := ho d1 d2 r hk
            refine ⟨rd, hr, ⟨G, ρ, _, S, h1, fun v1 G1 H1 e1 S1 R1 => ⟨G1, ρ1, _, S1, h3, fun v2 G2 H2 e2 S2 R2 => ?_⟩⟩⟩
            exact hd C G2 H2 σ ρ2 v1 v2 Q S2 (Rep.mono e2 R1) R2 fun v G' H' e' S' R' => P v G' H' ((e1.trans e2).trans e') S' R'
        | _ => cases h4
      | _ => cases h4
    · exact ⟨_, opr_false, ⟨G, ρ, _, S, h1, fun v1 G1 H1 e1 S1 R1 => ⟨G1, ρ1, _, S1, h3, fun c d G2 H2 e2 S2 R2 => P c d G2 H2 (e1.trans e2) S2 R2⟩⟩⟩
  · exact ⟨_, opr_false, ⟨G, ρ, _, S, h1, P⟩⟩
theorem pd_cmpS {op : CmpOp} {k : D → D → Option R} (ho : OpS X (compareOp op) k) (ha : PD X C W a f) (hb : PD X C W b h) (hm : behindInMarks op b = false) : PD X C W (.Compare a [op] [b] pos) (fS2 k f h) := PE.by fun σ H Q q => by
  obtain ⟨rd, hr, q'⟩ := binS_go ho q
  exact ⟨_, pe_cmpR hr ha hb hm, q'⟩
theorem pb_cmpS {op : CmpOp} {k : D → D → Option R} (ho : OpS X (compareOp op) k) (ha : PD X C W a f) (hb : PD X C W b h) (hm : behindInMarks op b = false) : PB X C W (.Compare a [op] [b] pos) (fBool (fS2 k f h)) := PT.by fun σ H Q q => by
  obtain ⟨G, ρ, x, S, hf, P⟩ := test_go q
  obtain ⟨rd, hr, q'⟩ := binS_go (Q := fun x H' => ∃ c, x = .bl c ∧ Q c H') ho ⟨G, ρ, x, S, hf, P⟩
  exact ⟨_, pt_cmpR hr ha hb hm, q'⟩
theorem pd_binS {op : Operator} {k : D → D → Option R} (ho : OpS X (binaryOp op) k) (ha : PD X C W a f) (hb : PD X C W b h) : PD X C W (.BinOp a op b pos) (fS2 k f h) := PE.by fun σ H Q q => by
  obtain ⟨rd, hr, q'⟩ := binS_go ho q
  exact ⟨_, pe_op hr ha hb, q'⟩
theorem ins_at {pins : List (Addr × Obj)} {σ : L2.St} {H : Hp} {s : Shared} {p Ca dx : Addr} {fl : List (Str × V)} (I : Inv X pins σ H s) (ea : H p = some (.ins Ca dx fl)) : ∃ ox od, PySem.W.InstAt s.heap p ox Ca (some od) ∧ ox.data = .plain := by
  obtain ⟨mA, O, _⟩ := ins_get I.hok ea
  obtain ⟨od, J, _⟩ := O.look
  exact ⟨_, od, J, rfl⟩
/-! ### x in o -/
def inO (Cn : Str) (fb : F) (N : Nat) (neg : Bool) : D → D → Option R := fun x o => match ofC Cn (fun o => ownQ fb N [o, x]) o with
  | some (.v (.bl b)) => some (.v (.bl (b != neg)))
  | _ => none
theorem inO_ok {Cn : Str} {k N' : Nat} {ps N : List Str} {fb : F} (D : SpecD X.prog X.w X.K X.mg X.base k Cn "__contains__" ps N fb) (hr : Room k X.A) (hl : 2 = ps.length := by rfl) (hN : ps.length ≤ N.length := by decide) (hn : N.length = N' := by rfl) :
    OpS X (compareOp .In) (inO Cn fb N' false) ∧ OpS X (compareOp .NotIn) (inO Cn fb N' true) := by
  obtain ⟨fA, h1, h2, h3, F⟩ := D.ex
  subst hn
  have key : ∀ (neg : Bool) (fo : Value → Value → Sem Value), (∀ {E : Value → Shared → Prop} {s : Shared} {v : Value} {x : Addr} {ox : Obj} {od : Option Obj} {L : Addr} {m : Str → Option Value} {Q : Value → Shared → Prop}, PyProof.Rows.Fr X.base L s.heap m → X.K.In X.base → PySem.W.InstAt s.heap x ox (He.ga X.K Cn) od →
      wpAny (model X.prog X.w) X.A (call (.ref fA) [.ref x, v]) (fun r s' => wpAny (model X.prog X.w) X.A (truthy r) (fun b => Q (.bool (b != neg))) E s') E s → wpAny (model X.prog X.w) X.A (fo v (.ref x)) Q E s) → OpS X fo (inO Cn fb N.length neg) := fun neg fo hfo d1 d2 r hk => by
    unfold inO at hk
    split at hk
    · rename_i b hb
      cases hk
      obtain ⟨ns, ds, rfl, hq⟩ := ofC_ok hb
      refine ⟨fun x y H Q => ∃ p dx fl, y = .ref p ∧ H p = some (.ins (He.ga X.K Cn) dx fl) ∧ spD X.kw ps N fb [y, x] H (fun r H' => r = .bl b ∧ Q (.bl (b != neg)) H') E0, ?_, ?_⟩
      · rintro pins s σ H x y v u Q I rx ry ⟨p, dx, fl, rfl, ep, hsp⟩
        obtain rfl : u = Value.ref p := ry
        obtain ⟨ox, od, J, _⟩ := ins_at I ep
        obtain ⟨m, hF⟩ := I.fr
        refine hfo hF I.ok.mod.kin J ?_
        refine wpAny_mono (run_sub F (sub0 hr) I (us := [.ref p, v]) (vs := [.ref p, x]) (.cons rfl (.cons rx .nil)) hsp) (fun r s' z => ?_) fun _ _ z => z
        obtain ⟨w', H', I', rw', ew, q⟩ := z
        subst ew
        obtain rfl : r = Value.bool b := rw'
        exact wpAny_pure ⟨.bl (b != neg), H', I', rfl, q⟩
      · intro C G H σ ρ v1 v2 Q S R1 R2 q
        have R2' : Rep X.kw G (.ins Cn ns ds) v2 := R2
        obtain ⟨p, dx, vs, rfl, ep, rl⟩ := R2
        exact ⟨p, dx, _, rfl, S.sub _ _ ep, own_go S (RepL.cons R2' (RepL.cons R1 RepL.nil)) hq hl hN fun v G' H' e' S' R' => ⟨R', q _ G' H' e' S' rfl⟩⟩
    · cases hk
  refine ⟨key false _ fun hF hK J hh => PySem.W.in_K hF hK J h1 h2 ?_, key true _ fun hF hK J hh => PySem.W.notIn_K hF hK J h1 h2 ?_⟩
  · simpa using hh
  · simpa using hh
/-! ### len(o) -/
def cLen (n : Int) : Prop := 0 ≤ n ∧ n < 2 ^ 63
def cLenB (n : Int) : Bool := match n with
  | .ofNat k => Nat.ble k 9223372036854775807
  | .negSucc _ => false
theorem cLenB_iff {n : Int} : cLenB n = true ↔ cLen n := by
  unfold cLenB cLen
  cases n with
  | ofNat n => simp only [Nat.ble_eq, Int.ofNat_eq_natCast]; constructor <;> intro h <;> omega
  | negSucc n =>
    simp only [Int.negSucc_eq]
    exact ⟨fun h => (by cases h), fun h => (by omega)⟩
instance {n : Int} : Decidable (cLen n) := decidable_of_iff _ cLenB_iff
def lenO (Cn : Str) (fb : F) (N : Nat) : D → Option R := fun o => match ofC Cn (fun o => ownQ fb N [o]) o with
  | some (.v (.int n)) => if cLen n then some (.v (.int n)) else none
  | _ => none
theorem pd_lenO {Cn : Str} {p : Pos} {k N' : Nat} {ps N : List Str} {fb : F} (D : SpecD X.prog X.w X.K X.mg X.base k Cn "__len__" ps N fb) (hr : Room (k + 1) X.A) (hg : Gl X "len") (hm : X.mg "len" = none) (ha : PD X C W e f) (hl : 1 = ps.length := by rfl) (hN : ps.length ≤ N.length := by decide)
    (hn : N.length = N' := by rfl) (he : starEach [e] X.env = (false, eval e X.env) :: starEach [] X.env := by rfl) : PD X C W (.Call (.Name "len" p) [e] [] pos) (fS1 (lenO Cn fb N') f) := by
  obtain ⟨fA, h1, h2, h3, F⟩ := D.ex
  subst hn
  have hc : CallR X (.builtin "len") (fun vs H Q => ∃ v p dx fl, vs = [v] ∧ v = .ref p ∧ H p = some (.ins (He.ga X.K Cn) dx fl) ∧ spD X.kw ps N fb [v] H (fun r H' => ∃ n, r = .int n ∧ (0 ≤ n ∧ n < 2 ^ 63) ∧ Q (.int n) H') E0) := by
    rintro pins s σ H xs us Q I r ⟨v, p, dx, fl, rfl, rfl, ep, hsp⟩
    obtain ⟨u, rfl, ru⟩ := vals1 r
    obtain rfl : u = Value.ref p := ru
    obtain ⟨ox, od, J, _⟩ := ins_at I ep
    obtain ⟨m, hF⟩ := I.fr
    refine PySem.W.len_K hF I.ok.mod.kin J h1 h2 (wpAny_mono (run_sub F (Sub.in1 (sub0 hr)) I (us := [.ref p]) (vs := [.ref p]) (.cons rfl .nil) hsp) (fun r s' z => ?_) fun _ _ z => z)
    obtain ⟨w', H', I', rw', n, ew, hn, q⟩ := z
    subst ew
    obtain ⟨t, rfl⟩ := (show ∃ t, r = Value.int n t from rw')
    exact ⟨hn, .int n, H', I'.tok _, ⟨_, rfl⟩, q⟩
  refine PE.of (pe_callB hc hg hm PySem.boot_len (pa_cons ha pa_nil (hs := he)) (by decide) (by decide) he rfl) fun σ H Q ⟨G, ρ, x, S, hf, P⟩ => ?_
  refine tD.seq S hf P fun r ρ1 v G1 H1 e1 S1 R1 hf2 P1 => ?_
  cases r with
  | v d =>
    simp only at hf2
    cases hk : lenO Cn fb N.length d with
    | none => rw [hk] at hf2; cases hf2
    | some q =>
      rw [hk] at hf2
      cases hf2
      unfold lenO at hk
      split at hk
      · rename_i n hb
        split at hk
        · rename_i hn
          cases hk
          obtain ⟨ns, ds, rfl, hq⟩ := ofC_ok hb
          have R1' : Rep X.kw G1 (.ins Cn ns ds) v := R1
          obtain ⟨p, dx, vs, rfl, ep, rl⟩ := R1
          exact ⟨_, p, dx, _, rfl, rfl, S1.sub _ _ ep, own_go S1 (RepL.cons R1' RepL.nil) hq hl hN fun v G' H' e' S' R' => ⟨n, R', hn, P1 _ G' H' e' S' rfl⟩⟩
        · cases hk
      · cases hk
  | _ => cases hf2
end
end DL
set_option Elab.async false
set_option linter.all false
set_option maxRecDepth 100000
set_option maxHeartbeats 4000000
/-! DM4: == and != by an own __eq__. -/
namespace DL
open PySem PySem.Spec PyProof.Rows L2

inductive Ty where
  | bt (n : String) | ow (C : Str)
deriving DecidableEq
def tyK : D → Option Ty
  | .non => some (.bt "NoneType")
  | .bl _ => some (.bt "bool")
  | .int _ => some (.bt "int")
  | .str _ => some (.bt "str")
  | .lst _ => some (.bt "list")
  | .tup _ => some (.bt "tuple")
  | .ins C _ _ => some (.ow C)
  | _ => none
def tyV (K : PySem.W.Frag) : Ty → Value
  | .bt n => .type n
  | .ow C => .ref (He.ga K C)
section
variable {X : Cx} {pins : List (Addr × Obj)} {σ : L2.St} {H : Hp} {s : Shared}
theorem looks_ty {M : Model} {G : Hp} {d : D} {v : V} {u : Value} {t : Ty} (I : Inv X pins σ H s) (e : Same G H) (r : Rep X.kw G d v) (ru : RelV v u) (h : tyK d = some t) : PySem.W.Looks M s.heap (typeOf u) (tyV X.K t) := by
  cases d with
  | non => cases h; rw [show v = _ from r] at ru; cases (show u = Value.none from ru); exact PySem.W.Looks.of_pure rfl
  | bl b => cases h; rw [show v = _ from r] at ru; cases (show u = Value.bool b from ru); exact PySem.W.Looks.of_pure rfl
  | int i => cases h; rw [show v = _ from r] at ru; obtain ⟨t, rfl⟩ := (show ∃ t, u = Value.int i t from ru); exact PySem.W.Looks.of_pure rfl
  | str i => cases h; rw [show v = _ from r] at ru; obtain ⟨t, rfl⟩ := (show ∃ t, u = Value.str i t from ru); exact PySem.W.Looks.of_pure rfl
  | lst ds =>
    cases h
    obtain ⟨a, xs, rfl, h1, _⟩ := r
    cases (show u = Value.ref a from ru)
    obtain ⟨_, _, n, _, h2⟩ := (show ObjOk X.prog X.w H s.heap a (.lst xs) from I.hok a _ (e _ _ h1))
    exact (PySem.W.Looks.ld (part := none) h2).andThen .now
  | tup ds =>
    cases h
    obtain ⟨a, xs, rfl, h1, _⟩ := r
    cases (show u = Value.ref a from ru)
    obtain ⟨its, rv, ⟨o, ho, hc, n, hd⟩, hz⟩ := I.tuple (same_t e h1)
    have z : PySem.W.Looks M s.heap (typeOf (.ref a)) o.cls := (PySem.W.Looks.ld (part := none) ho).andThen .now
    rw [hc] at z
    exact z
  | ins C ns ds =>
    cases h
    obtain ⟨a, dx, vs, rfl, h1, _⟩ := r
    cases (show u = Value.ref a from ru)
    obtain ⟨ox, od, J, _⟩ := ins_at I (e _ _ h1)
    exact J.type
  | _ => cases h
end
def eqO (Cn : Str) (fb : F) (N : Nat) (l : List Ty) (neg : Bool) : D → D → Option R := fun o x => match tyK x with
  | some t => if t ∈ l then (match ofC Cn (fun o => ownQ fb N [o, x]) o with
    | some (.v (.bl b)) => some (.v (.bl (b != neg)))
    | _ => none) else none
  | none => none
section
variable {X : Cx}
theorem eqO_gen {Cn : Str} {k : Nat} {ps N : List Str} {fb : F} {l : List Ty} (neg : Bool) (fo : Value → Value → Sem Value) (D : SpecD X.prog X.w X.K X.mg X.base k Cn "__eq__" ps N fb) (hr : Room (k + 1) X.A) (T : ∀ t ∈ l, PySem.W.notFirst X.K (He.ga X.K Cn) (tyV X.K t) = true) (hl : 2 = ps.length) (hN : ps.length ≤ N.length)
    (n : Nat) (hn : n ≤ k + 1)
    (hfo : ∀ {fA : Addr} {E : Value → Shared → Prop} {s : Shared} {v t : Value} {x : Addr} {ox : Obj} {od : Obj} {L : Addr} {m : Str → Option Value} {Q : Value → Shared → Prop}, PyProof.Rows.Fr X.base L s.heap m → X.K.In X.base → PySem.W.InstAt s.heap x ox (He.ga X.K Cn) (some od) →
      (∀ M, PySem.W.Looks M s.heap (typeOf v) t) → PySem.W.notFirst X.K (He.ga X.K Cn) t = true → PySem.W.findIn X.K (.ref (He.ga X.K Cn)) "__eq__" = some (some (.ref fA)) → PySem.W.isFn X.K (.ref fA) = true →
      (∀ A1, Sub X k A1 → wpAny (model X.prog X.w) A1 (call (.ref fA) [.ref x, v]) (fun r s' => ∃ b, r = .bool b ∧ Q (.bool (b != neg)) s') E s) → wpAny (model X.prog X.w) X.A (fo (.ref x) v) Q E s) :
    OpS X fo (eqO Cn fb N.length l neg) := fun d1 d2 r hk => by
  obtain ⟨fA, h1, h2, h3, F⟩ := D.ex
  unfold eqO at hk
  split at hk
  · rename_i t ht
    split at hk
    · rename_i hc
      split at hk
      · rename_i b hb
        cases hk
        obtain ⟨ns, ds, rfl, hq⟩ := ofC_ok hb
        refine ⟨fun x y H Q => ∃ p dx fl G, x = .ref p ∧ H p = some (.ins (He.ga X.K Cn) dx fl) ∧ Same G H ∧ Rep X.kw G d2 y ∧ spD X.kw ps N fb [x, y] H (fun r H' => r = .bl b ∧ Q (.bl (b != neg)) H') E0, ?_, ?_⟩
        · rintro pins s σ H x y v u Q I rx ry ⟨p, dx, fl, G, rfl, ep, eG, ry2, hsp⟩
          obtain rfl : v = Value.ref p := rx
          obtain ⟨ox, od, J, _⟩ := ins_at I ep
          obtain ⟨m, hF⟩ := I.fr
          refine hfo hF I.ok.mod.kin J (fun M => looks_ty I eG ry2 ry ht) (T t hc) h1 h2 fun A1 sb => ?_
          refine wpAny_mono (run_sub F sb I (us := [.ref p, u]) (vs := [.ref p, y]) (.cons rfl (.cons ry .nil)) hsp) (fun r s' z => ?_) fun _ _ z => z
          obtain ⟨w', H', I', rw', ew, q⟩ := z
          subst ew
          exact ⟨b, rw', .bl (b != neg), H', I', rfl, q⟩
        · intro C G H σ ρ v1 v2 Q S R1 R2 q
          have R1' : Rep X.kw G (.ins Cn ns ds) v1 := R1
          obtain ⟨p, dx, vs, rfl, ep, rl⟩ := R1
          exact ⟨p, dx, _, G, rfl, S.sub _ _ ep, S.sub, R2, own_go S (RepL.cons R1' (RepL.cons R2 RepL.nil)) hq hl hN fun v G' H' e' S' R' => ⟨R', q _ G' H' e' S' rfl⟩⟩
      · cases hk
    · cases hk
  · cases hk
theorem eqO_ok {Cn : Str} {k N' : Nat} {ps N : List Str} {fb : F} {l : List Ty} (D : SpecD X.prog X.w X.K X.mg X.base k Cn "__eq__" ps N fb) (hr : Room (k + 1) X.A) (T : ∀ t ∈ l, PySem.W.notFirst X.K (He.ga X.K Cn) (tyV X.K t) = true) (hl : 2 = ps.length := by rfl) (hN : ps.length ≤ N.length := by decide) (hn : N.length = N' := by rfl) :
    OpS X (compareOp .Eq) (eqO Cn fb N' l false) := by
  subst hn
  refine eqO_gen false _ D hr T hl hN k (by omega) fun {fA E s v t x ox od L m Q} hF hK J hb hn he hf hh => ?_
  show wpAny (model X.prog X.w) X.A (richCompare .Eq (.ref x) v) Q E s
  refine PySem.W.cmp_K (op := .Eq) (tb := t) (hr.units0) hF hK J (hb _) hn he hf (wpAny_mono (hh X.A ⟨hr.mono (by omega), rfl⟩) (fun r s' z => ?_) fun _ _ z => z)
  obtain ⟨b, rfl, q⟩ := z
  have q' : Q (.bool b) s' := by simpa using q
  exact q'
open Builtin in
/-- o != x where __ne__ is object's -/
theorem ne_K {prog : Program} {w : World} {A : Around} {E : Value → Shared → Prop} {s : Shared} {K : PySem.W.Frag} {x C L f : Addr} {h₀ : Heap} {m : Str → Option Value} {ox : Obj} {od : Option Obj} {b tb : Value} {Q : Value → Shared → Prop} (hu : A.units < cLine) (hu1 : A.in1.units < cLine)
    (F : PyProof.Rows.Fr h₀ L s.heap m) (X₀ : K.In h₀) (I : PySem.W.InstAt s.heap x ox C od) (hb : PySem.W.Looks (model prog w) s.heap (typeOf b) tb) (hn : PySem.W.notFirst K C tb = true)
    (hne : PySem.W.findIn K (.ref C) "__ne__" = some (some (.builtin "object.__ne__"))) (hm : PySem.W.mroIn K C (.type "object") = some true)
    (hs : PySem.W.findIn K (.ref C) "__eq__" = some (some (.ref f))) (hf : PySem.W.isFn K (.ref f) = true)
    (h : wpAny (model prog w) A.in1 (call (.ref f) [.ref x, b]) (fun r s' => ∃ c, r = .bool c ∧ Q (.bool (!c)) s') E s) : wpAny (model prog w) A (richCompare .NotEq (.ref x) b) Q E s := by
  have X := X₀.keeps F.keep
  have run : wpAny (model prog w) A (call (.builtin "object.__ne__") [.ref x, b]) (fun r s' => ∃ c, r = .bool c ∧ Q (.bool c) s') E s := by
    refine wpAny_call (codeAny_call_builtin PySem.F.slot_object_ne.plain PySem.F.entry_object_ne (PySem.W.check_slot (i := "object.__ne__") (owner := "object") (n := "__ne__") (by decide +kernel) (by decide +kernel) (I.type.andThen (PySem.W.looks_mroIn X hm)) (PySem.F.args_object_ne_2 _ _) ?_))
    unfold Builtin.«object.__ne__»
    refine wpAny_bind (m := slotArgs "__ne__" 1 _) (wpAny_pure ?_)
    refine wpAny_bind (wpAny_cRoomFor hu1 ?_)
    refine wpAny_bind (m := callSpecialIfBound? (.ref x) (Str.ofString "__eq__") _) (PySem.W.ifBound_K X I hs hf (wpAny_mono h (fun r s' hr => ?_) fun _ _ e => e))
    obtain ⟨c, rfl, hq⟩ := hr
    refine wpAny_bind (wpAny_truthy_bool ?_)
    exact wpAny_pure ⟨!c, rfl, hq⟩
  have one : wpAny (model prog w) A (tryCompare (.ref x) "__ne__" b) (fun r s' => ∃ v, r = some v ∧ Q v s') E s := by
    unfold tryCompare
    refine wpAny_bind (m := callSpecialIfBound? (.ref x) "__ne__" [b]) ?_
    simp only [callSpecialIfBound?, bindSpecialIfBound?]
    have fin : wpAny (model prog w) A (call (.builtin "object.__ne__") ([.ref x] ++ [b]) >>= fun v => pure (some v)) (fun r s' => wpAny (model prog w) A (match r with
        | some .notImplemented | none => pure none
        | some v => pure (some v)) (fun r s' => ∃ v, r = some v ∧ Q v s') E s') E s := wpAny_bind (wpAny_mono run (fun v s' h' => by
          obtain ⟨c, rfl, q⟩ := h'
          exact wpAny_pure (wpAny_pure ⟨_, rfl, q⟩)) fun _ _ h' => h')
    refine wpAny_holding (wpAny_bind (wpAny_bind (wpAny_bind (I.type.here ((PySem.W.looks_findIn X hne).here ?_)))))
    refine wpAny_bind (wpAny_askSetting (wpAny_ite ?_))
    split
    · exact wpAny_bind ((PySem.W.Looks.of_pure (PySem.F.slot_object_ne.bind _)).here (wpAny_pure (by exact fin)))
    · exact wpAny_tryCatch (wpAny_bind ((PySem.W.Looks.of_pure (PySem.F.slot_object_ne.bind _)).here (wpAny_pure (by exact fin))))
  unfold richCompare
  simp only [oneThing_ref]
  refine wpAny_holding (wpAny_bind (wpAny_cRoomFor hu ?_))
  refine wpAny_bind (I.type.here (wpAny_bind (hb.here ?_)))
  split
  · rename_i q
    have e : PySem.W.subIn K tb (.ref C) = some false := by
      rcases Bool.or_eq_true_iff.mp hn with e | e
      · rw [beq_iff_eq.mp e] at q; simp at q
      · exact beq_iff_eq.mp e
    refine wpAny_bind ((PySem.W.looks_subIn X e).here ?_)
    simp only [Bool.false_eq_true, if_false]
    refine wpAny_bind (wpAny_mono one (fun r s' z => ?_) fun _ _ e => e)
    obtain ⟨v, rfl, hq⟩ := z
    exact wpAny_pure hq
  · refine wpAny_bind (wpAny_pure ?_)
    simp only [Bool.false_eq_true, if_false]
    refine wpAny_bind (wpAny_mono one (fun r s' z => ?_) fun _ _ e => e)
    obtain ⟨v, rfl, hq⟩ := z
    exact wpAny_pure hq
theorem neO_ok {Cn : Str} {k N' : Nat} {ps N : List Str} {fb : F} {l : List Ty} (D : SpecD X.prog X.w X.K X.mg X.base k Cn "__eq__" ps N fb) (hr : Room (k + 1) X.A) (T : ∀ t ∈ l, PySem.W.notFirst X.K (He.ga X.K Cn) (tyV X.K t) = true)
    (hne : PySem.W.findIn X.K (.ref (He.ga X.K Cn)) "__ne__" = some (some (.builtin "object.__ne__"))) (hm : PySem.W.mroIn X.K (He.ga X.K Cn) (.type "object") = some true) (hl : 2 = ps.length := by rfl) (hN : ps.length ≤ N.length := by decide) (hn : N.length = N' := by rfl) :
    OpS X (compareOp .NotEq) (eqO Cn fb N' l true) := by
  subst hn
  refine eqO_gen true _ D hr T hl hN k (by omega) fun {fA E s v t x ox od L m Q} hF hK J hb hn he hf hh => ?_
  show wpAny (model X.prog X.w) X.A (richCompare .NotEq (.ref x) v) Q E s
  have hr1 : Room k X.A.in1 := hr.in1
  refine ne_K (hr.units0) hr1.units0 hF hK J (hb _) hn hne hm he hf (wpAny_mono (hh X.A.in1 ⟨hr1, rfl⟩) (fun r s' z => ?_) fun _ _ z => z)
  obtain ⟨b, rfl, q⟩ := z
  exact ⟨b, rfl, by simpa using q⟩
end
end DL
set_option Elab.async false
set_option linter.all false
set_option maxRecDepth 100000
set_option maxHeartbeats 4000000
/-! DM5: o(..), o + p, str(o), truth of o. -/
namespace DL
open PySem PySem.Spec PyProof.Rows L2

/-! ### o(..) -/
section
variable {X : Cx} {C : Ctl} {W : WX} {a b e o fe : Expr} {es : List Expr} {pos : Pos} {f h g : M R} {fs : List (M R)}
theorem run_subS {pins : List (Addr × Obj)} {σ : L2.St} {H : Hp} {s : Shared} {n : Nat} {fA : Addr} {sp : Sp} {Q : VK} {us : List Value} {vs : List V} (F : FnR X.prog X.w X.K X.mg X.base (L2.CX X.prog X.w) n fA sp) (tk : Takes X W) (hr : Room n X.A) (I : Inv X pins σ H s) (r : Vals vs us) (h : sp vs H Q (WE W σ)) :
    wpAny (model X.prog X.w) X.A (call (.ref fA) us) (EP X pins σ Q) X.xe s := wpAny_call (run_fnRS F hr (passAt tk σ) I r h)
def tCallOS (C : Addr) (sp : Sp) (E : L2.St → XK) (tf : TE) (t : TA) : TE := fun σ H Q => tf σ H fun y H1 => ∃ a, y = .ref a ∧ t σ H1 fun vs H2 => (∃ dx fl, H2 a = some (.ins C dx fl)) ∧ sp (.ref a :: vs) H2 Q (E σ)
theorem pe_callOS {CX : CXT} {k : Nat} {Ca ga : Addr} {sp : Sp} {E : L2.St → XK} {tf : TE} {t : TA} (hf : PE X fe tf) (c : StX.CallO X.K Ca ga) (F : FnR X.prog X.w X.K X.mg X.base CX k ga sp) (hr : Room k X.A) (hx : ∀ σ, PassesAt CX X σ (E σ)) (ha : PA X (e :: es) t)
    (ht : eval (.Call fe (e :: es) [] pos) X.env = (do callWith pos (← eval fe X.env) [] (backTo pos (starEach (e :: es) X.env)) (backToKw pos (keywordEach [] X.env))))
    (he : starEach (e :: es) X.env = (false, eval e X.env) :: starEach es X.env) (hpl : (backTo pos (starEach es X.env)).any (·.1) = false) : PE X (.Call fe (e :: es) [] pos) (tCallOS Ca sp E tf t) := by
  refine ⟨fun pins s σ H Q I h => ?_⟩
  refine Call_ (thn (hf.run pins s σ H _ I h) fun u s1 ⟨y, H1, I1, ry, a, ey, q⟩ => ?_) ht
  subst ey
  obtain rfl : u = Value.ref a := ry
  refine StX.callO_with (thn (ha.run pos pins s1 σ H1 _ I1 q) fun us s2 ⟨vs, H2, I2, r, ⟨dx, fl, hi⟩, q2⟩ => ?_) he hpl
  obtain ⟨ox, od, J, hd⟩ := ins_at I2 hi
  exact ⟨⟨Ca, ox, some od, J, hd⟩, wpAny_call (PySem.W.kco_code I2.kIn J hd c.at_ c.fn c.fi (run_fnRS (us := .ref a :: us) (vs := .ref a :: vs) F hr (hx σ) I2 (.cons rfl r) q2))⟩
def fCallO (Cn : Str) (fb : F) (N : Nat) (g : M R) (fs : List (M R)) : M R := g.bind fun r => match r with
  | .v (.ins c ns ds) => if c = Cn then (evs fs).bind fun rs => callR fb N (.v (.ins c ns ds) :: rs) else fun _ => none
  | _ => fun _ => none
theorem pd_callO {Cn : Str} {k N' : Nat} {ps N : List Str} {fb : F} (D : SpecD X.prog X.w X.K X.mg X.base k Cn "__call__" ps N fb) (hr : Room k X.A) (tk : Takes X W) (hf : PD X C W fe g) (ha : PAs X C W (e :: es) (evs fs)) (hl : fs.length + 1 = ps.length := by rfl) (hN : ps.length ≤ N.length := by decide) (hn : N.length = N' := by rfl)
    (ht : eval (.Call fe (e :: es) [] pos) X.env = (do callWith pos (← eval fe X.env) [] (backTo pos (starEach (e :: es) X.env)) (backToKw pos (keywordEach [] X.env))) := by rfl)
    (he : starEach (e :: es) X.env = (false, eval e X.env) :: starEach es X.env := by rfl) (hpl : (backTo pos (starEach es X.env)).any (·.1) = false := by rfl) : PD X C W (.Call fe (e :: es) [] pos) (fCallO Cn fb N' g fs) := by
  obtain ⟨fA, h1, h2, h3, F⟩ := D.ex
  subst hn
  refine PE.of (pe_callOS (E := fun σ => WE W σ) hf ⟨h1, h2, h3⟩ F hr (fun σ => passAt tk σ) ha ht he hpl) fun σ H Q ⟨G, ρ, z, S, hf, P⟩ => ?_
  refine tD.seq S hf P fun r ρ0 v0 G0 H0 e0 S0 R0 hf2 P0 => ?_
  cases r with
  | v d =>
    cases d with
    | ins c ns ds =>
      simp only at hf2
      by_cases hcx : c = Cn
      · rw [if_pos hcx] at hf2
        subst hcx
        have R0' : Rep X.kw G0 (.ins c ns ds) v0 := R0
        obtain ⟨a, dx, vs0, rfl, ea, rl⟩ := R0
        refine ⟨a, rfl, ?_⟩
        rcases bind_ok hf2 with ⟨rs, ρ1, g1, g2⟩ | ⟨q, ρ1, g1, rfl⟩
        · refine ⟨G0, ρ0, _, S0, g1, fun vs G1 H1 e1 S1 R1 => ⟨⟨dx, _, S1.sub _ _ (e1 _ _ ea)⟩, call_go S1 (.cons (fun d z => by cases z) (show RepR X.kw C G1 H1 σ ρ1 (.v (.ins c ns ds)) (.ref a) from Rep.mono e1 R0') R1) g2 ?_ (by rw [List.length_cons, evs_len g1, hl]) hN⟩⟩
          cases z with
          | ok r ρ' => exact fun v G' H' e S' R' => P0 v G' H' (e1.trans e) S' R'
          | ex e ρ' => exact fun c d G' H' e S' R' => P0 c d G' H' (e1.trans e) S' R'
        · exact ⟨G0, ρ0, _, S0, g1, P0⟩
      · rw [if_neg hcx] at hf2; cases hf2
    | _ => cases hf2
  | _ => cases hf2
/-! ### o + p, both of one class; it may raise -/
def tOpS (X : Cx) (Ca : Addr) (sp : Sp) (E : L2.St → XK) (ta tb : TE) : TE := fun σ H Q => ta σ H fun x H1 => tb σ H1 fun y H2 => ∃ a b dx fl dy fm, x = .ref a ∧ y = .ref b ∧ H2 a = some (.ins Ca dx fl) ∧ H2 b = some (.ins Ca dy fm) ∧ sp [x, y] H2 (fun v H' => (∃ p o, v = .ref p ∧ H' p = some o) ∧ Q v H') (E σ)
theorem pe_opS {op : Operator} {CX : CXT} {k : Nat} {Ca fA : Addr} {sp : Sp} {E : L2.St → XK} {ta tb : TE} (hs : PySem.W.findIn X.K (.ref Ca) (PySem.dunder op.info.2) = some (some (.ref fA))) (hf : PySem.W.isFn X.K (.ref fA) = true) (hc : PySem.W.selfFirst X.K Ca = true)
    (F : FnR X.prog X.w X.K X.mg X.base CX k fA sp) (hr : Room k X.A) (hx : ∀ σ, PassesAt CX X σ (E σ)) (ha : PE X a ta) (hb : PE X b tb) : PE X (.BinOp a op b pos) (tOpS X Ca sp E ta tb) := by
  refine ⟨fun pins s σ H Q I h => ?_⟩
  refine wpAny_BinOp (binT ha hb I h fun v u s2 x y H2 I2 rx ry q => ?_)
  obtain ⟨p, q0, dx, fl, dy, fm, rfl, rfl, ep, eq, hsp⟩ := q
  obtain rfl : v = Value.ref p := rx
  obtain rfl : u = Value.ref q0 := ry
  obtain ⟨ox, od, J, _⟩ := ins_at I2 ep
  obtain ⟨oy, oe, J2, _⟩ := ins_at I2 eq
  obtain ⟨m, hF⟩ := I2.fr
  refine PySem.W.binop_K hF I2.ok.mod.kin J J2.type hc hs hf ?_
  refine wpAny_mono (wpAny_call (run_fnRS (us := [.ref p, .ref q0]) (vs := [.ref p, .ref q0]) F hr (hx σ) I2 (.cons rfl (.cons rfl .nil)) hsp)) (fun r s' z => ?_) fun _ _ z => z
  obtain ⟨w', H', I', rw', ⟨p', o', rfl, _⟩, q⟩ := z
  obtain rfl : r = Value.ref p' := rw'
  exact ⟨.ref p', H', I', rfl, q⟩
def fOpO (Cn : Str) (fb : F) (N : Nat) (f g : M R) : M R := f.bind fun r1 => g.bind fun r2 => match r1, r2 with
  | .v (.ins c ns ds), .v (.ins c' ns' ds') => if c = Cn ∧ c' = Cn then (fun ρ => match callR fb N [.v (.ins c ns ds), .v (.ins c' ns' ds')] ρ with
    | some (.ok (.v (.ins q x y)) ρ') => some (.ok (.v (.ins q x y)) ρ')
    | some (.ok (.n (.ins q x y)) ρ') => some (.ok (.n (.ins q x y)) ρ')
    | some (.ex e ρ') => some (.ex e ρ')
    | _ => none) else fun _ => none
  | _, _ => fun _ => none
theorem pd_opO {op : Operator} {Cn m : Str} {k N' : Nat} {ps N : List Str} {fb : F} (D : SpecD X.prog X.w X.K X.mg X.base k Cn m ps N fb) (hc : PySem.W.selfFirst X.K (He.ga X.K Cn) = true) (hr : Room k X.A) (tk : Takes X W) (ha : PD X C W a f) (hb : PD X C W b h) (hm : PySem.dunder op.info.2 = m := by rfl) (hl : 2 = ps.length := by rfl)
    (hN : ps.length ≤ N.length := by decide) (hn : N.length = N' := by rfl) : PD X C W (.BinOp a op b pos) (fOpO Cn fb N' f h) := by
  obtain ⟨fA, h1, h2, h3, F⟩ := D.ex
  subst hn
  subst hm
  refine PE.of (pe_opS (E := fun σ => WE W σ) h1 h2 hc F hr (fun σ => passAt tk σ) ha hb) fun σ H Q ⟨G, ρ, z, S, hf, P⟩ => ?_
  rcases bind_ok hf with ⟨r1, ρ1, g1, g2⟩ | ⟨q, ρ1, g1, rfl⟩
  · refine ⟨G, ρ, _, S, g1, fun v1 G1 H1 e1 S1 R1 => ?_⟩
    rcases bind_ok g2 with ⟨r2, ρ2, g3, g4⟩ | ⟨q, ρ2, g3, rfl⟩
    · refine ⟨G1, ρ1, _, S1, g3, fun v2 G2 H2 e2 S2 R2 => ?_⟩
      cases r1 with
      | v d1 =>
        cases d1 with
        | ins c ns ds =>
          cases r2 with
          | v d2 =>
            cases d2 with
            | ins c' ns' ds' =>
              simp only at g4
              split at g4
              · rename_i hcc
                obtain ⟨rfl, rfl⟩ := hcc
                simp only at g4
                have R1' : Rep X.kw G2 (.ins c' ns ds) v1 := Rep.mono e2 R1
                have R2' : Rep X.kw G2 (.ins c' ns' ds') v2 := R2
                obtain ⟨p, dx, vs, rfl, ep, rl⟩ := Rep.mono (d := .ins c' ns ds) e2 R1
                obtain ⟨q, dy, us, rfl, eq, ru⟩ := R2
                refine ⟨p, q, dx, _, dy, _, rfl, rfl, S2.sub _ _ ep, S2.sub _ _ eq, ?_⟩
                cases hcl : callR fb N.length [.v (.ins c' ns ds), .v (.ins c' ns' ds')] ρ2 with
                | none => rw [hcl] at g4; cases g4
                | some y =>
                  rw [hcl] at g4
                  refine call_go S2 (.cons (r := .v (.ins c' ns ds)) (fun d z => by cases z) R1' (.cons (r := .v (.ins c' ns' ds')) (fun d z => by cases z) R2' .nil)) hcl ?_ hl hN
                  cases y with
                  | ok r ρ' =>
                    cases r with
                    | v d =>
                      cases d with
                      | ins x y w =>
                        cases g4
                        intro v G' H' e' S' R'
                        refine ⟨?_, P v G' H' ((e1.trans e2).trans e') S' R'⟩
                        obtain ⟨p', dx', vs', rfl, ep', _⟩ := R'
                        exact ⟨p', _, rfl, S'.sub _ _ ep'⟩
                      | _ => cases g4
                    | n d =>
                      cases d with
                      | ins x y w =>
                        cases g4
                        intro v G' H' e' S' R'
                        refine ⟨?_, P v G' H' ((e1.trans e2).trans e') S' R'⟩
                        obtain ⟨p', rfl, _, _, w', _⟩ := R'
                        obtain ⟨o', ho⟩ := w'.there
                        exact ⟨p', _, rfl, ho⟩
                      | _ => cases g4
                    | s i => cases g4
                  | ex q' ρ' =>
                    cases g4
                    exact fun c d G' H' e' S' R' => P c d G' H' ((e1.trans e2).trans e') S' R'
              · cases g4
            | _ => cases g4
          | _ => cases g4
        | _ => cases g4
      | _ => cases g4
    · exact ⟨G1, ρ1, _, S1, g3, fun c d G2 H2 e2 S2 R2 => P c d G2 H2 (e1.trans e2) S2 R2⟩
  · exact ⟨G, ρ, _, S, g1, P⟩
/-! ### str(o) -/
def strO (Cn : Str) (fb : F) (N : Nat) : D → Option R := fun o => match ofC Cn (fun o => ownQ fb N [o]) o with
  | some (.v (.str z)) => some (.v (.str z))
  | _ => none
theorem pd_strO {Cn : Str} {p : Pos} {k N' : Nat} {ps N : List Str} {fb : F} (D : SpecD X.prog X.w X.K X.mg X.base k Cn "__str__" ps N fb) (hr : Room (k + 2) X.A) (hg : Gl X "str") (hm : X.mg "str" = none) (hv : bootBuiltins "str" = some (.type "str")) (ha : PD X C W e f) (hl : 1 = ps.length := by rfl) (hN : ps.length ≤ N.length := by decide)
    (hn : N.length = N' := by rfl) (he : starEach [e] X.env = (false, eval e X.env) :: starEach [] X.env := by rfl) : PD X C W (.Call (.Name "str" p) [e] [] pos) (fS1 (strO Cn fb N') f) := by
  obtain ⟨fA, h1, h2, h3, F⟩ := D.ex
  subst hn
  have hc : CallR X (.type "str") (fun vs H Q => ∃ v p dx fl, vs = [v] ∧ v = .ref p ∧ H p = some (.ins (He.ga X.K Cn) dx fl) ∧ spD X.kw ps N fb [v] H (fun r H' => ∃ z, r = .str z ∧ Q (.str z) H') E0) := by
    rintro pins s σ H xs us Q I r ⟨v, p, dx, fl, rfl, rfl, ep, hsp⟩
    obtain ⟨u, rfl, ru⟩ := vals1 r
    obtain rfl : u = Value.ref p := ru
    obtain ⟨ox, od, J, _⟩ := ins_at I ep
    have hr2 : Room k X.A.in1.in1 := (hr.in1).in1
    refine PySem.W.kso_call hr2.units0 I.kIn J h1 h2 (wpAny_mono (run_sub F ⟨hr2, rfl⟩ I (us := [.ref p]) (vs := [.ref p]) (.cons rfl .nil) hsp) (fun r s' z => ?_) fun _ _ z => z)
    obtain ⟨w', H', I', rw', z, ew, q⟩ := z
    subst ew
    obtain ⟨t, rfl⟩ := (show ∃ t, r = Value.str z t from rw')
    exact ⟨.str z, H', I', ⟨_, rfl⟩, q⟩
  refine PE.of (pe_callTy hc hg hm hv (pa_cons ha pa_nil (hs := he)) (by decide) (by decide) he rfl) fun σ H Q ⟨G, ρ, x, S, hf, P⟩ => ?_
  refine tD.seq S hf P fun r ρ1 v G1 H1 e1 S1 R1 hf2 P1 => ?_
  cases r with
  | v d =>
    simp only at hf2
    cases hk : strO Cn fb N.length d with
    | none => rw [hk] at hf2; cases hf2
    | some q =>
      rw [hk] at hf2
      cases hf2
      unfold strO at hk
      split at hk
      · rename_i z hb
        cases hk
        obtain ⟨ns, ds, rfl, hq⟩ := ofC_ok hb
        have R1' : Rep X.kw G1 (.ins Cn ns ds) v := R1
        obtain ⟨p, dx, vs, rfl, ep, rl⟩ := R1
        exact ⟨_, p, dx, _, rfl, rfl, S1.sub _ _ ep, own_go S1 (RepL.cons R1' RepL.nil) hq hl hN fun v G' H' e' S' R' => ⟨z, R', P1 _ G' H' e' S' rfl⟩⟩
      · cases hk
  | _ => cases hf2
/-! ### isinstance -/
structure InsOk (K : PySem.W.Frag) (C : Addr) : Prop where
  cl : Cls K C
  ha : PySem.W.findIn K (.ref C) "__class__" = some (some (.builtin "object.__class__"))
  hn : PySem.W.specialIn K (.builtin "object.__class__") "__get__" = some (some (.builtin "getset_descriptor.__get__"))
  htk : PySem.W.takesIn K (.builtin "object.__class__") = some true
  hm : PySem.W.mroIn K C (.type "object") = some true
def tyC : D → Option Ty
  | .ty n => some (.bt n)
  | .cls C => some (.ow C)
  | _ => none
def isiO (tb : List (Ty × Ty × Bool)) : List D → Option R
  | [d, c] => (match tyK d with
    | some t => (match tyC c with
      | some u => (match tb.find? fun q => decide (q.1 = t ∧ q.2.1 = u) with
        | some q => some (.v (.bl q.2.2))
        | none => none)
      | none => none)
    | none => none)
  | _ => none
theorem tyK_x {G H : Hp} (e : Same G H) {d : D} {v : V} {t : Ty} (h : tyK d = some t) (w : Vw X.kw G H d v) (ho : ∀ C, t = .ow C → InsOk X.K (He.ga X.K C)) : TyX X.K H v (tyV X.K t) := by
  cases d with
  | ins c ns ds =>
    cases h
    obtain ⟨a, dx, vs, rfl, h1, _⟩ := w
    have k := ho c rfl
    exact .base (.ins h1 k.cl k.ha k.hn k.htk k.hm)
  | non => cases h; exact tyN_ok (d := .non) e rfl w
  | bl b => cases h; exact tyN_ok (d := .bl b) e rfl w
  | int b => cases h; exact tyN_ok (d := .int b) e rfl w
  | str b => cases h; exact tyN_ok (d := .str b) e rfl w
  | lst b => cases h; exact tyN_ok (d := .lst b) e rfl w
  | tup b => cases h; exact tyN_ok (d := .tup b) e rfl w
  | _ => cases h
theorem isiO_ok {tb : List (Ty × Ty × Bool)} (T : ∀ q ∈ tb, PySem.W.kitOne X.K (tyV X.K q.1) (tyV X.K q.2.1) = some q.2.2 ∧ ∀ C, q.1 = .ow C → InsOk X.K (He.ga X.K C)) : OpN X (.builtin "isinstance") (isiO tb) := by
  intro ds r h
  unfold isiO at h
  split at h
  · rename_i d c
    split at h
    · rename_i t ht
      split at h
      · rename_i u hu
        split at h
        · rename_i q hq
          cases h
          have h1 := List.find?_some hq
          have h2 := List.mem_of_find?_eq_some hq
          obtain ⟨e1, e2⟩ : q.1 = t ∧ q.2.1 = u := of_decide_eq_true h1
          obtain ⟨k1, k2⟩ := T q h2
          rw [e1] at k1 k2
          rw [e2] at k1
          refine ⟨_, call_isi, fun C G H σ ρ vs Q S w qq => ?_⟩
          obtain ⟨v, v', rfl, w1, w2⟩ := vws2 w
          refine ⟨v, v', _, _, q.2.2, rfl, ?_, tyK_x S.sub ht w1 k2, k1, ans_v qq S rfl⟩
          cases c with
          | ty n => cases hu; rw [show v' = _ from w2]; exact .ty _
          | cls n => cases hu; rw [show v' = _ from w2]; exact .own _
          | _ => cases hu
        · cases h
      · cases h
    · cases h
  · cases h
/-! ### either reading -/
def fElse {α : Type} (f g : M α) : M α := fun ρ => match f ρ with
  | some x => some x
  | none => g ρ
theorem pd_else (h1 : PD X C W e f) (h2 : PD X C W e g) : PD X C W e (fElse f g) := PE.by fun σ H Q ⟨G, ρ, x, S, hf, P⟩ => by
  unfold fElse at hf
  cases ef : f ρ with
  | some y => rw [ef] at hf; cases hf; exact ⟨_, h1, G, ρ, _, S, ef, P⟩
  | none => rw [ef] at hf; exact ⟨_, h2, G, ρ, _, S, hf, P⟩
theorem pb_else {t u : M Bool} (h1 : PB X C W e t) (h2 : PB X C W e u) : PB X C W e (fElse t u) := PT.by fun σ H Q ⟨G, ρ, x, S, hf, P⟩ => by
  unfold fElse at hf
  cases ef : t ρ with
  | some y => rw [ef] at hf; cases hf; exact ⟨_, h1, G, ρ, _, S, ef, P⟩
  | none => rw [ef] at hf; exact ⟨_, h2, G, ρ, _, S, hf, P⟩
end
end DL
set_option Elab.async false
set_option linter.all false
set_option maxRecDepth 100000
set_option maxHeartbeats 4000000
/-! DM6: objects whose __iter__ says iter(self.f): for, comprehensions, list(o). -/
namespace DL
open PySem PySem.Spec PyProof.Rows L2

/-- a promise that knows how large the heap was -/
def FnN (P : Program) (w : World) (K : PySem.W.Frag) (mg : Str → Option Value) (base : Heap) (k : Nat) (f : Addr) (sp : Nat → Sp) : Prop :=
  ∀ (A : Around) (outer : List Env) (s : Shared) (H : Hp) (us : List Value) (vs : List V) (Q : VK) (E : XK), Room k A → Env0 P w K mg base A outer s H → Vals vs us → sp s.heap.objs.size vs H Q E →
    codeAny (model P w) A (.call (.ref f) ⟨us, []⟩) (CR CX0 outer P w H s Q E) s
theorem fnN_of {P : Program} {w : World} {K : PySem.W.Frag} {mg : Str → Option Value} {base : Heap} {k : Nat} {f : Addr} {name qual : Str} {params : Arguments} {body : List Stmt} {scope : Scope} {dV kV doc pm cdv ct oc : Value} {an od : Option Addr}
    {osl : Array (Option Value)} {N ps : List Str} {sp : Nat → Sp} (lk : K.lookup f = some ⟨oc, od, .func (PySem.W.fnOf name qual params body scope dV kV doc pm an cdv ct), osl⟩) (hcd : PySem.W.codeIn K cdv qual = true) (S : FnScope N ps scope)
    (hb : L2.Binds K (PySem.W.fnOf name qual params body scope dV kV doc pm an cdv ct) ps []) (len : ∀ n vs H Q E, sp n vs H Q E → vs.length = ps.length)
    (hbody : ∀ (A : Around) (outer : List Env) (s : Shared) (H : Hp) (vs : List V) (Q : VK) (E : XK), Room k (A.deeper (envOfC qual scope s.heap.objs.size f cdv)) → sp s.heap.objs.size vs H Q E →
      ∃ t, PSs (cxOf CX0 P w K mg base N qual scope f cdv A outer s H E) body t ∧ t { nx := fun _ H' => Q .non H', rt := Q } (L2.start N vs) H) : FnN P w K mg base (k + 1) f sp := by
  intro A outer s H us vs Q E hr e0 r hsp
  have hl := len _ _ _ _ _ hsp
  have KX : K.In s.heap := e0.mod.kin.keeps fun b o e => (e0.bs b o e).1
  have lim : s.heap.NoLimit := e0.mod.nolimit.keeps fun b o e => (e0.bs b o e).1
  have hul : us.length = ps.length := by rw [← r.length]; exact hl
  have hkind : ∀ y ∈ ps.zip us, scope.names.lookup y.1 = some .local ∨ (scope.names.lookup y.1 = some .cell ∧ ((cellsFrom (s.heap.objs.size + 1) scope.names []).lookup y.1).isSome = true) := fun ⟨n, v⟩ hy => by
    rcases S.par n (List.of_mem_zip hy).1 with q | q
    · exact .inl q
    · exact .inr ⟨q, PySem.W.cellsFrom_some _ _ _ (.inl q)⟩
  have hb' := hb s us KX (by rw [List.append_nil]; exact hul)
  rw [List.append_nil] at hb'
  refine codeAny_call_function hr.depth (KX _ _ lk) rfl S.co S.gen rfl (PySem.W.codeRec_of KX hcd) (hb' _ _ _ _ ?_)
  refine wpAny_newFunctionEnv_cells S.kind hkind fun env he s1 x => ?_
  subst he
  refine ⟨lim.keeps x.toInCall.keep, codeAny_func ?_⟩
  obtain ⟨t, ht, hq⟩ := hbody A outer s H vs Q E (hr.deeper _) hsp
  have I : Inv (cxOf CX0 P w K mg base N qual scope f cdv A outer s H E) [] (L2.start N vs) H s1 := inv_start S hr.hd e0 hl r x
  refine wpAny_mono (ht.run [] s1 (L2.start N vs) H _ I hq) (fun fl s' hs => ?_) fun e s' hs => hs
  have fin : ∀ {σ' : L2.St} {H' : Hp} {v : V} {u : Value}, Inv (cxOf CX0 P w K mg base N qual scope f cdv A outer s H E) [] σ' H' s' → RelV v u → Q v H' → CE outer P w H s Q u s' :=
    fun {σ' H' v u} J rv q => ⟨v, H', J.os, J.bare, J.base, J.hok, rv, q⟩
  cases fl with
  | ret u =>
    obtain ⟨v, σ', H', J, rv, q⟩ := hs
    exact fin J rv q
  | next =>
    obtain ⟨σ', H', J, q⟩ := hs
    exact fin (v := V.non) (u := Value.none) J rfl q
  | brk =>
    obtain ⟨_, _, _, q⟩ := hs
    exact False.elim q
  | cont =>
    obtain ⟨_, _, _, q⟩ := hs
    exact False.elim q
/-- __iter__ hands back a new iterator of the list in the field -/
def spIt (K : PySem.W.Frag) (C : Addr) (fld : Str) (n : Nat) : Sp := fun vs H Q _ => ∃ a dx fs l xs, vs = [.ref a] ∧ H a = some (.ins C dx fs) ∧ fs.lookup fld = some (.ref l) ∧ SqL K H l xs ∧ ∀ it, H it = none → n ≤ it → Q (.ref it) (upd H it (ItO l it 0))
section
variable {X : Cx}
theorem ps_iter {C0 : Addr} {fld : Str} {p1 p2 p3 pos : Pos} {o : Expr} (hg : Gl X "iter") (hm : X.mg "iter" = none) (hc : Cls X.K C0) (hna : NoAttr X.K C0 fld) (ho : PE X o (tVar 0)) (hb : attributeBase o fld X.env (eval o X.env) = eval o X.env := by rfl)
    (hs : starEach [.Attribute o fld p2] X.env = (false, eval (.Attribute o fld p2) X.env) :: starEach [] X.env := by rfl) (hpl : (backTo p3 (starEach [] X.env)).any (·.1) = false := by rfl) (hv : bootBuiltins "iter" = some (.builtin "iter") := by decide +kernel) :
    PSs X [.Return (some (.Call (.Name "iter" p1) [.Attribute o fld p2] [] p3)) pos] (fun D σ H => ∃ a, σ[0]? = some (some (.ref a)) ∧ spIt X.K C0 fld X.s_0.heap.objs.size [.ref a] H D.rt (fun _ _ _ => False)) := by
  have h := pss_one (ps_ret (pos := pos) (pe_callB (p := p1) (pos := p3) ItX.call_iterN hg hm hv (pa_cons (pe_fld (pos := p2) ho hb) pa_nil (hs := hs)) (by decide) (by decide) hs hpl))
  refine ⟨fun pins s σ H D I q => h.run pins s σ H D I ?_⟩
  obtain ⟨a, hσ, a', dx, fs, l, xs, ea, e1, e2, e3, e4⟩ := q
  cases ea
  exact ⟨.ref a, hσ, a, C0, dx, fs, .ref l, rfl, e1, hc, hna, e2, l, xs, rfl, e3, fun it h1 h2 => e4 it h1 h2⟩
end
/-- a class whose __iter__ says so -/
structure ItD (P : Program) (w : World) (K : PySem.W.Frag) (mg : Str → Option Value) (base : Heap) (k : Nat) (x fld : Str) : Prop where
  ex : ∃ f : Addr, PySem.W.findIn K (.ref (He.ga K x)) "__iter__" = some (some (.ref f)) ∧ PySem.W.isFn K (.ref f) = true ∧ FnN P w K mg base k f (spIt K (He.ga K x) fld)
section
variable {X : Cx} {pins : List (Addr × Obj)} {σ : L2.St} {H : Hp} {s : Shared}
/-- iter(o) within the machine -/
theorem own_iter {x fld : Str} {k : Nat} {a dx l : Addr} {fs : List (Str × V)} {xs : List V} {A1 : Around} {Q : Value → Shared → Prop} {E : Value → Shared → Prop} (D : ItD X.prog X.w X.K X.mg X.base k x fld) (sb : Sub X k A1) (I : Inv X pins σ H s)
    (ea : H a = some (.ins (He.ga X.K x) dx fs)) (el : fs.lookup fld = some (.ref l)) (hs : SqL X.K H l xs)
    (h : ∀ it s', Inv X pins σ (upd H it (ItO l it 0)) s' → H it = none → s.heap.objs.size ≤ it → Q (.ref it) s') : wpAny (model X.prog X.w) A1 (pyIter (.ref a)) Q E s := by
  obtain ⟨f, h1, h2, F⟩ := D.ex
  obtain ⟨ox, od, J, _⟩ := ins_at I ea
  obtain ⟨m, hF⟩ := I.fr
  have e0 : Env0 X.prog X.w X.K X.mg X.base A1 X.stack s H := by
    have e := I.env0
    exact ⟨by rw [sb.fr]; exact e.frames, e.mod, e.bs, e.bsz, e.funs, e.frf, e.hok, e.bare⟩
  refine PySem.W.owit_iter hF I.ok.mod.kin J h1 h2 ?_
  refine wpAny_call (codeAny_mono (F A1 X.stack s H [.ref a] [.ref a] (fun v H' => ∃ it, v = .ref it ∧ H it = none ∧ s.heap.objs.size ≤ it ∧ H' = upd H it (ItO l it 0)) E0 sb.room e0 (.cons rfl .nil) ⟨a, dx, fs, l, xs, rfl, ea, el, hs, fun it e1 e2 => ⟨it, rfl, e1, e2, rfl⟩⟩) fun r s' hq => ?_)
  cases r with
  | error e => exact hq.elim
  | ok fl =>
    cases fl with
    | ret u =>
      obtain ⟨v, H', I', rv, it, rfl, n1, n2, rfl⟩ := I.after hq
      obtain rfl : u = Value.ref it := rv
      have eo := itO_get I' (l := l) (i := 0) upd_same
      unfold PySem.W.OwitIt
      exact wpAny_specialOf (name := Str.ofString "__next__") (⟨_, eo, rfl⟩ : s'.TypeIs (.ref it) "list_iterator") PySem.slot_listiter_next.lookup (h it s' I' n1 n2)
    | next => exact False.elim hq
    | brk => exact False.elim hq
    | cont => exact False.elim hq
def iOwn (K : PySem.W.Frag) (C : Addr) (fld : Str) (te : TE) : TI := fun σ H R => te σ H fun x H1 => ∃ a dx fs l xs, x = .ref a ∧ H1 a = some (.ins C dx fs) ∧ fs.lookup fld = some (.ref l) ∧ SqL K H1 l xs ∧ R (Itl K l) H1
theorem pi_own {x fld : Str} {k : Nat} {tg e : Expr} {te : TE} (D : ItD X.prog X.w X.K X.mg X.base k x fld) (hr : Room k X.A) (he : PE X e te) : PI X tg e (iOwn X.K (He.ga X.K x) fld te) := by
  refine ⟨fun pins s σ H R I h => ?_⟩
  refine thn (he.run pins s σ H _ I h) fun u s1 ⟨y, H1, I1, r1, a, dx, fs, l, xs, ey, ea, el, hs, q⟩ => ?_
  subst ey
  obtain rfl : u = Value.ref a := r1
  refine own_iter D (sub0 hr) I1 ea el hs fun it s2 I2 n1 n2 => ?_
  have hi : upd H1 it (ItO l it 0) it = some (ItO l it 0) := upd_same
  have eo := itO_get I2 hi
  have I3 : Inv X pins σ H1 s2 := by
    have z := ItX.inv_drop I2 hi
    rwa [ItX.dropH_upd n1] at z
  refine ⟨it, [it], _, _, H1, rfl, I3, turn_list l it, ⟨_, eo, rfl, rfl⟩, fun b hb => ?_, q⟩
  have e : b = it := by simpa using hb
  rw [e]
  have z := ItX.inv_fp I2 hi (Nat.le_trans I1.sz n2)
  rwa [ItX.dropH_upd n1] at z
end
/-! ### the readings -/
def itersD (tb : List (Str × Str)) : D → Option (List D)
  | .ins c ns ds => (match tb.lookup c with
    | some fld => (match (ns.zip ds).lookup fld with
      | some (.lst xs) => some xs
      | _ => none)
    | none => none)
  | _ => none
/-- the items of an object -/
def srcO (C fld : Str) (f : M R) : M (List D) := f.bind fun r => fun ρ => match r with
  | .v (.ins c ns ds) => if c = C then (match (ns.zip ds).lookup fld with
    | some (.lst xs) => some (.ok xs ρ)
    | _ => none) else none
  | _ => none
section
variable {X : Cx} {C : Ctl} {W : WX} {e tg : Expr} {pos : Pos} {f : M R}
theorem pid_own {x fld : Str} {k : Nat} (D : ItD X.prog X.w X.K X.mg X.base k x fld) (hr : Room k X.A) (he : PD X C W e f) : PId X C W tg e (srcO x fld f) := PI.by fun σ H R ⟨G, ρ, z, S, hf, P⟩ => by
  refine ⟨_, pi_own D hr he, ?_⟩
  rcases bind_ok hf with ⟨r, ρ1, h1, h2⟩ | ⟨q, ρ1, h1, rfl⟩
  · refine ⟨G, ρ, _, S, h1, fun v G1 H1 e1 S1 R1 => ?_⟩
    cases r with
    | v d =>
      cases d with
      | ins c ns ds =>
        simp only at h2
        by_cases hc : c = x
        · rw [if_pos hc] at h2
          subst hc
          cases el : (ns.zip ds).lookup fld with
          | none => rw [el] at h2; cases h2
          | some d =>
            rw [el] at h2
            cases d with
            | lst xs =>
              cases h2
              obtain ⟨a, dx, vs, rfl, ea, rl⟩ := R1
              obtain ⟨w', hw, p, ys, rfl, hp, ry⟩ := zip_fld rl el
              have P' : ∀ J G2 H2, Same G G2 → Sta X.kw C G2 H2 σ ρ1 → (∀ C', JOk X.kw C' G2 J xs) → R J H2 := P
              exact ⟨a, dx, _, p, ys, rfl, S1.sub _ _ ea, hw, SqL.of (S1.sub _ _ hp), P' _ G1 H1 e1 S1 fun C' => jok_list (SqL.of hp) ry⟩
            | _ => cases h2
        · rw [if_neg hc] at h2; cases h2
      | _ => cases h2
    | _ => cases h2
  · exact ⟨G, ρ, _, S, h1, P⟩
end
end DL
set_option Elab.async false
set_option linter.all false
set_option maxRecDepth 100000
set_option maxHeartbeats 4000000
/-! DM7: walks over a list that the caller still holds. -/
namespace DL
open PySem PySem.Spec PyProof.Rows L2

mutual
def D.beq : D → D → Bool
  | .non, .non => true
  | .bl a, .bl b => decide (a = b)
  | .int a, .int b => decide (a = b)
  | .str a, .str b => decide (a = b)
  | .ty a, .ty b => decide (a = b)
  | .obj a, .obj b => decide (a = b)
  | .cls a, .cls b => decide (a = b)
  | .lst a, .lst b => D.beqL a b
  | .tup a, .tup b => D.beqL a b
  | .scr a, .scr b => D.beqL a b
  | .ins a b c, .ins a' b' c' => decide (a = a') && (decide (b = b') && D.beqL c c')
  | .dct a b, .dct a' b' => D.beqL a a' && D.beqL b b'
  | .set a, .set b => D.beqL a b
  | _, _ => false
def D.beqL : List D → List D → Bool
  | [], [] => true
  | a :: as, b :: bs => D.beq a b && D.beqL as bs
  | _, _ => false
end
mutual
theorem D.beq_refl : ∀ a : D, D.beq a a = true
  | .non => rfl
  | .bl a => by simp [D.beq]
  | .int a => by simp [D.beq]
  | .str a => by simp [D.beq]
  | .ty a => by simp [D.beq]
  | .obj a => by simp [D.beq]
  | .cls a => by simp [D.beq]
  | .lst a => by rw [D.beq]; exact D.beqL_refl a
  | .tup a => by rw [D.beq]; exact D.beqL_refl a
  | .scr a => by rw [D.beq]; exact D.beqL_refl a
  | .ins a b c => by simp [D.beq, D.beqL_refl c]
  | .dct a b => by simp [D.beq, D.beqL_refl a, D.beqL_refl b]
  | .set a => by rw [D.beq]; exact D.beqL_refl a
theorem D.beqL_refl : ∀ a : List D, D.beqL a a = true
  | [] => rfl
  | a :: as => by rw [D.beqL, D.beq_refl a, D.beqL_refl as]; rfl
end
mutual
theorem D.eq_of_beq : ∀ a b : D, D.beq a b = true → a = b := fun a b h => by
  cases a <;> cases b <;> first
    | rfl
    | (simp [D.beq] at h; done)
    | (simp only [D.beq, decide_eq_true_eq] at h; subst h; rfl)
    | (rw [D.beq] at h; rw [D.eq_of_beqL _ _ h])
    | (simp only [D.beq, Bool.and_eq_true, decide_eq_true_eq] at h; obtain ⟨rfl, rfl, h⟩ := h; rw [D.eq_of_beqL _ _ h])
    | (simp only [D.beq, Bool.and_eq_true] at h; rw [D.eq_of_beqL _ _ h.1, D.eq_of_beqL _ _ h.2])
theorem D.eq_of_beqL : ∀ a b : List D, D.beqL a b = true → a = b
  | [], [], _ => rfl
  | a :: as, b :: bs, h => by
    rw [D.beqL, Bool.and_eq_true] at h
    rw [D.eq_of_beq a b h.1, D.eq_of_beqL as bs h.2]
  | [], _ :: _, h => by simp [D.beqL] at h
  | _ :: _, [], h => by simp [D.beqL] at h
end
/-- the walked list is as it was -/
def lkB (lk : Option (Nat × List D)) (ρ : EV) : Bool := match lk with
  | none => true
  | some (k, all) => (match ρ.ps[k]? with
    | some d => D.beq d (.lst all)
    | none => false)
def forG (t : Tg) (b : F) (ks : List Nat) (lk : Option (Nat × List D)) : List D → F
  | [] => fun ρ => if lkB lk ρ = true then some (.nx ρ) else none
  | d :: ds => fun ρ => if lkB lk ρ = true then (match t d ρ with
    | none => none
    | some ρ1 => (match b ρ1 with
      | some (.nx ρ2) => forG t b ks lk ds (ρ2.kills ks)
      | some (.ct ρ2) => forG t b ks lk ds (ρ2.kills ks)
      | some (.bk ρ2) => some (.nx ρ2)
      | o => o)) else none
def fForG (src : M (Option (Nat × List D) × List D)) (t : Tg) (b : F) (ks : List Nat) : F := ofM src fun q => forG t b ks q.1 q.2
def compG (vs : List Nat) (tg : Tg) (tt : M Bool) (el : M R) (lk : Option (Nat × List D)) : List D → List D → M (List D)
  | [], acc => fun ρ => if lkB lk ρ = true then some (.ok acc ρ) else none
  | d :: ds, acc => fun ρ => if lkB lk ρ = true then (match tg d ρ with
    | none => none
    | some ρ1 => (match tt ρ1 with
      | some (.ok true ρ2) => (match el ρ2 with
        | some (.ok (.v y) ρ3) => if szOk (acc.length + 1) then compG vs tg tt el lk ds (acc ++ [y]) (ρ3.kills vs) else none
        | _ => none)
      | some (.ok false ρ2) => compG vs tg tt el lk ds acc (ρ2.kills vs)
      | _ => none)) else none
def fCompG (src : M (Option (Nat × List D) × List D)) (vs : List Nat) (tg : Tg) (tt : M Bool) (el : M R) : M R := src.bind fun q => fun ρ => match compG vs tg tt el q.1 q.2 [] (ρ.kills vs) with
  | some (.ok acc ρ') => some (.ok (.n (.lst acc)) ρ')
  | _ => none
def JOkG (K : KW) (C : Ctl) (G : Hp) (J : It) (ds : List D) (lk : Option (Nat × List D)) : Prop := ∀ (i : Nat) G2 H2 σ ρ, Same G G2 → Sta K C G2 H2 σ ρ → lkB lk ρ = true →
  (ds.length ≤ i → J.stop i H2) ∧ ∀ d, ds[i]? = some d → J.go i H2 ∧ ∀ x H3, J.yld i H2 x H3 → ∃ G3, Same G2 G3 ∧ Sta K C G3 H3 σ ρ ∧ Rep K G3 d x
def tIdG (K : KW) (C : Ctl) (W : WX) (src : M (Option (Nat × List D) × List D)) : TI := fun σ H R => ∃ G ρ x, Sta K C G H σ ρ ∧ src ρ = some x ∧ (match x with
  | .ok q ρ' => ∀ J G' H', Same G G' → Sta K C G' H' σ ρ' → (∀ C', C'.A0 = C.A0 → JOkG K C' G' J q.2 q.1) → R J H'
  | .ex e ρ' => ∀ c d G' H', Same G G' → Sta K C G' H' σ ρ' → ExR G' K e c d → W c d σ H')
abbrev PIdG (X : Cx) (C : Ctl) (W : WX) (tg iter : Expr) (src : M (Option (Nat × List D) × List D)) : Prop := PI X tg iter (tIdG X.kw C W src)
/-- the source of a walk: data, or a parameter's list -/
def srcG (f : M R) : M (Option (Nat × List D) × List D) := f.bind fun r => fun ρ => match r with
  | .v d => (match itemsD d with
    | some ds => some (.ok (none, ds) ρ)
    | none => none)
  | .s i => (match ρ.sl[i]? with
    | some (some (.par k)) => (match ρ.ps[k]? with
      | some (.lst ds) => some (.ok (some (k, ds), ds) ρ)
      | _ => none)
    | _ => none)
  | _ => none
section
variable {X : Cx} {C : Ctl} {W : WX} {e tg : Expr} {sts : List Stmt} {pos : Pos} {f : M R} {p : F}
theorem pid_srcG (he : PD X C W e f) : PIdG X C W tg e (srcG f) := PI.by fun σ H R ⟨G, ρ, x, S, hf, P⟩ => by
  rcases bind_ok hf with ⟨r, ρ1, h1, h2⟩ | ⟨q, ρ1, h1, rfl⟩
  · cases r with
    | v d =>
      simp only at h2
      cases ei : itemsD d with
      | none => rw [ei] at h2; cases h2
      | some ds =>
        rw [ei] at h2
        cases h2
        have z := pid_list (tg := tg) he
        refine ⟨_, z, G, ρ, .ok ds ρ1, S, ?_, fun J G' H' e1 S1 jk => P J G' H' e1 S1 fun C' _ i G2 H2 σ ρ e2 S2 _ => jk C' i G2 H2 σ ρ e2 S2⟩
        unfold srcD M.bind
        rw [h1]
        simp only [ei]
    | s i =>
      simp only at h2
      split at h2
      · rename_i k hk
        split at h2
        · rename_i ds hd
          cases h2
          refine ⟨_, pi_list he, G, ρ, _, S, h1, fun v G1 H1 e1 S1 R1 => ?_⟩
          obtain ⟨v', hv, a, rfl, ha⟩ := S1.slot i _ hk
          have R1' : σ[i]? = some (some v) := R1
          rw [hv] at R1'
          cases R1'
          obtain ⟨ga, xs, hx, rx⟩ := S1.par k a _ ha hd
          refine ⟨a, rfl, ⟨xs, SqL.of hx⟩, P (Itl X.kw a) G1 H1 e1 S1 fun C' hC j G2 H2 σ2 ρ2 e2 S2 hl => ?_⟩
          unfold lkB at hl
          simp only at hl
          split at hl
          · rename_i d2 hd2
            have ed := D.eq_of_beq _ _ hl
            subst ed
            obtain ⟨ga2, xs2, hx2, rx2⟩ := S2.par k a _ (by rw [hC]; exact ha) hd2
            refine ⟨fun hj => ⟨xs2, SqL.of hx2, by rw [← rx2.length]; exact hj⟩, fun d hd => ?_⟩
            obtain ⟨u, q1, q2⟩ := rx2.get hd
            refine ⟨⟨xs2, u, SqL.of hx2, q1⟩, fun x H3 y => ?_⟩
            obtain ⟨eH, y⟩ := y
            subst eH
            have := y xs2 (SqL.of hx2)
            rw [q1] at this
            cases this
            exact ⟨G2, Same.refl _, S2, q2⟩
          · cases hl
        · cases h2
      · cases h2
    | _ => cases h2
  · exact ⟨_, pi_list he, G, ρ, _, S, h1, P⟩
theorem jok_enumH {K : KW} {C : Ctl} {G2 H2 : Hp} {σ : L2.St} {ρ : EV} {p : Addr} {xs : List V} {ds : List D} (hq : SqL K H2 p xs) (r : RepL K G2 ds xs) (S : Sta K C G2 H2 σ ρ) (i : Nat) :
    ((ds.mapIdx fun i d => D.tup [.int (i : Nat), d]).length ≤ i → (Ite K p).stop i H2) ∧ ∀ d, (ds.mapIdx fun i d => D.tup [.int (i : Nat), d])[i]? = some d → (Ite K p).go i H2 ∧ ∀ x H3, (Ite K p).yld i H2 x H3 → ∃ G3, Same G2 G3 ∧ Sta K C G3 H3 σ ρ ∧ Rep K G3 d x := by
  refine ⟨fun hi => ⟨xs, hq, by rw [← r.length]; simpa using hi⟩, fun d hd => ?_⟩
  rw [List.getElem?_mapIdx] at hd
  cases e1 : ds[i]? with
  | none => rw [e1] at hd; cases hd
  | some d0 =>
    rw [e1] at hd
    cases hd
    obtain ⟨v, hv, rv⟩ := r.get e1
    refine ⟨⟨xs, v, hq, hv⟩, fun x H3 ⟨T, y, ex, hT, e3, hy⟩ => ?_⟩
    subst ex
    subst e3
    have := hy xs hq
    rw [hv] at this; cases this
    obtain ⟨e4, S4, R4⟩ := S.newTup hT (ds := [.int (i : Nat), d0]) (xs := [.int (i : Nat), v]) (RepL.cons rfl (RepL.cons rv RepL.nil))
    exact ⟨_, e4, S4, R4⟩
def srcEG (f : M R) : M (Option (Nat × List D) × List D) := f.bind fun r => fun ρ => match r with
  | .v (.lst ds) => some (.ok (none, ds.mapIdx fun i d => D.tup [.int (i : Nat), d]) ρ)
  | .s i => (match ρ.sl[i]? with
    | some (some (.par k)) => (match ρ.ps[k]? with
      | some (.lst ds) => some (.ok (some (k, ds), ds.mapIdx fun i d => D.tup [.int (i : Nat), d]) ρ)
      | _ => none)
    | _ => none)
  | _ => none
theorem pid_enumG {a : Expr} {p tpos : Pos} {elts : List Expr} {kk : Nat} (hg : Gl X "enumerate") (hm : X.mg "enumerate" = none) (ha : PD X C W a f) (hs : starEach [a] X.env = [(false, eval a X.env)] := by rfl) : PIdG X C W (.Tuple elts kk tpos) (.Call (.Name "enumerate" p) [a] [] pos) (srcEG f) := PI.by fun σ H R ⟨G, ρ, x, S, hf, P⟩ => by
  refine ⟨_, pi_enum hg hm (pa_cons ha pa_nil hs) hs, ?_⟩
  rcases bind_ok hf with ⟨r, ρ1, h1, h2⟩ | ⟨q, ρ1, h1, rfl⟩
  · refine ⟨G, ρ, _, S, h1, fun v G1 H1 e1 S1 R1 => ?_⟩
    cases r with
    | v d =>
      cases d with
      | lst ds =>
        cases h2
        obtain ⟨q, xs, ev, hp, r1⟩ := R1
        exact ⟨q, xs, by rw [ev], SqL.of (S1.sub _ _ hp), P (Ite X.kw q) G1 H1 e1 S1 fun C' _ i G2 H2 σ ρ e2 S2 _ => jok_enum (SqL.of hp) r1 i G2 H2 σ ρ e2 S2⟩
      | _ => cases h2
    | s i =>
      simp only at h2
      split at h2
      · rename_i k hk
        split at h2
        · rename_i ds hd
          cases h2
          obtain ⟨v', hv, a, rfl, ha⟩ := S1.slot i _ hk
          have R1' : σ[i]? = some (some v) := R1
          rw [hv] at R1'
          cases R1'
          obtain ⟨ga, xs, hx, rx⟩ := S1.par k a _ ha hd
          refine ⟨a, xs, rfl, SqL.of hx, P (Ite X.kw a) G1 H1 e1 S1 fun C' hC j G2 H2 σ2 ρ2 e2 S2 hl => ?_⟩
          unfold lkB at hl
          simp only at hl
          split at hl
          · rename_i d2 hd2
            have ed := D.eq_of_beq _ _ hl
            subst ed
            obtain ⟨ga2, xs2, hx2, rx2⟩ := S2.par k a _ (by rw [hC]; exact ha) hd2
            exact jok_enumH (SqL.of (K := X.K) hx2) rx2 S2 j
          · cases hl
        · cases h2
      · cases h2
    | _ => cases h2
  · exact ⟨G, ρ, _, S, h1, P⟩
theorem pq_forG {iter tg : Expr} {src : M (Option (Nat × List D) × List D)} {g : Tg} {sl : List Nat} (hp : PassesOwn (model X.prog X.w) X.A X.env X.xe) (hc : X.calm = true) (hi : PIdG X C W tg iter src) (hg : PGd X C tg g sl) (hb : PQs X C W sts p)
    (hs : ∀ x, foldedSetIterable iter X.env x = pure x := by intro _; rfl) (ks : List Nat) : PQ X C W (.For tg iter sts [] pos) (fForG src g p ks) := pq_of (ps_for hp hc hi hg hb hs) fun D σ H ⟨G, ρ, x, S, hf, P⟩ => by
  rcases ofM_ok hf with ⟨⟨lk, ds⟩, ρ1, h1, h2⟩ | ⟨q, ρ1, h1, rfl⟩
  · refine ⟨G, ρ, _, S, h1, fun J G1 H1 e1 S1 jk => ?_⟩
    have P1 : SPost X.kw C W G1 x D := P.mono e1
    refine ⟨fun i m σ' H' => i ≤ ds.length ∧ m = ds.length - i ∧ ∃ G' ρ', Same G1 G' ∧ Sta X.kw C G' H' σ' ρ' ∧ forG g p ks lk (ds.drop i) ρ' = some x, ⟨ds.length, Nat.zero_le _, rfl, G1, ρ1, Same.refl _, S1, h2⟩, ?_⟩
    rintro i m σ' H' ⟨hi, rfl, G', ρ', e', S', hx⟩
    have hlk : lkB lk ρ' = true := by
      cases hdr : ds.drop i <;> (rw [hdr] at hx; unfold forG at hx; split at hx <;> first | assumption | cases hx)
    obtain ⟨j1, j2⟩ := jk C rfl i G' H' σ' ρ' e' S' hlk
    by_cases hlt : i < ds.length
    · obtain ⟨go, jy⟩ := j2 ds[i] (List.getElem?_eq_getElem hlt)
      have hd : ds.drop i = ds[i] :: ds.drop (i + 1) := List.drop_eq_getElem_cons hlt
      rw [hd] at hx
      refine .inr ⟨go, fun σ2 H2 => ∃ G2 ρ2, Same G1 G2 ∧ Sta X.kw C G2 H2 σ2 ρ2 ∧ forG g p ks lk (ds.drop (i + 1)) ρ2 = some x, fun σ2 H2 ⟨G2, ρ2, z⟩ => ⟨ds.length - (i + 1), by omega, hlt, rfl, G2, ρ2, z⟩, fun v H3 y => ?_⟩
      obtain ⟨G3, e3, S3, R3⟩ := jy v H3 y
      unfold forG at hx
      rw [if_pos hlk] at hx
      cases e4 : g ds[i] ρ' with
      | none => rw [e4] at hx; cases hx
      | some ρ4 =>
        rw [e4] at hx
        refine ⟨G3, ρ', ds[i], ρ4, S3, R3, e4, fun σ4 G4 H4 e5 S4 _ => ?_⟩
        have hx' : (match p ρ4 with
          | some (.nx ρ2) => forG g p ks lk (ds.drop (i + 1)) (ρ2.kills ks)
          | some (.ct ρ2) => forG g p ks lk (ds.drop (i + 1)) (ρ2.kills ks)
          | some (.bk ρ2) => some (.nx ρ2)
          | o => o) = some x := hx
        cases e6 : p ρ4 with
        | none => rw [e6] at hx'; cases hx'
        | some y6 =>
          rw [e6] at hx'
          refine ⟨G4, ρ4, y6, S4, e6, ?_⟩
          have e14 : Same G1 G4 := (e'.trans e3).trans e5
          cases y6 with
          | nx ρ5 => exact fun σ5 G5 H5 e7 S5 => ⟨G5, ρ5.kills ks, e14.trans e7, S5.kills ks, hx'⟩
          | ct ρ5 => exact fun σ5 G5 H5 e7 S5 => ⟨G5, ρ5.kills ks, e14.trans e7, S5.kills ks, hx'⟩
          | bk ρ5 => cases hx'; exact P1.mono e14
          | ret r ρ5 => cases hx'; exact P1.mono e14
          | ex r ρ5 => cases hx'; exact P1.mono e14
    · have e : i = ds.length := by omega
      subst e
      rw [List.drop_length] at hx
      unfold forG at hx
      rw [if_pos hlk] at hx
      cases hx
      exact .inl ⟨j1 (Nat.le_refl _), P1 σ' G' H' e' S'⟩
  · exact ⟨G, ρ, _, S, h1, fun c d G' H' e' S' R' => P c d σ G' H' e' S' R'⟩
theorem lc_goG {src : M (Option (Nat × List D) × List D)} {vs sl : List Nat} {tgf : Tg} {el : M R} {tt : M Bool} {σ : L2.St} {H : Hp} {Q : VK} (q0 : tD X.kw C W (fCompG src vs tgf tt el) σ H Q) (hsl : ∀ i ∈ sl, i ∈ vs) :
    tLc (tIdG X.kw C W src) (fun v σ H Q => ∃ C', tGd X.kw C' tgf sl v σ H Q) (fun σ H Q => ∃ C', tDT X.kw C' W0 tt σ H Q) (fun σ H Q => ∃ C', tD X.kw C' W0 el σ H Q) vs σ H Q := by
  obtain ⟨G, ρ, x, S, hf, P⟩ := q0
  rcases bind_ok hf with ⟨⟨lk, ds⟩, ρ1, h1, h2⟩ | ⟨q, ρ1, h1, rfl⟩
  · refine ⟨G, ρ, _, S, h1, fun J G1 H1 e1 S1 jk D hD => ?_⟩
    have h3 : ∃ acc ρ', compG vs tgf tt el lk ds [] (ρ1.kills vs) = some (.ok acc ρ') ∧ x = .ok (.n (.lst acc)) ρ' := by
      have h2' : (match compG vs tgf tt el lk ds [] (ρ1.kills vs) with
        | some (.ok acc ρ') => some (XR.ok (R.n (.lst acc)) ρ')
        | _ => none) = some x := h2
      split at h2'
      · rename_i acc ρ' hq
        exact ⟨acc, ρ', hq, (Option.some.inj h2').symm⟩
      · cases h2'
    obtain ⟨accF, ρF, h3, rfl⟩ := h3
    have fr := S1.free hD
    have g0D : C.G0 D = none := by
      cases z : C.G0 D with
      | none => rfl
      | some o => rw [S1.old D o z] at fr; exact absurd fr.2.1 (by simp)
    have S2 : Sta X.kw C G1 (upd H1 D (.lst [])) σ (ρ1.kills vs) := (S1.lay hD _).kills vs
    have L2' : Loose C G1 (upd H1 D (.lst [])) σ (ρ1.kills vs) D [] := ⟨upd_same, fr.2.1, fr.1, fun i d q1 q2 => by
      obtain ⟨v, h4, a, e5, _, _, w⟩ := S1.slot i _ (kills_out q1).2
      rw [q2] at h4; cases h4; cases e5
      obtain ⟨u, hu⟩ := w.there
      rw [hD] at hu; cases hu⟩
    refine ⟨fun i m Hh => i ≤ ds.length ∧ m = ds.length - i ∧ ∃ G' ρ' acc xs, Same G1 G' ∧ Sta X.kw C G' Hh σ ρ' ∧ Loose C G' Hh σ ρ' D xs ∧ RepL X.kw G' acc xs ∧ (∀ (j : Nat) s, ρ'.sl[j]? = some (some s) → j ∉ vs) ∧ compG vs tgf tt el lk (ds.drop i) acc ρ' = some (.ok accF ρF),
      ⟨ds.length, Nat.zero_le _, rfl, G1, ρ1.kills vs, [], [], Same.refl _, S2, L2', RepL.nil, fun j s hj => (kills_out hj).1, h3⟩, ?_⟩
    rintro i m Hh ⟨hi, rfl, G', ρ', acc, xs, e', S', L', r', nv, hx⟩
    have hlk : lkB lk ρ' = true := by
      cases hdr : ds.drop i <;> (rw [hdr] at hx; unfold compG at hx; split at hx <;> first | assumption | cases hx)
    by_cases hlt : i < ds.length
    · -- a turn
      have SL : Sta X.kw (C.lock D (.lst xs)) G' Hh σ ρ' := S'.lock L'
      obtain ⟨j1, j2⟩ := jk (C.lock D (.lst xs)) rfl i G' Hh σ ρ' e' SL hlk
      obtain ⟨go, jy⟩ := j2 ds[i] (List.getElem?_eq_getElem hlt)
      have hd : ds.drop i = ds[i] :: ds.drop (i + 1) := List.drop_eq_getElem_cons hlt
      rw [hd] at hx
      refine .inr ⟨go, fun Hh2 => ∃ G2 ρ2 acc2 xs2, Same G1 G2 ∧ Sta X.kw C G2 Hh2 σ ρ2 ∧ Loose C G2 Hh2 σ ρ2 D xs2 ∧ RepL X.kw G2 acc2 xs2 ∧ (∀ (j : Nat) s, ρ2.sl[j]? = some (some s) → j ∉ vs) ∧ compG vs tgf tt el lk (ds.drop (i + 1)) acc2 ρ2 = some (.ok accF ρF),
        fun Hh2 z => ⟨ds.length - (i + 1), by omega, hlt, rfl, z⟩, fun v H3 y => ?_⟩
      obtain ⟨G3, e3, S3, R3⟩ := jy v H3 y
      unfold compG at hx
      rw [if_pos hlk] at hx
      cases e4 : tgf ds[i] ρ' with
      | none => rw [e4] at hx; cases hx
      | some ρ4 =>
        rw [e4] at hx
        have S3w : Sta X.kw (C.lock D (.lst xs)) G3 H3 (wipe σ vs) ρ' := S3.resig (wipe_length _ _) fun j s hj => wipe_out' (nv j s hj)
        refine ⟨C.lock D (.lst xs), G3, ρ', ds[i], ρ4, S3w, R3, e4, fun σ4 G4 H4 e5 S4 b4 => ?_⟩
        have b4' : But vs (wipe σ vs) σ4 := b4.mono hsl
        refine ⟨wipe_same b4', ?_⟩
        have hx' : (match tt ρ4 with
          | some (.ok true ρ2) => (match el ρ2 with
            | some (.ok (.v y) ρ3) => if szOk (acc.length + 1) then compG vs tgf tt el lk (ds.drop (i + 1)) (acc ++ [y]) (ρ3.kills vs) else none
            | _ => none)
          | some (.ok false ρ2) => compG vs tgf tt el lk (ds.drop (i + 1)) acc (ρ2.kills vs)
          | _ => none) = some (.ok accF ρF) := hx
        -- back to the slots ahead of the turn
        have home : ∀ {G5 H5 ρ5}, Sta X.kw (C.lock D (.lst xs)) G5 H5 σ4 ρ5 → Sta X.kw C G5 H5 σ (ρ5.kills vs) ∧ Loose C G5 H5 σ (ρ5.kills vs) D xs := fun {G5 H5 ρ5} S5 => by
          have S6 : Sta X.kw (C.lock D (.lst xs)) G5 H5 σ (ρ5.kills vs) := (S5.kills vs).resig (by rw [b4'.1, wipe_length]) fun j s hj => by
            have nj := (kills_out hj).1
            rw [b4'.2 j nj, wipe_out' nj]
          exact S6.unlock fr.1 g0D S'.pin
        cases e6 : tt ρ4 with
        | none => rw [e6] at hx'; cases hx'
        | some y6 =>
          rw [e6] at hx'
          cases y6 with
          | ex r ρ5 => cases hx'
          | ok bb ρ5 =>
            refine ⟨C.lock D (.lst xs), G4, ρ4, _, S4, e6, fun G5 H5 e7 S5 => ?_⟩
            have e15 : Same G1 G5 := ((e'.trans e3).trans e5).trans e7
            cases bb with
            | false =>
              obtain ⟨S6, L6⟩ := home S5
              refine iteF ?_
              exact ⟨G5, _, acc, xs, e15, S6, L6, r'.mono ((e3.trans e5).trans e7), fun j s hj => (kills_out hj).1, hx'⟩
            | true =>
              refine iteT ?_
              have hx2 : (match el ρ5 with
                | some (.ok (.v y) ρ3) => if szOk (acc.length + 1) then compG vs tgf tt el lk (ds.drop (i + 1)) (acc ++ [y]) (ρ3.kills vs) else none
                | _ => none) = some (.ok accF ρF) := hx'
              cases e8 : el ρ5 with
              | none => rw [e8] at hx2; cases hx2
              | some y8 =>
                rw [e8] at hx2
                cases y8 with
                | ex r ρ6 => cases hx2
                | ok r ρ6 =>
                  cases r with
                  | v y =>
                    have hx3 : (if szOk (acc.length + 1) then compG vs tgf tt el lk (ds.drop (i + 1)) (acc ++ [y]) (ρ6.kills vs) else none) = some (.ok accF ρF) := hx2
                    by_cases hz : szOk (acc.length + 1)
                    · rw [if_pos hz] at hx3
                      refine ⟨C.lock D (.lst xs), G5, ρ5, _, S5, e8, fun u G6 H6 e9 S6 R6 => ?_⟩
                      obtain ⟨S7, L7⟩ := home S6
                      have r6 : RepL X.kw G6 acc xs := r'.mono (((e3.trans e5).trans e7).trans e9)
                      have hz2 := hz.line
                      rw [r6.length] at hz2
                      refine ⟨xs, L7.at_, hz2, G6, _, acc ++ [y], xs ++ [u], e15.trans e9, ?_, ?_, r6.append (RepL.cons R6 RepL.nil), fun j s hj => (kills_out hj).1, hx3⟩
                      · -- the list at D is written
                        refine S7.turn (fun b o q => ?_) (Same.refl _) (fun a o q => .inl q) (fun b o q _ _ => ?_) (fun j d a q1 q2 => ?_) (fun a ha => ?_)
                        · rw [upd_ne (fun z => by rw [z, L7.g] at q; cases q)]; exact S7.sub b o q
                        · rename_i q1 q2
                          obtain ⟨o', q1⟩ := q1
                          rw [upd_ne (fun z => by rw [z, L7.h0] at q1; cases q1)]; exact q
                        · obtain ⟨v7, h7, a7, e77, g7, _, w7⟩ := S7.slot j _ q1
                          rw [q2] at h7; cases h7; cases e77
                          exact ⟨g7, upd_ne (fun z => by subst z; exact L7.ns j d q1 q2)⟩
                        · refine ⟨(S7.parAt ha).1, upd_ne (fun z => by
                            obtain ⟨o', q1⟩ := S7.pin a ha
                            rw [z, L7.h0] at q1; cases q1)⟩
                      · exact ⟨upd_same, L7.g, L7.h0, L7.ns⟩
                    · rw [if_neg hz] at hx3; cases hx3
                  | _ => cases hx2
    · have ei : i = ds.length := by omega
      subst ei
      rw [List.drop_length] at hx
      unfold compG at hx
      rw [if_pos hlk] at hx
      cases hx
      obtain ⟨j1, _⟩ := jk C rfl ds.length G' Hh σ ρF e' S' hlk
      refine .inl ⟨j1 (Nat.le_refl _), P (.ref D) G' Hh (e1.trans e') S' ⟨D, rfl, L'.g, L'.h0, ⟨xs, L'.at_, r'⟩, L'.ns⟩⟩
  · exact ⟨G, ρ, _, S, h1, P⟩
theorem pd_lcG {elt tg iter : Expr} {ifs : List Expr} {scope : Scope} {own : List (Str × Nat)} {src : M (Option (Nat × List D) × List D)} {tgf : Tg} {tt : M Bool} {el : M R} {sl : List Nat} (hc : X.calm = true) (hN : X.N.Nodup) (hi : PIdG X C W tg iter src) (ok : BlkOk X.N X.env.scope scope own) (hsl : ∀ i ∈ sl, i ∈ own.map (·.2))
    (hg : ∀ (C' : Ctl) (s : Shared) (H : Hp) (c : Addr) (cl : List (Str × Addr)) (fp : List Addr), PGd (X.blk s H scope (compEnvC scope cl c X.env) fp) C' tg tgf sl)
    (ht : ∀ (C' : Ctl) (s : Shared) (H : Hp) (c : Addr) (cl : List (Str × Addr)) (fp : List Addr), PTd (X.blk s H scope (compEnvC scope cl c X.env) fp) C' W0 ifs tt)
    (he : ∀ (C' : Ctl) (s : Shared) (H : Hp) (c : Addr) (cl : List (Str × Addr)) (fp : List Addr), PD (X.blk s H scope (compEnvC scope cl c X.env) fp) C' W0 elt el) (hs : ∀ x, foldedSetIterable iter X.env x = pure x := by intro _; rfl) :
    PD X C W (.ListComp elt [⟨tg, iter, ifs, 0⟩] scope pos) (fCompG src (own.map (·.2)) tgf tt el) :=
  PE.of (pe_lc hc hN hi ok (fun s H c cl fp => PG.ex fun C' => hg C' s H c cl fp) (fun s H c cl fp => PTs.ex fun C' => ht C' s H c cl fp) (fun s H c cl fp => PE.ex fun C' => he C' s H c cl fp) hs) fun σ H Q q => lc_goG q hsl
theorem pq_setLcG {i : Nat} {y : Str} {py spos : Pos} {elt tg iter : Expr} {ifs : List Expr} {scope : Scope} {own : List (Str × Nat)} {src : M (Option (Nat × List D) × List D)} {tgf : Tg} {tt : M Bool} {el : M R} {sl : List Nat} (hc : X.calm = true) (hN : X.N.Nodup) (hy : X.N[i]? = some y) (hyl : X.env.scope.names.lookup y = some .local)
    (hsw : swapsWith (.ListComp elt [⟨tg, iter, ifs, 0⟩] scope pos) (some (.Name y py)) spos.line X.env = pure true) (hi : PIdG X C W tg iter src) (ok : BlkOk X.N X.env.scope scope own) (hsl : ∀ i ∈ sl, i ∈ own.map (·.2))
    (hg : ∀ (C' : Ctl) (s : Shared) (H : Hp) (c : Addr) (cl : List (Str × Addr)) (fp : List Addr), PGd (X.blk s H scope (compEnvC scope cl c X.env) fp) C' tg tgf sl)
    (ht : ∀ (C' : Ctl) (s : Shared) (H : Hp) (c : Addr) (cl : List (Str × Addr)) (fp : List Addr), PTd (X.blk s H scope (compEnvC scope cl c X.env) fp) C' W0 ifs tt)
    (he : ∀ (C' : Ctl) (s : Shared) (H : Hp) (c : Addr) (cl : List (Str × Addr)) (fp : List Addr), PD (X.blk s H scope (compEnvC scope cl c X.env) fp) C' W0 elt el) (hs : ∀ x, foldedSetIterable iter X.env x = pure x := by intro _; rfl) :
    PQ X C W (.Assign [.Name y py] (.ListComp elt [⟨tg, iter, ifs, 0⟩] scope pos) spos) (fSetN i (fCompG src (own.map (·.2)) tgf tt el)) :=
  pq_of (ps_setLc hc hN hy hyl hsw hi ok (fun s H c cl fp => PG.ex fun C' => hg C' s H c cl fp) (fun s H c cl fp => PTs.ex fun C' => ht C' s H c cl fp) (fun s H c cl fp => PE.ex fun C' => he C' s H c cl fp) hs) fun D σ H q0 => by
    have q1 := tS.ofE (Q := fun x H1 => gName i x σ H1 D.nx) q0 fun r ρ1 x v G1 H1 S1 R1 h2 P => by
      cases r with
      | v d => cases h2; exact P _ G1 H1 (Same.refl _) (S1.setVal R1 i)
      | n d => cases h2; exact P _ G1 H1 (Same.refl _) (S1.setOwn R1 i)
      | s j => cases h2
    exact lc_goG q1 hsl
theorem pq_setLcVG {i : Nat} {y : Str} {py spos : Pos} {elt tg iter : Expr} {ifs : List Expr} {scope : Scope} {own : List (Str × Nat)} {src : M (Option (Nat × List D) × List D)} {tgf : Tg} {tt : M Bool} {el : M R} {sl : List Nat} (hc : X.calm = true) (hN : X.N.Nodup) (hy : X.N[i]? = some y) (hyl : X.env.scope.names.lookup y = some .local)
    (hsw : swapsWith (.ListComp elt [⟨tg, iter, ifs, 0⟩] scope pos) (some (.Name y py)) spos.line X.env = pure true) (hi : PIdG X C W tg iter src) (ok : BlkOk X.N X.env.scope scope own) (hsl : ∀ i ∈ sl, i ∈ own.map (·.2))
    (hg : ∀ (C' : Ctl) (s : Shared) (H : Hp) (c : Addr) (cl : List (Str × Addr)) (fp : List Addr), PGd (X.blk s H scope (compEnvC scope cl c X.env) fp) C' tg tgf sl)
    (ht : ∀ (C' : Ctl) (s : Shared) (H : Hp) (c : Addr) (cl : List (Str × Addr)) (fp : List Addr), PTd (X.blk s H scope (compEnvC scope cl c X.env) fp) C' W0 ifs tt)
    (he : ∀ (C' : Ctl) (s : Shared) (H : Hp) (c : Addr) (cl : List (Str × Addr)) (fp : List Addr), PD (X.blk s H scope (compEnvC scope cl c X.env) fp) C' W0 elt el) (hs : ∀ x, foldedSetIterable iter X.env x = pure x := by intro _; rfl) :
    PQ X C W (.Assign [.Name y py] (.ListComp elt [⟨tg, iter, ifs, 0⟩] scope pos) spos) (fSetV i (fCompG src (own.map (·.2)) tgf tt el)) :=
  pq_of (ps_setLc hc hN hy hyl hsw hi ok (fun s H c cl fp => PG.ex fun C' => hg C' s H c cl fp) (fun s H c cl fp => PTs.ex fun C' => ht C' s H c cl fp) (fun s H c cl fp => PE.ex fun C' => he C' s H c cl fp) hs) fun D σ H q0 => by
    have q1 := tS.ofE (Q := fun x H1 => gName i x σ H1 D.nx) q0 fun r ρ1 x v G1 H1 S1 R1 h2 P => by
      cases r with
      | v d => cases h2; exact P _ G1 H1 (Same.refl _) (S1.setVal R1 i)
      | n d =>
        cases h2
        obtain ⟨G2, e2, S2, R2⟩ := S1.settle R1
        exact P _ G2 H1 e2 (S2.setVal R2 i)
      | s j => cases h2
    exact lc_goG q1 hsl
end
end DL
set_option Elab.async false
set_option linter.all false
set_option maxRecDepth 100000
set_option maxHeartbeats 4000000
/-! DM8: the facts of own classes, read by a Hook. -/
namespace DL
open PySem PySem.Spec PyProof.Rows L2

/-! ### facts as Bools -/
section
variable {P : Program} {w : World} {K : PySem.W.Frag} {C : Addr}
theorem cread_b (N : PySem.W.readsIn K C (.type "type") = true) : ClX.CRead K C (.type "type") := by
  refine ⟨N, ?_⟩
  have h := N
  unfold PySem.W.readsIn at h
  obtain ⟨h, _⟩ := He.ba h
  obtain ⟨h, _⟩ := He.ba h
  obtain ⟨h, h3⟩ := He.ba h
  obtain ⟨_, h2⟩ := He.ba h
  unfold PySem.W.specialIn
  rw [beq_iff_eq.mp h2, Option.bind_some]
  exact beq_iff_eq.mp h3
/-- the getter of a property -/
def pgA (K : PySem.W.Frag) (C : Addr) (m : Str) : Addr := match PySem.W.recIn K (He.ma K C m) "property" with
  | some (.ref f :: _) => f
  | _ => 0
def propB (K : PySem.W.Frag) (C : Addr) (m : Str) : Bool := decide (PySem.W.findIn K (.ref C) m = some (some (.ref (He.ma K C m)))) && (decide (PySem.W.specialIn K (.ref (He.ma K C m)) "__get__" = some (some (.builtin "property.__get__"))) &&
  (decide (PySem.W.takesIn K (.ref (He.ma K C m)) = some true) && (match PySem.W.recIn K (He.ma K C m) "property" with
    | some (.ref _ :: _) => true
    | _ => false)))
theorem prop_b {m : Str} (h : propB K C m = true) : PropOf K C m (He.ma K C m) (pgA K C m) := by
  obtain ⟨h1, h⟩ := He.ba h
  obtain ⟨h2, h⟩ := He.ba h
  obtain ⟨h3, h4⟩ := He.ba h
  refine ⟨of_decide_eq_true h1, of_decide_eq_true h2, of_decide_eq_true h3, ?_⟩
  unfold pgA
  split at h4
  · rename_i f r e
    exact ⟨r, by rw [e]⟩
  · cases h4
def conV (K : PySem.W.Frag) (C : Addr) (f : Str) : Value := match PySem.W.findIn K (.ref C) f with
  | some (some u) => u
  | _ => .none
def intIs (n : Int) : Value → Bool
  | .int i _ => decide (i = n)
  | _ => false
theorem intIs_ok {n : Int} {u : Value} (h : intIs n u = true) : RelV (.int n) u := by
  unfold intIs at h
  split at h
  · rename_i i t
    have e := of_decide_eq_true h
    exact ⟨t, by rw [e]⟩
  · cases h
def conB (K : PySem.W.Frag) (C : Addr) (f : Str) (n : Int) : Bool := decide (PySem.W.findIn K (.ref C) f = some (some (conV K C f))) && (intIs n (conV K C f) && (decide (PySem.W.specialIn K (conV K C f) "__get__" = some none) && decide (PySem.W.copiedNames.contains f = false)))
theorem con_b {f : Str} {n : Int} (h : conB K C f n = true) : ∃ u, Con K C f (.int n) u := by
  obtain ⟨h1, h⟩ := He.ba h
  obtain ⟨h2, h⟩ := He.ba h
  obtain ⟨h3, h4⟩ := He.ba h
  exact ⟨_, of_decide_eq_true h1, intIs_ok h2, of_decide_eq_true h3, of_decide_eq_true h4⟩
def cvalB (K : PySem.W.Frag) (C : Addr) (f : Str) (n : Int) : Bool := match PySem.W.findCls K (.ref C) (.type "type") f with
  | some (.val u) => intIs n u
  | _ => false
theorem cval_b {f : Str} {n : Int} (h : cvalB K C f n = true) : ∃ u, ClX.CVal K C (.type "type") f (.int n) u := by
  unfold cvalB at h
  split at h
  · rename_i u e
    exact ⟨u, e, intIs_ok h⟩
  · cases h
def insB (K : PySem.W.Frag) (C : Addr) : Bool := decide (PySem.W.findIn K (.ref C) "__class__" = some (some (.builtin "object.__class__"))) && (decide (PySem.W.specialIn K (.builtin "object.__class__") "__get__" = some (some (.builtin "getset_descriptor.__get__"))) &&
  (decide (PySem.W.takesIn K (.builtin "object.__class__") = some true) && decide (PySem.W.mroIn K C (.type "object") = some true)))
theorem ins_b (cl : Cls K C) (h : insB K C = true) : InsOk K C := by
  obtain ⟨h1, h⟩ := He.ba h
  obtain ⟨h2, h⟩ := He.ba h
  obtain ⟨h3, h4⟩ := He.ba h
  exact ⟨cl, of_decide_eq_true h1, of_decide_eq_true h2, of_decide_eq_true h3, of_decide_eq_true h4⟩
def neB (K : PySem.W.Frag) (C : Addr) : Bool := decide (PySem.W.findIn K (.ref C) "__ne__" = some (some (.builtin "object.__ne__"))) && decide (PySem.W.mroIn K C (.type "object") = some true)
theorem ne_b (h : neB K C = true) : PySem.W.findIn K (.ref C) "__ne__" = some (some (.builtin "object.__ne__")) ∧ PySem.W.mroIn K C (.type "object") = some true := by
  obtain ⟨h1, h2⟩ := He.ba h
  exact ⟨of_decide_eq_true h1, of_decide_eq_true h2⟩
/-! ### the members of a class -/
/-- a def of a class at f -/
structure MemD (P : Program) (w : World) (K : PySem.W.Frag) (mg : Str → Option Value) (base : Heap) (k : Nat) (f : Addr) (ps N : List Str) (fb : F) : Prop where
  ex : ∃ fd : FuncData, PySem.W.keepIn K (.ref f) = true ∧ PySem.W.fnIn K f = true ∧ L2.Binds K fd ps [] ∧ FnOk P w K mg base (L2.CX P w) k f fd ps (spD ⟨K, w⟩ ps N fb)
variable {mg : Str → Option Value} {base : Heap} {k : Nat} {f : Addr} {ps N : List Str} {fb : F} {x m : Str}
theorem MemD.fnR (D : MemD P w K mg base k f ps N fb) : FnR P w K mg base (L2.CX P w) k f (spD ⟨K, w⟩ ps N fb) := by
  obtain ⟨fd, _, _, hb, F⟩ := D.ex
  exact (F.raw hb (dvs := []) .nil).imp fun vs H Q E h => by rw [List.append_nil]; exact h
theorem MemD.fn (D : MemD P w K mg base k f ps N fb) : PySem.W.fnIn K f = true := let ⟨_, _, h, _⟩ := D.ex; h
theorem MemD.spec (D : MemD P w K mg base k f ps N fb) (h : Meth K (He.ga K x) m f) : SpecD P w K mg base k x m ps N fb := ⟨f, h.at_, h.fn, D.fn, D.fnR⟩
theorem MemD.make (D : MemD P w K mg base k f ps N fb) (h : Mk K (He.ga K x) f) (hm : mg x = some (.ref (He.ga K x))) : MkD P w K mg base k x ps N fb := ⟨f, hm, h, D.fnR⟩
theorem MemD.cm {p : Addr} (D : MemD P w K mg base k f ps N fb) (h1 : ClX.CRead K (He.ga K x) (.type "type")) (h2 : ClX.CMet K (He.ga K x) (.type "type") m p f) : CmD P w K mg base k x m ps N fb := ⟨_, p, f, h1, h2, D.fnR⟩
theorem mem_dl {name qual : Str} {st : Stmt} {fd : FuncData} (F : FunD K name qual (defArgs st) (defBody st) (defScope st) [] [] f fd) (S : FnScope N ps (defScope st))
    (hb0 : ∀ (kV doc pm : Value) (an : Option Addr) (cdv ct : Value) (us : List Value), us.length = ps.length → bindArgs (PySem.W.fnOf name qual (defArgs st) (defBody st) (defScope st) .none kV doc pm an cdv ct) ⟨us, []⟩ = pure (ps.zip us))
    (hb : ∀ (f : Addr) (cdv : Value) (A : Around) (outer : List Env) (s : Shared) (H : Hp) (E : XK) (C : Ctl), Room k (A.deeper (envOfC qual (defScope st) s.heap.objs.size f cdv)) →
      PQs (cxOf (L2.CX P w) P w K mg base N qual (defScope st) f cdv A outer s H E) C (fun c d _ H' => E c d H') (defBody st) fb) : MemD P w K mg base (k + 1) f ps N fb := by
  refine ⟨fd, F.kp, ?_, F.bindsN hb0, F.ok S (fun vs H Q E h => h.1) fun cdv A outer s H vs Q E hr q => ?_⟩
  · obtain ⟨oc, od, dV, kV, doc, pm, an, cdv, ct, osl, e, l, c, hd, _⟩ := F.ex
    unfold PySem.W.fnIn
    rw [l]
  · obtain ⟨_, G, A0, q⟩ := q
    exact ⟨_, hb f cdv A outer s H E ⟨H, G, A0, 0⟩ hr, q⟩
theorem it_dl {fld : Str} {name qual : Str} {st : Stmt} {fd : FuncData} (F : FunD K name qual (defArgs st) (defBody st) (defScope st) [] [] f fd) (S : FnScope N ["self"] (defScope st)) (h : Meth K (He.ga K x) "__iter__" f)
    (hb0 : ∀ (kV doc pm : Value) (an : Option Addr) (cdv ct : Value) (us : List Value), us.length = (["self"] : List Str).length → bindArgs (PySem.W.fnOf name qual (defArgs st) (defBody st) (defScope st) .none kV doc pm an cdv ct) ⟨us, []⟩ = pure ((["self"] : List Str).zip us))
    (hb : ∀ (cdv : Value) (A : Around) (outer : List Env) (s : Shared) (H : Hp) (E : XK),
      PSs (cxOf CX0 P w K mg base N qual (defScope st) f cdv A outer s H E) (defBody st) (fun D σ H => ∃ a, σ[0]? = some (some (.ref a)) ∧ spIt K (He.ga K x) fld s.heap.objs.size [.ref a] H D.rt (fun _ _ _ => False))) : ItD P w K mg base 1 x fld := by
  have hB := F.bindsN hb0
  obtain ⟨oc, od, dV, kV, doc, pm, an, cdv, ct, osl, rfl, l, c, hd, _⟩ := F.ex
  refine ⟨f, h.at_, h.fn, fnN_of l c S hB (fun n vs H Q E h => ?_) fun A outer s H vs Q E hr q => ⟨_, hb cdv A outer s H E, ?_⟩⟩
  · obtain ⟨a, _, _, _, _, e, _⟩ := h; rw [e]; rfl
  · obtain ⟨a, dx, fs, l', xs, rfl, q1, q2, q3, q4⟩ := q
    exact ⟨a, rfl, a, dx, fs, l', xs, rfl, q1, q2, q3, q4⟩
end
/-! ### the Hook -/
abbrev AlY : Type := (He.AlT × (Bool × List FnC)) × List He5.FnW
def obsY (n : Nat) (fa : List He.Fa) (fn : List He5.DefA) (ts : List He.Tab) (ex : PySem.W.Frag → Bool) (ini : List IniD) (g : Addr → Option Obj) : (He.AlT × (Bool × List FnC)) × List He5.FnW :=
  ((He.obsT fa [] ts (frZ g n), ((ex (frZ g n) && fn.all fun d => d.ok (frZ g n)), ini.map (fnC (frZ g n)))), fn.map fun d => He5.fnA (frZ g n) (d.at_ (frZ g n)))
structure SaysY (fa : List He.Fa) (fn : List He5.DefA) (ts : List He.Tab) (ex : PySem.W.Frag → Bool) (ini : List IniD) (w : World) (K : PySem.W.Frag) : Prop where
  t : He.SaysT fa [] ts w K
  more : (ex K && fn.all fun d => d.ok K) = true
  ini : ini.map (fnC K) = ini.map IniD.val
  fns : (fn.map fun d => He5.fnA K (d.at_ K)) = fn.map He5.DefA.val
def hookY (n : Nat) (fa : List He.Fa) (fn : List He5.DefA) (ts : List He.Tab) (ex : PySem.W.Frag → Bool) (ini : List IniD) : PySem.W.Hook where
  α := (He.AlT × (Bool × List FnC)) × List He5.FnW
  obs := fun s => obsY n fa fn ts ex ini s.heap.get?
  val := fun w => ((He.valT [] ts w, (true, ini.map IniD.val)), fn.map He5.DefA.val)
  says := fun w h => ∃ K : PySem.W.Frag, K.In h ∧ SaysY fa fn ts ex ini w K
  of := fun w s e => ⟨frZ s.heap.get? n, He.frT_in, ⟨congrArg (fun z : AlY => z.1.1) e, congrArg (fun z : AlY => z.1.2.1) e, congrArg (fun z : AlY => z.1.2.2) e, congrArg (fun z : AlY => z.2) e⟩⟩
  keeps := fun _ _ _ ⟨K, hK, c⟩ k => ⟨K, PySem.W.Frag.In.keeps hK k, c⟩
theorem obsY_eq {n : Nat} {fa : List He.Fa} {fn : List He5.DefA} {ts : List He.Tab} {ex : PySem.W.Frag → Bool} {ini : List IniD} {g : Addr → Option Obj} {s : Shared} (h : ∀ a, g a = s.heap.get? a) : obsY n fa fn ts ex ini g = (hookY n fa fn ts ex ini).obs s := by
  have e : g = s.heap.get? := funext h
  rw [e] <;> rfl
section
variable {fa : List He.Fa} {fn : List He5.DefA} {ts : List He.Tab} {ex : PySem.W.Frag → Bool} {ini : List IniD} {w : World} {K : PySem.W.Frag}
theorem saysY_ini (c : SaysY fa fn ts ex ini w K) (i : Nat) {d : IniD} (e : ini[i]? = some d) : fnC K d = d.val := by
  have h := congrArg (fun l => l[i]?) c.ini
  simp only [List.getElem?_map, e, Option.map_some, Option.some.injEq] at h
  exact h
theorem saysY_def (c : SaysY fa fn ts ex ini w K) (i : Nat) {d : He5.DefA} (h : fn[i]? = some d) : ∃ fd, L2.FunD K d.name d.qual d.params d.body d.scope (d.dvs K) (d.kws K) (d.at_ K) fd := by
  have c2 := (He.ba c.more).2
  have e2 : (fn.map fun d => He5.fnA K (d.at_ K))[i]? = (fn.map He5.DefA.val)[i]? := by rw [c.fns]
  rw [List.getElem?_map, List.getElem?_map, h] at e2
  exact He5.DefA.funD (Option.some.inj e2) (List.all_eq_true.mp c2 d (List.mem_of_getElem? h))
theorem saysY_fa (c : SaysY fa fn ts ex ini w K) {z : He.Fa} (h : z ∈ fa) : z.ok K = true := He.SaysD.facts c.t.d h
end
end DL
set_option Elab.async false
set_option linter.all false
set_option maxRecDepth 100000
set_option maxHeartbeats 4000000
/-! DM9: members by their promises; list(o). -/
namespace DL
open PySem PySem.Spec PyProof.Rows L2

section
variable {K : PySem.W.Frag}
def methB (K : PySem.W.Frag) (c d m : Str) : Bool := decide (PySem.W.findIn K (.ref (He.ga K c)) m = some (some (.ref (He.ma K (He.ga K d) m)))) && (PySem.W.isFn K (.ref (He.ma K (He.ga K d) m)) && PySem.W.keepIn K (.ref (He.ma K (He.ga K d) m)))
theorem meth_b {c d m : Str} (h : methB K c d m = true) : Meth K (He.ga K c) m (He.ma K (He.ga K d) m) := by
  obtain ⟨h1, h⟩ := He.ba h
  obtain ⟨h2, h3⟩ := He.ba h
  exact ⟨of_decide_eq_true h1, h2, h3⟩
def mkB (K : PySem.W.Frag) (c d : Str) : Bool := PySem.W.makesIn K (He.ga K c) && (decide (PySem.W.findIn K (.ref (He.ga K c)) "__init__" = some (some (.ref (He.ma K (He.ga K d) "__init__")))) && (PySem.W.isFn K (.ref (He.ma K (He.ga K d) "__init__")) && PySem.W.keepIn K (.ref (He.ga K c))))
theorem mk_b {c d : Str} (h : mkB K c d = true) : Mk K (He.ga K c) (He.ma K (He.ga K d) "__init__") := by
  obtain ⟨h1, h⟩ := He.ba h
  obtain ⟨h2, h⟩ := He.ba h
  obtain ⟨h3, h4⟩ := He.ba h
  exact ⟨h1, of_decide_eq_true h2, h3, h4⟩
theorem cm_b {C : Addr} {m : Str} (h : (He5.wrapB K C "classmethod" "classmethod.__get__" m && PySem.W.fnIn K (He5.wf K C "classmethod" m)) = true) : ClX.CMet K C (.type "type") m (He.ma K C m) (He5.wf K C "classmethod" m) := He5.cmet_of (He.ba h).1 (He.ba h).2
def propB2 (K : PySem.W.Frag) (c d m : Str) : Bool := decide (PySem.W.findIn K (.ref (He.ga K c)) m = some (some (.ref (He.ma K (He.ga K d) m)))) && (decide (PySem.W.specialIn K (.ref (He.ma K (He.ga K d) m)) "__get__" = some (some (.builtin "property.__get__"))) &&
  (decide (PySem.W.takesIn K (.ref (He.ma K (He.ga K d) m)) = some true) && (match PySem.W.recIn K (He.ma K (He.ga K d) m) "property" with
    | some (.ref _ :: _) => true
    | _ => false)))
theorem prop_b2 {c d m : Str} (h : propB2 K c d m = true) : PropOf K (He.ga K c) m (He.ma K (He.ga K d) m) (pgA K (He.ga K d) m) := by
  obtain ⟨h1, h⟩ := He.ba h
  obtain ⟨h2, h⟩ := He.ba h
  obtain ⟨h3, h4⟩ := He.ba h
  refine ⟨of_decide_eq_true h1, of_decide_eq_true h2, of_decide_eq_true h3, ?_⟩
  unfold pgA
  split at h4
  · rename_i f r e
    exact ⟨r, by rw [e]⟩
  · cases h4
def kitB2 (K : PySem.W.Frag) (tb : List (Ty × Ty × Bool)) : Bool := tb.all fun q => decide (PySem.W.kitOne K (tyV K q.1) (tyV K q.2.1) = some q.2.2) && (match q.1 with
  | .ow C => (He.Fa.cls C).ok K && insB K (He.ga K C)
  | _ => true)
theorem kit_b2 {tb : List (Ty × Ty × Bool)} (h : kitB2 K tb = true) : ∀ q ∈ tb, PySem.W.kitOne K (tyV K q.1) (tyV K q.2.1) = some q.2.2 ∧ ∀ C, q.1 = .ow C → InsOk K (He.ga K C) := fun q hq => by
  have z := List.all_eq_true.mp h q hq
  obtain ⟨z1, z2⟩ := He.ba z
  refine ⟨of_decide_eq_true z1, fun C e => ?_⟩
  rw [e] at z2
  obtain ⟨z3, z4⟩ := He.ba z2
  exact ins_b (He.cls_ok z3) z4
end
section
variable {X : Cx} {C : Ctl} {W : WX} {o e tg iter : Expr} {es : List Expr} {pos apos : Pos} {f g : M R} {fs : List (M R)}
theorem pd_methM {Cn m : Str} {k N' : Nat} {fA : Addr} {ps N : List Str} {fb : F} {pl : Sem Bool} (c : Cls X.K (He.ga X.K Cn)) (hm : Meth X.K (He.ga X.K Cn) m fA) (D : MemD X.prog X.w X.K X.mg X.base k fA ps N fb) (hr : Room k X.A) (tk : Takes X W)
    (ho : PD X C W o f) (ha : PAs X C W (e :: es) (evs fs)) (hl : fs.length + 1 = ps.length := by rfl) (hN : ps.length ≤ N.length := by decide) (hn : N.length = N' := by rfl) (hst : starEach (e :: es) X.env = (false, eval e X.env) :: starEach es X.env := by rfl) (hpl : (backTo pos (starEach es X.env)).any (·.1) = false := by rfl)
    (ht : eval (.Call (.Attribute o m apos) (e :: es) [] pos) X.env = (do
      let ov ← eval o X.env
      standAt apos.atName
      let (f, first) ← holding [ov] (getMethod ov m pl)
      callWith pos f first (backTo pos (starEach (e :: es) X.env)) (backToKw pos (keywordEach [] X.env))) := by rfl) : PD X C W (.Call (.Attribute o m apos) (e :: es) [] pos) (fMeth Cn m fb N' f fs) := by
  obtain ⟨fd, _, _, hb, F⟩ := D.ex
  subst hn
  exact pd_meth c hm F hr hb tk ho ha hl hN hst hpl ht
theorem pd_methM0 {Cn m : Str} {k N' : Nat} {fA : Addr} {ps N : List Str} {fb : F} {pl : Sem Bool} (c : Cls X.K (He.ga X.K Cn)) (hm : Meth X.K (He.ga X.K Cn) m fA) (D : MemD X.prog X.w X.K X.mg X.base k fA ps N fb) (hr : Room k X.A) (tk : Takes X W)
    (ho : PD X C W o f) (hl : 1 = ps.length := by rfl) (hN : ps.length ≤ N.length := by decide) (hn : N.length = N' := by rfl)
    (ht : eval (.Call (.Attribute o m apos) [] [] pos) X.env = (do
      let ov ← eval o X.env
      standAt apos.atName
      let (f, first) ← holding [ov] (getMethod ov m pl)
      callWith pos f first (backTo pos (starEach [] X.env)) (backToKw pos (keywordEach [] X.env))) := by rfl) : PD X C W (.Call (.Attribute o m apos) [] [] pos) (fMeth Cn m fb N' f []) := by
  obtain ⟨fd, _, _, hb, F⟩ := D.ex
  subst hn
  exact pd_meth0 c hm F hr hb tk ho hl hN ht
theorem pd_propM {Cn m p : Str} {k N' : Nat} {fA pA : Addr} {N : List Str} {fb : F} (c : Cls X.K (He.ga X.K Cn)) (hp : PropOf X.K (He.ga X.K Cn) m pA fA) (D : MemD X.prog X.w X.K X.mg X.base k fA [p] N fb) (hr : Room (k + 1) X.A)
    (ho : PD X C W o f) (hN : 1 ≤ N.length := by decide) (hn : N.length = N' := by rfl) (hab : attributeBase o m X.env (eval o X.env) = eval o X.env := by rfl) : PD X C W (.Attribute o m pos) (fProp Cn fb N' f) := by
  obtain ⟨fd, _, _, hb, F⟩ := D.ex
  subst hn
  exact pd_prop c hp F hr hb ho hN hab
theorem pid_else {s1 s2 : M (List D)} (h1 : PId X C W tg iter s1) (h2 : PId X C W tg iter s2) : PId X C W tg iter (fElse s1 s2) := PI.by fun σ H R ⟨G, ρ, x, S, hf, P⟩ => by
  unfold fElse at hf
  cases ef : s1 ρ with
  | some y => rw [ef] at hf; cases hf; exact ⟨_, h1, G, ρ, _, S, ef, P⟩
  | none => rw [ef] at hf; exact ⟨_, h2, G, ρ, _, S, hf, P⟩
/-! ### list(o) -/
end
/-- __len__ says len of the same list -/
def spLn (C : Addr) (fld : Str) (K : PySem.W.Frag) : Sp := fun vs H Q _ => ∃ a dx fs l xs, vs = [.ref a] ∧ H a = some (.ins C dx fs) ∧ fs.lookup fld = some (.ref l) ∧ SqL K H l xs ∧ Q (.int xs.length) H
structure LnD (P : Program) (w : World) (K : PySem.W.Frag) (mg : Str → Option Value) (base : Heap) (k : Nat) (x fld : Str) : Prop where
  ex : ∃ f : Addr, PySem.W.findIn K (.ref (He.ga K x)) "__len__" = some (some (.ref f)) ∧ PySem.W.isFn K (.ref f) = true ∧ FnR P w K mg base (L2.CX P w) k f (spLn (He.ga K x) fld K)
section
variable {X : Cx}
theorem ps_len {C0 : Addr} {fld : Str} {p1 p2 p3 pos : Pos} {o : Expr} (hg : Gl X "len") (hm : X.mg "len" = none) (hc : Cls X.K C0) (hna : NoAttr X.K C0 fld) (ho : PE X o (tVar 0)) (hb : attributeBase o fld X.env (eval o X.env) = eval o X.env := by rfl)
    (hs : starEach [.Attribute o fld p2] X.env = (false, eval (.Attribute o fld p2) X.env) :: starEach [] X.env := by rfl) (hpl : (backTo p3 (starEach [] X.env)).any (·.1) = false := by rfl) :
    PSs X [.Return (some (.Call (.Name "len" p1) [.Attribute o fld p2] [] p3)) pos] (fun D σ H => ∃ a, σ[0]? = some (some (.ref a)) ∧ spLn C0 fld X.K [.ref a] H D.rt (fun _ _ _ => False)) := by
  have h := pss_one (ps_ret (pos := pos) (pe_callB (p := p1) (pos := p3) call_len_seq hg hm PySem.boot_len (pa_cons (pe_fld (pos := p2) ho hb) pa_nil (hs := hs)) (by decide) (by decide) hs hpl))
  refine ⟨fun pins s σ H D I q => h.run pins s σ H D I ?_⟩
  obtain ⟨a, hσ, a', dx, fs, l, xs, ea, e1, e2, e3, e4⟩ := q
  cases ea
  exact ⟨.ref a, hσ, a, C0, dx, fs, .ref l, rfl, e1, hc, hna, e2, l, xs, rfl, .inl e3, e4⟩
variable {pins : List (Addr × Obj)} {σ : L2.St}
theorem len_at {x fld : Str} {k : Nat} {a dx l : Addr} {fs : List (Str × V)} {xs : List V} {A1 : Around} {Q : Value → Shared → Prop} {E : Value → Shared → Prop} {H : Hp} {s : Shared} (D : LnD X.prog X.w X.K X.mg X.base k x fld) (sb : Sub X k A1.in1) (I : Inv X pins σ H s)
    (ea : H a = some (.ins (He.ga X.K x) dx fs)) (el : fs.lookup fld = some (.ref l)) (hs : SqL X.K H l xs)
    (h : ∀ t s', Inv X pins σ H s' → Q (.int xs.length t) s') : wpAny (model X.prog X.w) A1 (call (.builtin "len") [.ref a]) Q E s := by
  obtain ⟨f, h1, h2, F⟩ := D.ex
  obtain ⟨ox, od, J, _⟩ := ins_at I ea
  obtain ⟨m, hF⟩ := I.fr
  obtain ⟨its, rv, p, hz⟩ := I.list hs
  have hz' : xs.length ≤ 16777216 := by rw [← sizeLine_eq]; exact hz
  refine PySem.W.len_K hF I.ok.mod.kin J h1 h2 (wpAny_mono (run_sub (Q := fun v H' => v = .int xs.length ∧ H' = H) F sb I (us := [.ref a]) (vs := [.ref a]) (.cons rfl .nil) ⟨a, dx, fs, l, xs, rfl, ea, el, hs, rfl, rfl⟩) (fun r s' z => ?_) fun _ _ z => z)
  obtain ⟨w', H', I', rw', ew, eH⟩ := z
  subst ew
  subst eH
  obtain ⟨t, rfl⟩ := (show ∃ t, r = Value.int xs.length t from rw')
  exact ⟨⟨by omega, by omega⟩, h _ _ (I'.tok _)⟩
theorem hint_at {x fld : Str} {k : Nat} {a dx l : Addr} {fs : List (Str × V)} {xs : List V} {A1 : Around} {Q : Bool → Shared → Prop} {E : Value → Shared → Prop} {H : Hp} {s : Shared} (D : LnD X.prog X.w X.K X.mg X.base k x fld) (sb : Sub X k A1.in1) (I : Inv X pins σ H s)
    (ea : H a = some (.ins (He.ga X.K x) dx fs)) (el : fs.lookup fld = some (.ref l)) (hs : SqL X.K H l xs)
    (h : ∀ b s', Inv X pins σ H s' → Q b s') : wpAny (model X.prog X.w) A1 (Builtin.List.listLengthHint (.ref a)) Q E s := by
  obtain ⟨f, h1, h2, F⟩ := D.ex
  obtain ⟨ox, od, J, _⟩ := ins_at I ea
  obtain ⟨its, rv, p, hz⟩ := I.list hs
  have hz' : xs.length ≤ 16777216 := by rw [← sizeLine_eq]; exact hz
  unfold Builtin.List.listLengthHint
  refine wpAny_bind (wpAny_bind (J.type.here ((PySem.W.looks_findIn I.kIn h1).here ?_)))
  dsimp only
  refine PySem.W.KFB.if_not rfl ?_
  rw [if_pos (show (some (Value.ref f)).isSome = true from rfl)]
  refine wpAny_bind (wpAny_rule ?_)
  refine wpAny_bind (wpAny_attempt (len_at D sb I ea el hs fun t s' I' => ?_))
  dsimp only
  refine wpAny_bind (wpAny_pure ?_)
  dsimp only
  have hl : Builtin.List.listTooLong (xs.length : Int).toNat = false := by
    unfold Builtin.List.listTooLong
    rw [sizeLine_eq]
    simp
    omega
  rw [if_neg (by rw [hl]; exact Bool.false_ne_true)]
  exact wpAny_pure (h _ _ I')
/-- the walk of list's filling over a list's iterator -/
theorem fill_loop {it l q : Addr} {xs : List V} {A1 : Around} {Rs : Result → Shared → Prop} (hh : A1.in1.handled = none) {H : Hp} (hqi : q ≠ it) (hqn : H q = none) (hl : SqL X.K H l xs) (hz : xs.length ≤ sizeLine)
    (hdone : ∀ s, Inv X pins σ (upd H q (.lst xs)) s → Rs (.ok (.ret .none)) s) :
    ∀ (n i : Nat) (s : Shared), n = xs.length - i → i ≤ xs.length → Inv X pins σ (upd H q (.lst (xs.take i))) s → s.heap.IsListIter it l i → FpOk X pins H it →
      codeAny (model X.prog X.w) A1 (.builtin "list.extend.loop" ⟨[.ref q, .ref it, .none], []⟩) Rs s := by
  intro n
  induction n with
  | zero =>
    intro i s hn hi I st fp
    have e : i = xs.length := by omega
    subst e
    rw [List.take_length] at I
    have sm : Same H (upd H q (.lst xs)) := fun b o e => by rw [upd_ne (ne_of_none e hqn)]; exact e
    have hlq : SqL X.K (upd H q (.lst xs)) l xs := sm.seq hl
    obtain ⟨its, rv, p, hz2⟩ := I.list hlq
    obtain ⟨f0, f1, f2, f3, f4, f5⟩ := fp
    refine codeAny_builtin PySem.F.entry_extend_loop ?_
    rw [Around.under_plainId PySem.F.plain_extend_loop _]
    show wpAny _ A1.in1 (pyNext (.ref it) >>= _) _ _ s
    refine wpAny_bind (wpAny_pyNext_list_end hh st p.isList (by rw [rv.length]; simp) fun h' eb => ?_)
    refine wpAny_pure (hdone _ (I.turned (t' := s.toks) (fun b ob hb e => eb b ob hb e) (by rw [upd_ne (Ne.symm hqi)]; exact f0) f1 f3 f4 f5))
  | succ n ih =>
    intro i s hn hi I st fp
    have hlt : i < xs.length := by omega
    have sm : Same H (upd H q (.lst (xs.take i))) := fun b o e => by rw [upd_ne (ne_of_none e hqn)]; exact e
    have hlq : SqL X.K (upd H q (.lst (xs.take i))) l xs := sm.seq hl
    obtain ⟨its, rv, p, hz2⟩ := I.list hlq
    have fp0 := fp
    obtain ⟨f0, f1, f2, f3, f4, f5⟩ := fp
    have hli : i < its.length := by rw [← rv.length]; exact hlt
    refine codeAny_builtin PySem.F.entry_extend_loop ?_
    rw [Around.under_plainId PySem.F.plain_extend_loop _]
    show wpAny _ A1.in1 (pyNext (.ref it) >>= _) _ _ s
    refine wpAny_bind (wpAny_pyNext_list_item st p.isList (x := its[i]) (by simp [hli]) fun h' st' sb => ?_)
    have I1 : Inv X pins σ (upd H q (.lst (xs.take i))) { s with heap := h' } := I.turned (t' := s.toks) (fun b ob hb e => (sb.2 b hb).trans e) (by rw [upd_ne (Ne.symm hqi)]; exact f0) f1 f3 f4 f5
    show wpAny _ A1.in1 (updateSeq q (·.push its[i]) >>= _) _ _ _
    obtain ⟨z, its2, k, r2, hl2, e2⟩ := I1.lstM upd_same
    have ez : (xs.take i).length = i := by rw [List.length_take]; omega
    have hs2 : its2.length = i := by rw [← r2.length]; exact ez
    refine wpAny_bind (wpAny_updateSeq e2 rfl (wpAny_pure ⟨plainId_quiet PySem.F.plain_extend_loop _, ?_⟩) (by rw [List.size_toArray]; omega) (by show (its2.toArray.push its[i]).size ≤ sizeLine + 1; rw [Array.size_push, List.size_toArray]; omega))
    have I2 := I1.lset (f := (·.push its[i])) (its' := its2 ++ [its[i]]) (ys := xs.take (i + 1)) (t' := s.toks) upd_same e2 (by simp) (by
      rw [List.take_succ_eq_append_getElem hlt]
      exact r2.append (.cons (by
        obtain ⟨u, hu, ru⟩ := Vals.get rv (List.getElem?_eq_getElem hlt)
        rw [List.getElem?_eq_getElem hli] at hu
        cases hu
        exact ru) .nil)) (by rw [List.length_take]; omega)
    rw [upd_upd] at I2
    exact ih (i + 1) _ (by omega) hlt I2 (st'.at fun o e => (Heap.get?_update_other _ _ hqi).trans e) fp0
/-- list(o) -/
theorem call_listO {x fld : Str} {k : Nat} (DI : ItD X.prog X.w X.K X.mg X.base k x fld) (DN : LnD X.prog X.w X.K X.mg X.base k x fld) (hr : Room (k + 3) X.A) (hcalm : X.calm = true) :
    CallR X (.type "list") (fun vs H Q => ∃ a dx fs l xs, vs = [V.ref a] ∧ H a = some (.ins (He.ga X.K x) dx fs) ∧ fs.lookup fld = some (.ref l) ∧ SqL X.K H l xs ∧ ∀ q, H q = none → Q (.ref q) (upd H q (.lst xs))) := by
  intro pins s σ H vs us Q I rv h
  obtain ⟨a, dx, fs, l, xs, rfl, ea, el, hs, hq⟩ := h
  obtain ⟨u, rfl, ru⟩ := rv.one
  cases ru
  have hr1 : Room (k + 2) X.A.in1 := hr.in1
  have hr2 : Room (k + 1) X.A.in1.in1 := hr1.in1
  have hr3 : Room k X.A.in1.in1.in1 := hr2.in1
  obtain ⟨its0, rv0, p0, hz⟩ := I.list hs
  refine callType_codes (Q₁ := fun obj s₁ => obj = .ref s.heap.objs.size ∧ s₁ = { s with heap := s.heap.push { cls := .type "list", data := .seq #[] } }) PySem.F.called_list (PySem.F.typeCall_list_1 _) PySem.F.entry_list_init
    (code_list_new _ ⟨rfl, rfl⟩) fun obj s₁ h₁ => ?_
  obtain ⟨rfl, rfl⟩ := h₁
  have hS : (s.heap.push { cls := .type "list", data := .seq #[] }).get? s.heap.objs.size = some { cls := .type "list", data := .seq #[] } := Heap.get?_push_size _ rfl
  refine ⟨⟨_, hS, rfl⟩, PySem.F.args_list_init_2 _ _, ?_⟩
  have fr : H s.heap.objs.size = none := I.hok.fresh (Nat.le_refl _)
  generalize hqe : s.heap.objs.size = q at *
  have I1 : Inv X pins σ (upd H q (.lst [])) { s with heap := s.heap.push { cls := .type "list", data := .seq #[] } } := hqe ▸ I.lnew (its := []) (t' := s.toks) .nil (Nat.zero_le _)
  show wpAny _ _ (do let old ← Builtin.List.listItems (.ref q); Builtin.List.listUpdate (.ref q) (fun _ => #[]); letGo old.toList.reverse; Builtin.List.listExtendWith (.ref q) (.ref a) .none) _ _ _
  refine wpAny_bind ?_
  unfold Builtin.List.listItems
  refine wpAny_bind (wpAny_seqItems hS rfl (wpAny_pure ?_))
  show wpAny _ _ (updateSeq q (fun _ => #[]) >>= fun _ => letGo (#[] : Array Value).toList.reverse >>= fun _ => Builtin.List.listExtendWith (.ref q) (.ref a) .none) _ _ _
  refine wpAny_bind (wpAny_updateSeq hS rfl ?_)
  have I2 := I1.lset (f := fun _ => #[]) (its := []) (its' := []) (ys := []) (t' := s.toks) upd_same hS rfl .nil (Nat.zero_le _)
  rw [upd_upd] at I2
  refine wpAny_bind (wpAny_letGo ?_)
  have sm : ∀ zs, Same H (upd H q (.lst zs)) := fun zs b o e => by rw [upd_ne (ne_of_none e fr)]; exact e
  have ea2 := sm [] _ _ ea
  have hs2 : SqL X.K (upd H q (.lst [])) l xs := (sm []).seq hs
  have hne : q ≠ a := (ne_of_none ea fr).symm
  obtain ⟨ox, od, J, _⟩ := ins_at I2 ea2
  unfold Builtin.List.listExtendWith
  refine wpAny_bind (J.type.here ?_)
  have h1 : Builtin.List.listSameRef (.ref q) (.ref a) = false := by simp [Builtin.List.listSameRef, hne]
  have h2 : (Value.ref (He.ga X.K x) == Value.type "list") = false := rfl
  have h3 : (Value.ref (He.ga X.K x) == Value.type "tuple") = false := rfl
  simp only [h1, h2, h3, Bool.or_false, Bool.false_eq_true, if_false]
  refine wpAny_bind (own_iter DI ⟨hr2.mono (by omega), rfl⟩ I2 ea2 el hs2 fun it s3 I3 n1 n2 => ?_)
  have hi : upd (upd H q (.lst [])) it (ItO l it 0) it = some (ItO l it 0) := upd_same
  have hqi : q ≠ it := ne_of_none (by exact upd_same) n1
  have hHit : H it = none := by rw [upd_ne (Ne.symm hqi)] at n1; exact n1
  have sm3 : Same (upd H q (.lst [])) (upd (upd H q (.lst [])) it (ItO l it 0)) := fun b o e => by rw [upd_ne (ne_of_none e n1)]; exact e
  refine wpAny_bind (wpAny_holding (hint_at DN ⟨hr3, rfl⟩ I3 (sm3 _ _ ea2) el (sm3.seq hs2) fun bb s4 I4 => ?_))
  have eo := itO_get I4 hi
  have hfp : FpOk X pins H it := by
    have z := ItX.inv_fp I4 hi (Nat.le_trans I2.sz n2)
    exact ⟨hHit, z.2⟩
  have I5 : Inv X pins σ (upd H q (.lst [])) s4 := by
    have z := ItX.inv_drop I4 hi
    rwa [ItX.dropH_upd n1] at z
  have done : ∀ s' , Inv X pins σ (upd H q (.lst xs)) s' → wants (fun r s₂ => r = .none ∧ EP X pins σ Q (.ref q) s₂) X.xe (.ok (.ret .none)) s' := fun s' I' => ⟨rfl, .ref q, _, I', rfl, hq q fr⟩
  have hh : X.A.in1.in1.handled = none := I.ok.hd hcalm
  obtain ⟨z, its, kk, r3, hl3, e3⟩ := I5.lstM upd_same
  cases r3
  refine wpAny_ite_split (fun _ => ?_) (fun _ => wpAny_pure ⟨plainId_quiet PySem.F.plain_extend_loop _, fill_loop hh hqi fr hs hz done _ 0 s4 rfl (Nat.zero_le _) I5 ⟨_, eo, rfl, rfl⟩ hfp⟩)
  refine wpAny_bind (wpAny_rule ?_)
  refine wpAny_bind ?_
  show wpAny _ _ (updateSeq q (·.push .none) >>= fun _ => updateSeq q (·.pop)) _ _ _
  refine wpAny_bind (wpAny_updateSeq e3 rfl ?_)
  have I6 := I5.lset (f := (·.push Value.none)) (its' := [Value.none]) (ys := [.non]) (t' := s4.toks) upd_same e3 (by simp) (.cons rfl .nil) (by rw [List.length_singleton, sizeLine_eq]; decide)
  obtain ⟨z4, its4, k4, r4, hl4, e4⟩ := I6.lstM upd_same
  obtain ⟨u4, rfl, ru4⟩ := r4.one
  refine wpAny_updateSeq e4 rfl ?_ (by show 1 ≤ sizeLine; rw [sizeLine_eq]; decide) (by show 0 ≤ sizeLine + 1; exact Nat.zero_le _)
  have I7 := I6.lset (f := (·.pop)) (its := [u4]) (its' := []) (ys := []) (t' := s4.toks) upd_same e4 (by rfl) .nil (Nat.zero_le _)
  rw [upd_upd, upd_upd] at I7
  refine wpAny_pure ⟨plainId_quiet PySem.F.plain_extend_loop _, fill_loop hh hqi fr hs hz done _ 0 _ rfl (Nat.zero_le _) I7 ⟨_, (Heap.get?_update_other _ _ hqi).trans ((Heap.get?_update_other _ _ hqi).trans eo), rfl, rfl⟩ hfp⟩
def fListO (src : M (List D)) : M R := src.bind fun ds => M.ret (.n (.lst ds))
end
section
variable {X : Cx} {C : Ctl} {W : WX} {e : Expr} {pos : Pos} {f : M R}
theorem pd_listO {x fld : Str} {k : Nat} {p : Pos} (DI : ItD X.prog X.w X.K X.mg X.base k x fld) (DN : LnD X.prog X.w X.K X.mg X.base k x fld) (hr : Room (k + 3) X.A) (hcalm : X.calm = true) (hg : Gl X "list") (hm : X.mg "list" = none) (hv : bootBuiltins "list" = some (.type "list")) (ha : PD X C W e f)
    (he : starEach [e] X.env = (false, eval e X.env) :: starEach [] X.env := by rfl) : PD X C W (.Call (.Name "list" p) [e] [] pos) (fListO (srcO x fld f)) := by
  refine PE.of (pe_callTy (call_listO DI DN hr hcalm) hg hm hv (pa_cons ha pa_nil (hs := he)) (by decide) (by decide) he rfl) fun σ H Q ⟨G, ρ, z, S, hf, P⟩ => ?_
  rcases bind_ok hf with ⟨ds, ρ1, h1, h2⟩ | ⟨q, ρ1, h1, rfl⟩
  · cases h2
    rcases bind_ok h1 with ⟨r, ρ2, h3, h4⟩ | ⟨q, ρ2, h3, h4⟩
    · refine ⟨G, ρ, _, S, h3, fun v G1 H1 e1 S1 R1 => ?_⟩
      cases r with
      | v d =>
        cases d with
        | ins c ns ds' =>
          simp only at h4
          by_cases hc : c = x
          · rw [if_pos hc] at h4
            subst hc
            cases el : (ns.zip ds').lookup fld with
            | none => rw [el] at h4; cases h4
            | some d =>
              rw [el] at h4
              cases d with
              | lst xs =>
                cases h4
                obtain ⟨a, dx, vs, rfl, ea, rl⟩ := R1
                obtain ⟨w', hw, p', ys, rfl, hp, ry⟩ := zip_fld rl el
                exact ⟨a, dx, _, p', ys, rfl, S1.sub _ _ ea, hw, SqL.of (S1.sub _ _ hp), fun q hq => P (.ref q) G1 _ e1 (S1.lay hq _) (S1.newList hq ry)⟩
              | _ => cases h4
          · rw [if_neg hc] at h4; cases h4
        | _ => cases h4
      | _ => cases h4
    · cases h4
  · rcases bind_ok h1 with ⟨r, ρ2, h3, h4⟩ | ⟨q', ρ2, h3, h4⟩
    · cases r with
      | v d =>
        cases d with
        | ins c ns ds' =>
          simp only at h4
          by_cases hc : c = x
          · rw [if_pos hc] at h4
            split at h4 <;> cases h4
          · rw [if_neg hc] at h4; cases h4
        | _ => cases h4
      | _ => cases h4
    · cases h4
      exact ⟨G, ρ, _, S, h3, P⟩
end
end DL
set_option Elab.async false
set_option linter.all false
set_option maxRecDepth 100000
set_option maxHeartbeats 4000000
/-! DMa: the def Kinds.__init__, whose list grows in its field, read by hand. -/
namespace DL
open PySem PySem.Spec PyProof.Rows L2

/-- rows by their names: the first that an earlier row has, too -/
def kiR : List D → List Str → Option (Option (Str × Nat))
  | [], _ => some none
  | d :: ds, done => match d with
    | .tup (.str n :: _) => if inV (.str n) (done.map V.str) = true then some (some (n, done.length)) else kiR ds (done ++ [n])
    | _ => none
def kiSrc (ρ : EV) : Option (List D) := match ρ.sl[(1 : Nat)]? with
  | some (some (.val (.lst ds))) => some ds
  | some (some (.par k)) => (match ρ.ps[k]? with
    | some (.lst ds) => some ds
    | _ => none)
  | _ => none
def kiEnd (ρ : EV) (ds : List D) : EV := ⟨List.replicate ρ.sl.length none, ρ.ps.set 0 (.ins "Kinds" ["rows"] [.lst ds])⟩
def fbKI : F := fun ρ => match ρ.sl[(0 : Nat)]? with
  | some (some (.par 0)) => (match ρ.ps[(0 : Nat)]? with
    | some (.ins C [] []) => if C = "Kinds" ∧ 3 < ρ.sl.length then (match kiSrc ρ with
      | some ds => if szOk ds.length then (match kiR ds [] with
        | some none => some (.nx (kiEnd ρ ds))
        | some (some (n, i)) => some (.ex ⟨"DuplicateName", [("name", .str n)]⟩ (kiEnd ρ (ds.take i)))
        | none => none) else none
      | none => none) else none
    | _ => none)
  | _ => none
section
variable {K : KW} {C : Ctl} {G G' H H' : Hp} {σ σ' : L2.St} {ρ : EV}
theorem kiSrc_ok (S : Sta K C G H σ ρ) {ds : List D} (h : kiSrc ρ = some ds) : ∃ r vs, σ[1]? = some (some (.ref r)) ∧ H r = some (.lst vs) ∧ RepL K G ds vs := by
  unfold kiSrc at h
  split at h
  · rename_i d e
    cases h
    obtain ⟨v, h1, a, xs, rfl, h2, h3⟩ := S.slot 1 _ e
    exact ⟨a, xs, h1, S.sub _ _ h2, h3⟩
  · rename_i k e
    split at h
    · rename_i d e2
      cases h
      obtain ⟨v, h1, a, rfl, h2⟩ := S.slot 1 _ e
      obtain ⟨_, xs, h3, h4⟩ := S.par k a _ h2 e2
      exact ⟨a, xs, h1, h3, h4⟩
    · cases h
  · cases h
/-- the state behind some turns: the list at l, in the field of the instance at x -/
theorem kiSta (S : Sta K C G H σ ρ) {x l dx : Addr} {ys : List V} {es : List D} (hx : C.A0[0]? = some x) (hl : H l = none) (g1 : H' x = some (.ins (He.ga K "Kinds") dx [("rows", .ref l)])) (g2 : H' l = some (.lst ys)) (re : RepL K G es ys)
    (keep : ∀ b o, H b = some o → b ≠ x → H' b = some o) (hσ : σ'.length = σ.length) : Sta K C (upd G l (.lst ys)) H' σ' (kiEnd ρ es) := by
  obtain ⟨h0, g0, hA⟩ := S.free hl
  have hxA : x ∈ C.A0 := List.mem_of_getElem? hx
  have gx : G x = none := (S.parAt hxA).1
  have hxl : x ≠ l := fun e => hA (e ▸ hxA)
  have e1 : Same G (upd G l (.lst ys)) := fun b u e => by rw [upd_ne (ne_of_none e g0)]; exact e
  have none_at : ∀ {i : Nat} {s : Slot}, (kiEnd ρ es).sl[i]? = some (some s) → False := fun {i s} e => by
    have e' : (List.replicate ρ.sl.length (none : Option Slot))[i]? = some (some s) := e
    obtain ⟨q1, q2⟩ := List.getElem?_eq_some_iff.mp e'
    simp at q2
  exact
    { sub := fun b o e => by
        by_cases hb : b = l
        · subst hb; rw [upd_same] at e; cases e; exact g2
        · rw [upd_ne hb] at e
          exact keep b o (S.sub b o e) (fun z => by rw [z, gx] at e; cases e)
      old := fun b o e => e1 b o (S.old b o e)
      new := fun a o e => by
        by_cases hb : a = l
        · subst hb; exact .inr h0
        · rw [upd_ne hb] at e; exact S.new a o e
      base := fun b o e hb => keep b o (S.base b o e hb) (fun z => hb (z ▸ hxA))
      len := by rw [hσ, S.len]; simp [kiEnd]
      slot := fun i s e => (none_at e).elim
      dist := fun i j d e v h1 _ _ _ => (none_at h1).elim
      plen := by simp [kiEnd, S.plen]
      par := fun k a d q1 q2 => by
        have q2' : (ρ.ps.set 0 (.ins "Kinds" ["rows"] [.lst es]))[k]? = some d := q2
        by_cases hk : k = 0
        · subst hk
          rw [hx] at q1; cases q1
          have hlen : 0 < ρ.ps.length := by
            rw [S.plen]
            exact (List.getElem?_eq_some_iff.mp hx).1
          rw [List.getElem?_set_self hlen] at q2'
          cases q2'
          exact ⟨by rw [upd_ne hxl]; exact gx, dx, [.ref l], g1, RepL.cons ⟨l, ys, rfl, upd_same, re.mono e1⟩ RepL.nil⟩
        · rw [List.getElem?_set_ne (Ne.symm hk)] at q2'
          obtain ⟨ga, w⟩ := S.par k a d q1 q2'
          have hax : a ≠ x := fun z => by
            subst z
            obtain ⟨m1, m2⟩ := List.getElem?_eq_some_iff.mp q1
            obtain ⟨m3, m4⟩ := List.getElem?_eq_some_iff.mp hx
            exact hk ((List.getElem_inj S.pnd).mp (m2.trans m4.symm))
          obtain ⟨o, ho⟩ := w.there
          have hal : a ≠ l := ne_of_none ho hl
          exact ⟨by rw [upd_ne hal]; exact ga, w.mono e1 (by rw [ho]; exact keep a o ho hax)⟩
      pnd := S.pnd
      pin := S.pin }
theorem Sta.forget (S : Sta K C G H σ ρ) : Sta K C G H σ ⟨List.replicate ρ.sl.length none, ρ.ps⟩ := by
  have none_at : ∀ {i : Nat} {s : Slot}, (List.replicate ρ.sl.length (none : Option Slot))[i]? = some (some s) → False := fun {i s} e => by
    obtain ⟨q1, q2⟩ := List.getElem?_eq_some_iff.mp e
    simp at q2
  exact { S with len := by rw [S.len]; simp, slot := fun i s e => (none_at e).elim, dist := fun i j d e v h1 _ _ _ => (none_at h1).elim }
end
def nmOf : D → Str
  | .tup (.str n :: _) => n
  | _ => ""
/-- what the def does on its lists -/
theorem ki_open {ρ : EV} {x : Flow} (h : fbKI ρ = some x) : ∃ ds res, ρ.sl[(0 : Nat)]? = some (some (.par 0)) ∧ ρ.ps[(0 : Nat)]? = some (.ins "Kinds" [] []) ∧ 3 < ρ.sl.length ∧ kiSrc ρ = some ds ∧ szOk ds.length ∧ kiR ds [] = some res ∧
    x = (match res with
      | none => .nx (kiEnd ρ ds)
      | some (n, i) => .ex ⟨"DuplicateName", [("name", .str n)]⟩ (kiEnd ρ (ds.take i))) := by
  unfold fbKI at h
  split at h
  · rename_i e0
    split at h
    · rename_i C e1
      split at h
      · rename_i hc
        obtain ⟨rfl, hl⟩ := hc
        split at h
        · rename_i ds e2
          split at h
          · rename_i hz
            split at h
            · rename_i e3; cases h; exact ⟨ds, none, e0, e1, hl, e2, hz, e3, rfl⟩
            · rename_i n i e3; cases h; exact ⟨ds, some (n, i), e0, e1, hl, e2, hz, e3, rfl⟩
            · cases h
          · cases h
        · cases h
      · cases h
    · cases h
  · cases h
theorem kiR_cons {d : D} {ds : List D} {done : List Str} {res : Option (Str × Nat)} (h : kiR (d :: ds) done = some res) :
    ∃ n r, d = .tup (.str n :: r) ∧ ((inV (.str n) (done.map V.str) = true ∧ res = some (n, done.length)) ∨ (inV (.str n) (done.map V.str) = false ∧ kiR ds (done ++ [n]) = some res)) := by
  unfold kiR at h
  split at h
  · rename_i n r
    refine ⟨n, r, rfl, ?_⟩
    split at h
    · rename_i hc; cases h; exact .inl ⟨hc, rfl⟩
    · rename_i hc; exact .inr ⟨by simpa using hc, h⟩
  · cases h
theorem ki_raise {ρ : EV} {n : Str} {r : List D} (h : 3 < ρ.sl.length) : fRaise "DuplicateName" "name" [fNN (fBin ixD (fVar 2) (fC (.int 0)))] (ρ.set 2 (.val (.tup (.str n :: r)))) = some (.ex ⟨"DuplicateName", [("name", .str n)]⟩ (ρ.set 2 (.val (.tup (.str n :: r))))) := by
  have e : (ρ.set 2 (.val (.tup (.str n :: r)))).sl[(2 : Nat)]? = some (some (.val (.tup (.str n :: r)))) := by
    simp only [EV.set]
    exact List.getElem?_set_self (by omega)
  have e1 : fVar 2 (ρ.set 2 (.val (.tup (.str n :: r)))) = some (.ok (.v (.tup (.str n :: r))) (ρ.set 2 (.val (.tup (.str n :: r))))) := by
    unfold fVar
    rw [e]
  simp [fRaise, ofM, evs, fNN, fBin, fC, M.bind, M.ret, e1, op2, EV.look, ixD, atI, ixN, settled]
theorem rep_str0 {K : KW} {G H : Hp} {n : Str} {r : List D} {v : V} (R : Rep K G (.tup (.str n :: r)) v) (e : Same G H) : ∃ p xs, v = .ref p ∧ SqT K H p xs ∧ atI xs 0 = some (.str n) := by
  obtain ⟨a, xs, rfl, h2, h3⟩ := R
  obtain ⟨w, hw, hr⟩ := h3.atI (i := 0) (d := .str n) (by simp [atI, ixN])
  exact ⟨a, xs, rfl, same_t e h2, by rw [hw, show w = _ from hr]⟩
section
variable {X : Cx} {C : Ctl} {W : WX}
theorem kinds_init {o1 o2 o3 it row1 row2 row3 : Expr} {tgr tgo : Expr} {oth : Expr} {p1 p2 p3 p4 p5 p6 p7 p8 p9 q1 q2 q3 q4 q5 q6 q7 q8 q9 : Pos} {j1 j2 j3 : Nat} {scope : Scope}
    (ck : Cls X.K (He.ga X.K "Kinds")) (na : NoAttr X.K (He.ga X.K "Kinds") "rows") (er : ErrF X.prog X.w X.K X.mg X.base "DuplicateName" "name") (hgt : Gl X "tuple") (hmt : X.mg "tuple" = none) (hnd : X.N.Nodup) (tk : Takes X W) (hp : PassesOwn (model X.prog X.w) X.A X.env X.xe) (hr : Room 2 X.A) (hcalm : X.calm = true)
    (hgd : Gl X "DuplicateName") (h1 : PE X o1 (tVar 0)) (h2 : PE X o2 (tVar 0)) (h3 : PE X o3 (tVar 0)) (hit : PE X it (tVar 1)) (hr1 : PE X row1 (tVar 2)) (hr2 : PD X C W row2 (fVar 2)) (hr3 : PE X row3 (tVar 2)) (hgr : PG X tgr (gName 2))
    (ok : BlkOk X.N X.env.scope scope [("other", 3)]) (hgo : ∀ (s : Shared) (H : Hp) (c : Addr) (cl : List (Str × Addr)) (fp : List Addr), PG (X.blk s H scope (compEnvC scope cl c X.env) fp) tgo (gName 3))
    (ho : ∀ (s : Shared) (H : Hp) (c : Addr) (cl : List (Str × Addr)) (fp : List Addr), PE (X.blk s H scope (compEnvC scope cl c X.env) fp) oth (tVar 3))
    (hs1 : swapsWith (.List [] q1) (some (.Attribute o1 "rows" p1)) p2.line X.env = pure false := by rfl)
    (hb2 : attributeBase o2 "rows" X.env (eval o2 X.env) = eval o2 X.env := by rfl) (hb3 : attributeBase o3 "rows" X.env (eval o3 X.env) = eval o3 X.env := by rfl) (hfs : ∀ x, foldedSetIterable it X.env x = pure x := by intro _; rfl)
    (hfs2 : ∀ x, foldedSetIterable (.Attribute o2 "rows" p3) X.env x = pure x := by intro _; rfl) (hsd : starEach [.Subscript row2 (.Constant (.int 0) j2 q2) q3] X.env = (false, eval (.Subscript row2 (.Constant (.int 0) j2 q2) q3) X.env) :: starEach [] X.env := by rfl)
    (hst : starEach [row3] X.env = (false, eval row3 X.env) :: starEach [] X.env := by rfl) (hplt : (backTo q5 (starEach [] X.env)).any (·.1) = false := by rfl) (hpld : (backTo q4 (starEach [] X.env)).any (·.1) = false := by rfl)
    (hba : attributeBase (.Attribute o3 "rows" p4) "append" X.env (eval (.Attribute o3 "rows" p4) X.env) = eval (.Attribute o3 "rows" p4) X.env := by rfl)
    (hsa : starEach [.Call (.Name "tuple" q6) [row3] [] q5] X.env = [(false, eval (.Call (.Name "tuple" q6) [row3] [] q5) X.env)] := by rfl) (hla : (p5.endLine == q7.line) = true := by rfl)
    (hse : swapsWith (.Call (.Attribute (.Attribute o3 "rows" p4) "append" p5) [.Call (.Name "tuple" q6) [row3] [] q5] [] q7) none p6.line X.env = pure false := by rfl)
    (hsx : PlainIx (.Constant (.int 0) j1 q8) := by exact fun _ _ => rfl) (hsy : PlainIx (.Constant (.int 0) j2 q2) := by exact fun _ _ => rfl) (hsz : PlainIx (.Constant (.int 0) j3 q9) := by exact fun _ _ => rfl) {pA pB pC pD pE : Pos}
    (hra : PAs X C W [.Subscript row2 (.Constant (.int 0) j2 q2) q3] (evs [fNN (fBin ixD (fVar 2) (fC (.int 0)))])) :
    PQs X C W [.Assign [.Attribute o1 "rows" p1] (.List [] q1) p2,
      .For tgr it [.If (.Compare (.Subscript row1 (.Constant (.int 0) j1 q8) pA) [.In] [.ListComp (.Subscript oth (.Constant (.int 0) j3 q9) pB) [⟨tgo, .Attribute o2 "rows" p3, [], 0⟩] scope pC] pD)
          [.Raise (some (.Call (.Name "DuplicateName" pE) [.Subscript row2 (.Constant (.int 0) j2 q2) q3] [] q4)) none p7] [] p8,
        .Expr (.Call (.Attribute (.Attribute o3 "rows" p4) "append" p5) [.Call (.Name "tuple" q6) [row3] [] q5] [] q7) p6] [] p9] fbKI := by
  have D0 := pss_cons (ps_fld (f := "rows") h1 (pe_lst (pos := q1) pa_nil) hs1) (pss_one (ps_for (pos := p9) hp hcalm (pi_list hit) hgr
    (pss_cons (ps_if (pos := p8) (pt_cmpR (pos := pD) op_in_seq (pe_ix (pos := pA) ix_tup hr1 pe_int hsx)
        (pe_lc (pos := pC) hcalm hnd (pi_list (pe_fld (pos := p3) h2 hb2)) ok hgo (fun _ _ _ _ _ => pts_nil) (fun s H c cl fp => pe_ix (pos := pB) (r := rIxT X.K) (by exact ix_tup) (ho s H c cl fp) pe_int hsz) hfs2) (by rfl))
        (pss_one (pq_raise (px := pE) (pos' := p7) (fl := "name") er.ok hcalm tk hr hgd hra (by decide) hsd hpld)) pss_nil)
      (pss_one (ps_expr (pos := p6) (pe_bm (cpos := q7) (apos := p5) PySem.F.plainAttrs_list PySem.F.slot_list_append PySem.F.type_list_append mt_append (pe_fld (pos := p4) h3 hb3)
        (pa_cons (pe_callTy (p := q6) (pos := q5) call_tupleT hgt hmt (by rfl) (pa_cons hr3 pa_nil hst) (by decide) (by decide) hst hplt) pa_nil hsa) hba (by rfl) hla hsa (by rfl)) hse))) hfs))
  refine ⟨fun pins s σ H E I q => D0.run pins s σ H E I ?_⟩
  obtain ⟨G, ρ, fx, S, hf, P⟩ := q
  obtain ⟨ds, res, e0, e1, hlen, e2, hz, e3, rfl⟩ := ki_open hf
  obtain ⟨v0, s0, x, rfl, hx⟩ := S.slot 0 _ e0
  obtain ⟨gx, dx, vs0, Hx, R0⟩ := S.par 0 x _ hx e1
  have Hx : H x = some (.ins (He.ga X.K "Kinds") dx []) := by simpa using Hx
  obtain ⟨r, vs, s1, Hr, RL⟩ := kiSrc_ok S e2
  have hlv : ds.length = vs.length := RL.length
  have hszv : vs.length ≤ sizeLine := by rw [← hlv]; exact hz.line
  have sl : σ.length = ρ.sl.length := S.len
  refine ⟨Nat.zero_le _, fun l hl => ?_⟩
  have hxl : x ≠ l := ne_of_none (o := _) Hx hl
  have hrl : r ≠ l := ne_of_none (o := _) Hr hl
  have hrx : r ≠ x := fun z => by rw [z, Hx] at Hr; cases Hr
  refine ⟨.ref x, s0, x, He.ga X.K "Kinds", dx, [], rfl, by rw [upd_ne hxl]; exact Hx, ck, na, by decide, ?_⟩
  refine ⟨.ref r, s1, r, rfl, ⟨vs, SqL.of (by rw [upd_ne hrx, upd_ne hrl]; exact Hr)⟩, ?_⟩
  have R (i : Nat) : RepL X.kw G (ds.take i) (vs.take i) := RL.take i
  -- the state behind i turns
  let Pv : Nat → L2.St → Hp → Prop := fun i σ' H' => σ'.length = σ.length ∧ σ'[(0 : Nat)]? = some (some (.ref x)) ∧ H' x = some (.ins (He.ga X.K "Kinds") dx [("rows", .ref l)]) ∧ H' l = some (.lst (vs.take i)) ∧
    (∀ b o, H b = some o → b ≠ x → H' b = some o) ∧ (∀ d ∈ ds.take i, ∃ n r, d = .tup (.str n :: r)) ∧ kiR (ds.drop i) ((ds.take i).map nmOf) = some res
  refine for_list Pv ⟨rfl, s0, by rw [upd_same]; rfl, by rw [upd_ne (Ne.symm hxl), upd_same]; rfl, fun b o hb hn => by rw [upd_ne hn, upd_ne (ne_of_none hb hl)]; exact hb, by simp, by simpa using e3⟩
    (fun i σ' H' _ p => SqL.of (p.2.2.2.2.1 r _ Hr hrx)) ?_ ?_
  · rintro i v σ' H' hv ⟨p1, p2, p3, p4, p5, p6, p7⟩
    obtain ⟨d, hd, Rd⟩ := RL.back hv
    have hi : i < ds.length := (List.getElem?_eq_some_iff.mp hd).1
    have hdr : ds.drop i = d :: ds.drop (i + 1) := by
      rw [List.drop_eq_getElem_cons hi]
      rw [(List.getElem?_eq_some_iff.mp hd).2]
    rw [hdr] at p7
    obtain ⟨n, rr, rfl, p8⟩ := kiR_cons p7
    have sub' : Same G H' := fun b o e => p5 b o (S.sub b o e) (fun z => by rw [z, gx] at e; cases e)
    obtain ⟨pr, xs, rfl, hq, hat⟩ := rep_str0 Rd sub'
    have hσ0 : (σ'.set 2 (some (V.ref pr)))[(0 : Nat)]? = some (some (.ref x)) := by rw [List.getElem?_set_ne (by decide)]; exact p2
    have hσ2 : (σ'.set 2 (some (V.ref pr)))[(2 : Nat)]? = some (some (.ref pr)) := List.getElem?_set_self (by omega)
    refine ⟨.ref pr, hσ2, pr, xs, 0, .str n, rfl, rfl, hq, hat, ?_⟩
    refine ⟨.ref x, hσ0, x, He.ga X.K "Kinds", dx, [("rows", .ref l)], .ref l, rfl, p3, ck, na, by simp, l, rfl, ⟨vs.take i, SqL.of p4⟩, fun Dd hD => ?_⟩
    have hDl : l ≠ Dd := ne_of_none (o := _) p4 hD
    have hDx : x ≠ Dd := ne_of_none (o := _) p3 hD
    have hil : ((ds.take i).map nmOf).length = i := by simp; omega
    refine lc_list (fun j Hh => Hh = upd H' Dd (.lst ((((ds.take j).map nmOf)).map V.str))) rfl (fun j Hh _ e => by subst e; exact SqL.of (by rw [upd_ne hDl]; exact p4)) ?_ ?_
    · rintro j w Hh hw rfl
      obtain ⟨dj, hdj, Rj⟩ := (R i).back hw
      have hj : j < i := by
        have := (List.getElem?_eq_some_iff.mp hdj).1
        simp at this; omega
      obtain ⟨nj, rj, rfl⟩ := p6 dj (List.mem_of_getElem? hdj)
      have sub2 : Same G (upd H' Dd (.lst ((((ds.take j).map nmOf)).map V.str))) := fun b o e => by rw [upd_ne (ne_of_none (sub' b o e) hD)]; exact sub' b o e
      obtain ⟨pj, ys, rfl, hqj, hatj⟩ := rep_str0 Rj sub2
      refine ⟨by simp [wipe, List.set_set], ?_⟩
      simp only [tYes, if_true]
      refine ⟨.ref pj, List.getElem?_set_self (by simp [wipe]; omega), pj, ys, 0, .str nj, rfl, rfl, hqj, hatj, _, upd_same, by simp; omega, ?_⟩
      rw [upd_upd]
      congr 1
      have hdj2 : ds[j]? = some (.tup (.str nj :: rj)) := by
        rw [List.getElem?_take] at hdj; simpa [hj] using hdj
      rw [List.take_add_one, hdj2]
      simp [nmOf]
    · rintro Hh rfl
      have hlt : (vs.take i).length = i := by simp; omega
      rw [hlt]
      refine ⟨Dd, ((ds.take i).map nmOf).map V.str, rfl, .inl (SqL.of upd_same), rfl, List.all_eq_true.mpr fun z hz => (by obtain ⟨w, _, rfl⟩ := List.mem_map.mp hz; rfl), ?_⟩
      refine ⟨_, rfl, ?_⟩
      have keep2 : ∀ b o, H b = some o → b ≠ x → upd H' Dd (.lst (((ds.take i).map nmOf).map V.str)) b = some o := fun b o hb hn => by rw [upd_ne (ne_of_none (p5 b o hb hn) hD)]; exact p5 b o hb hn
      have S1 := kiSta S (σ' := σ') hx hl (H' := upd H' Dd (.lst (((ds.take i).map nmOf).map V.str))) (by rw [upd_ne hDx]; exact p3) (by rw [upd_ne hDl]; exact p4) (R i) keep2 p1
      have eG : Same G (upd G l (.lst (vs.take i))) := fun b u e => by rw [upd_ne (ne_of_none e (S.free hl).2.1)]; exact e
      rcases p8 with ⟨hin, rfl⟩ | ⟨hin, p8⟩
      · rw [show (if false = true then !inV (.str n) (((ds.take i).map nmOf).map V.str) else inV (.str n) (((ds.take i).map nmOf).map V.str)) = true from hin]
        simp only [if_true]
        have S2 := S1.setVal (Rd.mono eG) 2
        refine ⟨_, _, .ex ⟨"DuplicateName", [("name", .str n)]⟩ ((kiEnd ρ (ds.take i)).set 2 (.val (.tup (.str n :: rr)))), S2, ki_raise (by simp [kiEnd]; exact hlen), ?_⟩
        rw [hil] at P
        intro c dd σ2 G2 H2 e2' S3 X3
        refine P c dd σ2 G2 H2 (eG.trans e2') ?_ X3
        have S4 := S3.forget
        simpa [kiEnd, EV.set] using S4
      · rw [show (if false = true then !inV (.str n) (((ds.take i).map nmOf).map V.str) else inV (.str n) (((ds.take i).map nmOf).map V.str)) = false from hin]
        simp only [Bool.false_eq_true, if_false]
        refine ⟨.ref x, hσ0, x, He.ga X.K "Kinds", dx, [("rows", .ref l)], .ref l, rfl, by rw [upd_ne hDx]; exact p3, ck, na, by simp, ?_⟩
        have hlD : upd H' Dd (.lst (((ds.take i).map nmOf).map V.str)) l = some (.lst (vs.take i)) := by rw [upd_ne hDl]; exact p4
        refine ⟨.inl ⟨rfl, vs.take i, SqL.of hlD⟩, ?_⟩
        have hq2 : SqT X.K (upd H' Dd (.lst (((ds.take i).map nmOf).map V.str))) pr xs := same_t (fun b o e => by rw [upd_ne (ne_of_none e hD)]; exact e) hq
        refine ⟨.ref pr, hσ2, pr, xs, rfl, hq2, l, vs.take i, .ref pr, rfl, rfl, hlD, by omega, ?_⟩
        refine ⟨by simp [p1], hσ0, by rw [upd_ne hxl, upd_ne hDx]; exact p3, by rw [upd_same, List.take_add_one, hv]; rfl, fun b o hb hn => by rw [upd_ne (ne_of_none hb hl)]; exact keep2 b o hb hn, ?_, ?_⟩
        · intro d hd'
          rw [List.take_add_one, hd] at hd'
          rcases List.mem_append.mp hd' with hd' | hd'
          · exact p6 d hd'
          · simp at hd'; exact ⟨n, rr, hd'⟩
        · rw [List.take_add_one, hd]
          simpa [nmOf] using p8
  · rintro σ' H' ⟨p1, p2, p3, p4, p5, p6, p7⟩
    rw [← hlv] at p4 p7
    have : res = none := by
      rw [List.drop_length] at p7
      simpa [kiR] using p7.symm
    subst this
    have eG : Same G (upd G l (.lst (vs.take ds.length))) := fun b u e => by rw [upd_ne (ne_of_none e (S.free hl).2.1)]; exact e
    have S1 := kiSta S (σ' := σ') hx hl p3 p4 (R ds.length) p5 p1
    rw [List.take_length] at S1
    exact P σ' _ H' eG S1
end
end DL
set_option Elab.async false
set_option linter.all false
set_option maxRecDepth 100000
set_option maxHeartbeats 4000000
/-! DMb: the def __len__ of a class with a list field, as the hint of list(o). -/
namespace DL
open PySem PySem.Spec PyProof.Rows L2
section
variable {P : Program} {w : World} {K : PySem.W.Frag} {mg : Str → Option Value} {base : Heap} {f : Addr} {N : List Str} {x : Str}
theorem ln_dl {fld : Str} {name qual : Str} {st : Stmt} {fd : FuncData} (F : FunD K name qual (defArgs st) (defBody st) (defScope st) [] [] f fd) (S : FnScope N ["self"] (defScope st)) (h : Meth K (He.ga K x) "__len__" f)
    (hb0 : ∀ (kV doc pm : Value) (an : Option Addr) (cdv ct : Value) (us : List Value), us.length = (["self"] : List Str).length → bindArgs (PySem.W.fnOf name qual (defArgs st) (defBody st) (defScope st) .none kV doc pm an cdv ct) ⟨us, []⟩ = pure ((["self"] : List Str).zip us))
    (hb : ∀ (cdv : Value) (A : Around) (outer : List Env) (s : Shared) (H : Hp) (E : XK),
      PSs (cxOf (L2.CX P w) P w K mg base N qual (defScope st) f cdv A outer s H E) (defBody st) (fun D σ H => ∃ a, σ[0]? = some (some (.ref a)) ∧ spLn (He.ga K x) fld K [.ref a] H D.rt (fun _ _ _ => False))) : LnD P w K mg base 1 x fld := by
  refine ⟨f, h.at_, h.fn, ?_⟩
  have D : FnOk P w K mg base (L2.CX P w) 1 f fd ["self"] (spLn (He.ga K x) fld K) := F.ok (k := 0) S (fun vs H Q E h => by obtain ⟨a, _, _, _, _, e, _⟩ := h; rw [e]; rfl) fun cdv A outer s H vs Q E hr q => ⟨_, hb cdv A outer s H E, by
    obtain ⟨a, dx, fs, l', xs, rfl, q1, q2, q3, q4⟩ := q
    exact ⟨a, rfl, a, dx, fs, l', xs, rfl, q1, q2, q3, q4⟩⟩
  exact (D.raw (F.bindsN hb0) (dvs := []) .nil).imp fun vs H Q E h => by rw [List.append_nil]; exact h
end
end DL
set_option Elab.async false
set_option linter.all false
set_option maxRecDepth 100000
set_option maxHeartbeats 4000000
/-! DMc: an own object lent for a while, as if the caller held it. -/
namespace DL
open PySem PySem.Spec PyProof.Rows L2

def EV.lent (ρ : EV) (i : Nat) (d : D) : EV := ⟨ρ.sl.set i (some (.par ρ.ps.length)), ρ.ps ++ [d]⟩
/-- no slot but i holds the lent one -/
def soleB (i n : Nat) (ρ : EV) : Bool := (List.range ρ.sl.length).all fun j => decide (j = i) || (match ρ.sl[j]? with
  | some (some (.par k)) => decide (k ≠ n)
  | _ => true)
def EV.back (ρ : EV) (i n : Nat) : Option EV := match ρ.sl[i]? with
  | some (some (.par k)) => if k = n ∧ soleB i n ρ = true then (match ρ.ps[n]? with
    | some d => some ⟨ρ.sl.set i (some (.own d)), ρ.ps.take n⟩
    | none => none) else none
  | _ => none
def XR.back {α : Type} (i n : Nat) : XR α → Option (XR α)
  | .ok a ρ => (match ρ.back i n with
    | some ρ' => some (.ok a ρ')
    | none => none)
  | .ex e ρ => (match ρ.back i n with
    | some ρ' => some (.ex e ρ')
    | none => none)
def Flow.back (i n : Nat) : Flow → Option Flow
  | .nx ρ => (match ρ.back i n with
    | some ρ' => some (.nx ρ')
    | none => none)
  | .ret (.v d) ρ => (match ρ.back i n with
    | some ρ' => some (.ret (.v d) ρ')
    | none => none)
  | .ex e ρ => (match ρ.back i n with
    | some ρ' => some (.ex e ρ')
    | none => none)
  | _ => none
def fLend {α : Type} (i : Nat) (f : M α) : M α := fun ρ => match ρ.sl[i]? with
  | some (some (.own d)) => (match f (ρ.lent i d) with
    | some x => XR.back i ρ.ps.length x
    | none => none)
  | _ => f ρ
def fLendS (i : Nat) (f : F) : F := fun ρ => match ρ.sl[i]? with
  | some (some (.own d)) => (match f (ρ.lent i d) with
    | some x => Flow.back i ρ.ps.length x
    | none => none)
  | _ => f ρ
section
variable {K : KW} {C : Ctl} {G G' H H' : Hp} {σ σ' : L2.St} {ρ ρ' ρ2 : EV} {i : Nat} {d : D} {a : Addr} {o : HO}
abbrev Ctl.lent (C : Ctl) (a : Addr) (o : HO) : Ctl := ⟨upd C.H0 a o, C.G0, C.A0 ++ [a], C.xa⟩
theorem Sta.lent (S : Sta K C G H σ ρ) (e : ρ.sl[i]? = some (some (.own d))) (hv : σ[i]? = some (some (.ref a))) (ho : H a = some o) : Sta K (C.lent a o) G H σ (ρ.lent i d) := by
  obtain ⟨v, q1, a', q2, ga, h0, w⟩ := S.slot i _ e
  rw [hv] at q1; cases q1; cases q2
  have hA : a ∉ C.A0 := fun z => by
    obtain ⟨u, hu⟩ := S.pin a z
    rw [h0] at hu; cases hu
  have hi : i < ρ.sl.length := (List.getElem?_eq_some_iff.mp e).1
  have ne : ∀ {j : Nat} {z : Slot}, (ρ.lent i d).sl[j]? = some (some z) → (j = i ∧ z = .par ρ.ps.length) ∨ (j ≠ i ∧ ρ.sl[j]? = some (some z)) := fun {j z} q => by
    by_cases hj : j = i
    · subst hj
      left
      simp only [EV.lent, List.getElem?_set_self hi] at q
      cases q; exact ⟨rfl, rfl⟩
    · right
      simp only [EV.lent, List.getElem?_set_ne (Ne.symm hj)] at q
      exact ⟨hj, q⟩
  exact
    { sub := S.sub, old := S.old
      new := fun b u q => by
        rcases S.new b u q with z | z
        · exact .inl z
        · exact .inr (by
            show upd C.H0 a o b = none
            rw [upd_ne (fun z => by rw [z, ga] at q; cases q)]; exact z)
      base := fun b u q hb => by
        have hba : b ≠ a := fun z => hb (by simp [z])
        have q' : C.H0 b = some u := by
          have q : upd C.H0 a o b = some u := q
          rwa [upd_ne hba] at q
        exact S.base b u q' (fun z => hb (by simp [z]))
      len := by simp [EV.lent, S.len]
      slot := fun j s q => by
        rcases ne q with ⟨rfl, rfl⟩ | ⟨hj, q⟩
        · exact ⟨.ref a, hv, a, rfl, by rw [S.plen]; simp⟩
        · obtain ⟨v, h1, h2⟩ := S.slot j s q
          refine ⟨v, h1, ?_⟩
          cases s with
          | val x => exact h2
          | own x =>
            obtain ⟨b, rfl, g1, g2, g3⟩ := h2
            refine ⟨b, rfl, g1, ?_, g3⟩
            show upd C.H0 a o b = none
            rw [upd_ne (fun z => hj (S.dist j i x d (.ref a) q e (by rw [h1, z]) hv))]
            exact g2
          | par k =>
            obtain ⟨b, rfl, g1⟩ := h2
            exact ⟨b, rfl, by rw [List.getElem?_append_left (List.getElem?_eq_some_iff.mp g1).1]; exact g1⟩
          | xn => exact h2
      dist := fun j j' x y v h1 h2 h3 h4 => by
        rcases ne h1 with ⟨_, z⟩ | ⟨_, h1⟩
        · cases z
        rcases ne h2 with ⟨_, z⟩ | ⟨_, h2⟩
        · cases z
        exact S.dist j j' x y v h1 h2 h3 h4
      plen := by simp [EV.lent, S.plen]
      par := fun k b x h1 h2 => by
        by_cases hk : k < C.A0.length
        · rw [List.getElem?_append_left hk] at h1
          have h2 : (ρ.ps ++ [d])[k]? = some x := h2
          rw [List.getElem?_append_left (by rw [S.plen]; exact hk)] at h2
          exact S.par k b x h1 h2
        · have hk1 := (List.getElem?_eq_some_iff.mp h1).1
          simp at hk1
          have hk2 : k = C.A0.length := by omega
          subst hk2
          simp at h1
          have h2 : (ρ.ps ++ [d])[C.A0.length]? = some x := h2
          rw [← S.plen] at h2
          simp at h2
          subst h1 h2
          exact ⟨ga, w⟩
      pnd := by
        rw [List.nodup_append]
        exact ⟨S.pnd, by simp, fun x hx y hy => by simp at hy; subst hy; exact fun z => hA (z ▸ hx)⟩
      pin := fun x hx => by
        rcases List.mem_append.mp hx with z | z
        · obtain ⟨u, hu⟩ := S.pin x z
          exact ⟨u, by show upd C.H0 a o x = some u; rw [upd_ne (fun q : x = a => hA (by rw [← q]; exact z))]; exact hu⟩
        · simp at z; subst z; exact ⟨o, upd_same⟩ }
theorem back_ok (h : ρ'.back i n = some ρ2) : ∃ d, ρ'.sl[i]? = some (some (.par n)) ∧ soleB i n ρ' = true ∧ ρ'.ps[n]? = some d ∧ ρ2 = ⟨ρ'.sl.set i (some (.own d)), ρ'.ps.take n⟩ := by
  unfold EV.back at h
  split at h
  · rename_i k e
    split at h
    · rename_i hk
      obtain ⟨rfl, hs⟩ := hk
      split at h
      · rename_i d e2; cases h; exact ⟨d, e, hs, e2, rfl⟩
      · cases h
    · cases h
  · cases h
theorem sole_ok {n j : Nat} (h : soleB i n ρ = true) (hj : j ≠ i) : ρ.sl[j]? ≠ some (some (.par n)) := fun e => by
  unfold soleB at h
  have := List.all_eq_true.mp h j (List.mem_range.mpr (List.getElem?_eq_some_iff.mp e).1)
  rw [e] at this
  simp [hj] at this
theorem Sta.back (S : Sta K C G H σ ρ) (ga : G a = none) (h0 : C.H0 a = none) (S' : Sta K (C.lent a o) G' H' σ' ρ') (hb : ρ'.back i ρ.ps.length = some ρ2) :
    Sta K C G' H' σ' ρ2 ∧ ∀ r v, RepR K (C.lent a o) G' H' σ' ρ' r v → RepR K C G' H' σ' ρ2 r v := by
  obtain ⟨d, e1, e2, e3, rfl⟩ := back_ok hb
  have hi : i < ρ'.sl.length := (List.getElem?_eq_some_iff.mp e1).1
  have hn : ρ.ps.length = C.A0.length := S.plen
  obtain ⟨v0, hv0, a0, rfl, ea0⟩ := S'.slot i _ e1
  have ea : a0 = a := by rw [hn] at ea0; simpa using ea0.symm
  subst ea
  obtain ⟨ga', w'⟩ := S'.par _ a0 d ea0 e3
  have hH0 : (C.lent a0 o).H0 a0 = some o := upd_same
  have ne : ∀ {j : Nat} {z : Slot}, (ρ'.sl.set i (some (.own d)))[j]? = some (some z) → (j = i ∧ z = .own d) ∨ (j ≠ i ∧ ρ'.sl[j]? = some (some z)) := fun {j z} q => by
    by_cases hj : j = i
    · subst hj
      left
      rw [List.getElem?_set_self hi] at q
      cases q; exact ⟨rfl, rfl⟩
    · right
      rw [List.getElem?_set_ne (Ne.symm hj)] at q
      exact ⟨hj, q⟩
  have nea : ∀ {b : Addr}, (C.lent a0 o).H0 b = none → b ≠ a0 ∧ C.H0 b = none := fun {b} z => by
    have hba : b ≠ a0 := fun q => by rw [q, hH0] at z; cases z
    refine ⟨hba, ?_⟩
    have z : upd C.H0 a0 o b = none := z
    rwa [upd_ne hba] at z
  refine ⟨
    { sub := S'.sub, old := S'.old
      new := fun b u q => by
        rcases S'.new b u q with z | z
        · exact .inl z
        · exact .inr (nea z).2
      base := fun b u q hb => by
        have hba : b ≠ a0 := fun z => by rw [z, h0] at q; cases q
        exact S'.base b u (by show upd C.H0 a0 o b = some u; rw [upd_ne hba]; exact q) (fun z => by
          rcases List.mem_append.mp z with z | z
          · exact hb z
          · simp at z; exact hba z)
      len := by simp [S'.len]
      slot := fun j s q => by
        rcases ne q with ⟨rfl, rfl⟩ | ⟨hj, q⟩
        · exact ⟨_, hv0, a0, rfl, ga', h0, w'⟩
        · obtain ⟨v, h1, h2⟩ := S'.slot j s q
          refine ⟨v, h1, ?_⟩
          cases s with
          | val x => exact h2
          | own x =>
            obtain ⟨b, rfl, g1, g2, g3⟩ := h2
            exact ⟨b, rfl, g1, (nea g2).2, g3⟩
          | par k =>
            obtain ⟨b, rfl, g1⟩ := h2
            refine ⟨b, rfl, ?_⟩
            have hk := (List.getElem?_eq_some_iff.mp g1).1
            simp at hk
            have hk2 : k ≠ ρ.ps.length := fun z => sole_ok e2 hj (z ▸ q)
            rwa [List.getElem?_append_left (by omega)] at g1
          | xn => exact h2
      dist := fun j j' x y v h1 h2 h3 h4 => by
        rcases ne h1 with ⟨z1, _⟩ | ⟨_, k1⟩ <;> rcases ne h2 with ⟨z2, _⟩ | ⟨_, k2⟩
        · rw [z1, z2]
        · subst z1
          obtain ⟨v', q1, b, q2, _, g2, _⟩ := S'.slot j' _ k2
          rw [h4] at q1; cases q1
          rw [hv0] at h3; cases h3; cases q2
          exact absurd rfl (nea g2).1
        · subst z2
          obtain ⟨v', q1, b, q2, _, g2, _⟩ := S'.slot j _ k1
          rw [h3] at q1; cases q1
          rw [hv0] at h4; cases h4; cases q2
          exact absurd rfl (nea g2).1
        · exact S'.dist j j' x y v k1 k2 h3 h4
      plen := by
        have := S'.plen
        simp at this
        simp; omega
      par := fun k b x h1 h2 => by
        have hk := (List.getElem?_eq_some_iff.mp h1).1
        rw [List.getElem?_take_of_lt (by omega)] at h2
        exact S'.par k b x (by rw [List.getElem?_append_left hk]; exact h1) h2
      pnd := S.pnd, pin := S.pin }, fun r v q => ?_⟩
  cases r with
  | v x => exact q
  | s j => exact q
  | n x =>
    obtain ⟨b, rfl, g1, g2, g3, g4⟩ := q
    refine ⟨b, rfl, g1, (nea g2).2, g3, fun j y h1 h2 => ?_⟩
    rcases ne h1 with ⟨rfl, _⟩ | ⟨_, h1⟩
    · rw [hv0] at h2; cases h2
      exact (nea g2).1 rfl
    · exact g4 j y h1 h2
end
section
variable {X : Cx} {C : Ctl} {W : WX} {e : Expr} {st : Stmt} {f : M R} {p : F}
theorem lend_go (S : Sta X.kw C G H σ ρ) (h : ρ.sl[i]? = some (some (.own d))) : ∃ a o, G a = none ∧ C.H0 a = none ∧ Sta X.kw (C.lent a o) G H σ (ρ.lent i d) := by
  obtain ⟨v, q1, a, rfl, ga, h0, w⟩ := S.slot i _ h
  obtain ⟨o, ho⟩ := w.there
  exact ⟨a, o, ga, h0, S.lent h q1 ho⟩
theorem pd_lend (i : Nat) (h : ∀ C', PD X C' W e f) : PD X C W e (fLend i f) := PE.by fun σ H Q ⟨G, ρ, x, S, hf, P⟩ => by
  unfold fLend at hf
  split at hf
  · rename_i d es
    obtain ⟨a, o, ga, h0, S1⟩ := lend_go S es
    split at hf
    · rename_i y ey
      refine ⟨_, h (C.lent a o), G, _, y, S1, ey, ?_⟩
      cases y with
      | ok r ρ1 =>
        have hf : (match ρ1.back i ρ.ps.length with
          | some ρ' => some (XR.ok r ρ')
          | none => none) = some x := hf
        split at hf
        · rename_i ρ2 hb
          cases hf
          intro v G1 H1 e1 S2 R2
          obtain ⟨S3, k⟩ := S.back (G' := G1) (ga) h0 S2 hb
          exact P v G1 H1 e1 S3 (k r v R2)
        · cases hf
      | ex q ρ1 =>
        have hf : (match ρ1.back i ρ.ps.length with
          | some ρ' => some (XR.ex q ρ')
          | none => none) = some x := hf
        split at hf
        · rename_i ρ2 hb
          cases hf
          intro c dd G1 H1 e1 S2 R2
          exact P c dd G1 H1 e1 (S.back ga h0 S2 hb).1 R2
        · cases hf
    · cases hf
  · exact ⟨_, h C, G, ρ, x, S, hf, P⟩
theorem pq_lend (i : Nat) (h : ∀ C', PQ X C' W st p) : PQ X C W st (fLendS i p) := PS.by fun E σ H ⟨G, ρ, x, S, hf, P⟩ => by
  unfold fLendS at hf
  split at hf
  · rename_i d es
    obtain ⟨a, o, ga, h0, S1⟩ := lend_go S es
    split at hf
    · rename_i y ey
      refine ⟨_, h (C.lent a o), G, _, y, S1, ey, ?_⟩
      cases y with
      | nx ρ1 =>
        have hf : (match ρ1.back i ρ.ps.length with
          | some ρ' => some (Flow.nx ρ')
          | none => none) = some x := hf
        split at hf
        · rename_i ρ2 hb
          cases hf
          exact fun σ1 G1 H1 e1 S2 => P σ1 G1 H1 e1 (S.back ga h0 S2 hb).1
        · cases hf
      | ret r ρ1 =>
        cases r with
        | v dd =>
          have hf : (match ρ1.back i ρ.ps.length with
            | some ρ' => some (Flow.ret (.v dd) ρ')
            | none => none) = some x := hf
          split at hf
          · rename_i ρ2 hb
            cases hf
            exact fun v σ1 G1 H1 e1 S2 R2 => P v σ1 G1 H1 e1 (S.back ga h0 S2 hb).1 R2
          · cases hf
        | _ => cases hf
      | ex q ρ1 =>
        have hf : (match ρ1.back i ρ.ps.length with
          | some ρ' => some (Flow.ex q ρ')
          | none => none) = some x := hf
        split at hf
        · rename_i ρ2 hb
          cases hf
          exact fun c dd σ1 G1 H1 e1 S2 R2 => P c dd σ1 G1 H1 e1 (S.back ga h0 S2 hb).1 R2
        · cases hf
      | bk _ => cases hf
      | ct _ => cases hf
    · cases hf
  · exact ⟨_, h C, G, ρ, x, S, hf, P⟩
end
end DL
set_option Elab.async false
set_option linter.all false
set_option maxRecDepth 100000
set_option maxHeartbeats 4000000
/-! DMd: D[x] of a dict of the module; more forms. -/
namespace DL
open PySem PySem.Spec PyProof.Rows L2
section
variable {X : Cx} {C : Ctl} {W : WX} {b : Expr} {pos : Pos} {g : M R}
theorem pd_ixKD {kvs : List (Str × D)} {x : Str} {px : Pos} (h : GDict X.K X.w X.mg x kvs) (hb : PD X C W b g) (hg : Gl X x) (hd : (x == ("__debug__" : Str)) = false := by decide) (hs : PlainIx b := by exact fun _ _ => rfl) :
    PD X C W (.Subscript (.Name x px) b pos) (fUn (ixKD kvs) g) := by
  obtain ⟨da, es, n, hm, Dk, Kk⟩ := h.ex
  refine PE.of (pe_ix ix_kdict (pe_glob (v := .ref da) hg hm rfl hd) hb hs) fun σ H Q ⟨G, ρ, x, S, hf, P⟩ => ?_
  refine tD.seq S hf P fun r ρ1 v G1 H1 e1 S1 R1 h2 P1 => ?_
  obtain ⟨d, q, l, hk, rfl⟩ := op1_ok h2
  unfold ixKD at hk
  split at hk
  · rename_i z
    split at hk
    · rename_i d0 hl
      cases hk
      obtain ⟨r, hr, hs, hv⟩ := Kk z
      obtain ⟨u, v0, rfl, rv, rp⟩ := hv _ hl
      exact ⟨da, z, v0, rfl, S1.look R1 l, ⟨es, n, u, Dk.at_, Dk.lit, hr, rv⟩, P1 v0 G1 H1 (Same.refl _) S1 (rp G1)⟩
    · cases hk
  · cases hk
end
end DL
set_option Elab.async false
set_option linter.all false
set_option maxRecDepth 100000
set_option maxHeartbeats 4000000
/-! DP: what a reading does, by weakest conditions: plain data alone. -/
namespace DL
open PySem PySem.Spec PyProof.Rows
structure Ko where
  nx : EV → Prop
  rt : R → EV → Prop
  bk : EV → Prop
  ct : EV → Prop
  ex : XD → EV → Prop
def wm {α : Type} (f : M α) (ρ : EV) (Q : α → EV → Prop) (X : XD → EV → Prop) : Prop := match f ρ with
  | some (.ok a ρ') => Q a ρ'
  | some (.ex e ρ') => X e ρ'
  | none => False
def wf (f : F) (ρ : EV) (E : Ko) : Prop := match f ρ with
  | some (.nx ρ') => E.nx ρ'
  | some (.ret r ρ') => E.rt r ρ'
  | some (.bk ρ') => E.bk ρ'
  | some (.ct ρ') => E.ct ρ'
  | some (.ex e ρ') => E.ex e ρ'
  | none => False
section
variable {α β : Type} {f g h : M R} {p q : F} {ρ : EV} {E : Ko} {Q : R → EV → Prop} {X : XD → EV → Prop}
theorem wm_bind {f : M α} {g : α → M β} {Q : β → EV → Prop} : wm (f.bind g) ρ Q X = wm f ρ (fun a ρ' => wm (g a) ρ' Q X) X := by
  unfold wm M.bind
  cases f ρ with
  | none => rfl
  | some x => cases x <;> rfl
theorem wm_ret {a : α} {Q : α → EV → Prop} : wm (M.ret a) ρ Q X = Q a ρ := rfl
theorem wm_mono {f : M α} {Q Q' : α → EV → Prop} {X' : XD → EV → Prop} (h : wm f ρ Q X) (k : ∀ a ρ', Q a ρ' → Q' a ρ') (kx : ∀ e ρ', X e ρ' → X' e ρ') : wm f ρ Q' X' := by
  unfold wm at h ⊢
  split at h <;> first | exact k _ _ h | exact kx _ _ h | exact h
theorem wf_mono {E E' : Ko} (h : wf p ρ E) (k1 : ∀ ρ', E.nx ρ' → E'.nx ρ') (k2 : ∀ r ρ', E.rt r ρ' → E'.rt r ρ') (k3 : ∀ ρ', E.bk ρ' → E'.bk ρ') (k4 : ∀ ρ', E.ct ρ' → E'.ct ρ') (k5 : ∀ e ρ', E.ex e ρ' → E'.ex e ρ') : wf p ρ E' := by
  unfold wf at h ⊢
  split at h <;> first | exact k1 _ h | exact k2 _ _ h | exact k3 _ h | exact k4 _ h | exact k5 _ _ h | exact h
theorem wf_eq {r : R} {ρ1 : EV} : wf p ρ ⟨fun _ => False, fun r' ρ' => r' = r ∧ ρ' = ρ1, fun _ => False, fun _ => False, fun _ _ => False⟩ → p ρ = some (.ret r ρ1) := fun h => by
  unfold wf at h
  split at h
  · cases h
  · rename_i e
    obtain ⟨rfl, rfl⟩ := h
    exact e
  all_goals cases h
/-- the law's answer -/
theorem wf_ret {r : R} (h : wf p ρ ⟨fun _ => False, fun r' _ => r' = r, fun _ => False, fun _ => False, fun _ _ => False⟩) : ∃ ρ', p ρ = some (.ret r ρ') := by
  unfold wf at h
  split at h
  · cases h
  · rename_i e
    subst h
    exact ⟨_, e⟩
  all_goals cases h
/-! ### expressions -/
def gets (l : List (Option Slot)) (i : Nat) : Option Slot := match l[i]? with
  | some (some s) => some s
  | _ => none
theorem wm_var {i : Nat} : wm (fVar i) ρ Q X = (match gets ρ.sl i with
    | some (.val d) => Q (.v d) ρ
    | some _ => Q (.s i) ρ
    | none => False) := by
  unfold wm fVar gets
  cases e : ρ.sl[i]? with
  | none => rfl
  | some o =>
    cases o with
    | none => rfl
    | some s => cases s <;> rfl
theorem wm_c {d : D} : wm (fC d) ρ Q X = Q (.v d) ρ := rfl
theorem wm_frz : wm (fFrz f) ρ Q X = wm f ρ (fun r ρ' => match r with
    | .v d => Q (.v d) ρ'
    | .n d => Q (.v d) ρ'
    | .s i => match gets ρ'.sl i with
      | some (.own d) => Q (.v d) (ρ'.set i (.val d))
      | _ => False) X := by
  unfold fFrz
  rw [wm_bind]
  congr 1
  funext r ρ'
  unfold wm gets
  cases r with
  | v d => rfl
  | n d => rfl
  | s i =>
    simp only
    cases ρ'.sl[i]? with
    | none => rfl
    | some o =>
      cases o with
      | none => rfl
      | some s => cases s <;> rfl
theorem wm_frN : wm (fFrN f) ρ Q X = wm f ρ (fun r ρ' => match r with
    | .v d => Q (.v d) ρ'
    | .n d => Q (.v d) ρ'
    | .s i => Q (.s i) ρ') X := by
  unfold fFrN
  rw [wm_bind]
  congr 1
  funext r ρ'
  cases r <;> rfl
theorem wm_nn : wm (fNN f) ρ Q X = wm f ρ (fun r ρ' => match r with
    | .v d => Q (.v d) ρ'
    | .n _ => False
    | .s i => Q (.s i) ρ') X := by
  unfold fNN
  rw [wm_bind]
  congr 1
  funext r ρ'
  cases r <;> rfl
def oR (o : Option R) (ρ : EV) (Q : R → EV → Prop) : Prop := match o with
  | some r => Q r ρ
  | none => False
def oD (o : Option D) (Q : D → Prop) : Prop := match o with
  | some r => Q r
  | none => False
theorem wm_op1 {k : D → Option R} {r : R} : wm (op1 k r) ρ Q X = oD (ρ.look r) fun d => oR (k d) ρ Q := by
  unfold wm op1 oD oR
  cases ρ.look r with
  | none => rfl
  | some d =>
    simp only
    cases k d <;> rfl
theorem wm_op2 {k : D → D → Option R} {r s : R} : wm (op2 k r s) ρ Q X = oD (ρ.look r) fun d => oD (ρ.look s) fun e => oR (k d e) ρ Q := by
  unfold wm op2 oD oR
  cases ρ.look r with
  | none => rfl
  | some d =>
    simp only
    cases ρ.look s with
    | none => rfl
    | some e =>
      simp only
      cases k d e <;> rfl
theorem wm_un {k : D → Option R} : wm (fUn k f) ρ Q X = wm f ρ (fun r ρ' => oD (ρ'.look r) fun d => oR (k d) ρ' Q) X := by
  unfold fUn
  rw [wm_bind]
  simp only [wm_op1]
theorem wm_bin {k : D → D → Option R} : wm (fBin k f g) ρ Q X = wm f ρ (fun r ρ1 => wm g ρ1 (fun s ρ' => oD (ρ'.look r) fun d => oD (ρ'.look s) fun e => oR (k d e) ρ' Q) X) X := by
  unfold fBin
  simp only [wm_bind, wm_op2]
theorem wm_evs_nil {Q : List R → EV → Prop} : wm (evs []) ρ Q X = Q [] ρ := rfl
theorem wm_evs_cons {Q : List R → EV → Prop} {fs : List (M R)} : wm (evs (f :: fs)) ρ Q X = wm f ρ (fun r ρ1 => wm (evs fs) ρ1 (fun rs ρ2 => Q (r :: rs) ρ2) X) X := by
  show wm (f.bind fun r => (evs fs).bind fun rs => M.ret (r :: rs)) ρ Q X = _
  simp only [wm_bind, wm_ret]
theorem wm_opN {k : List D → Option R} {rs : List R} : wm (opN k rs) ρ Q X = (match ρ.looks rs with
    | some ds => oR (k ds) ρ Q
    | none => False) := by
  unfold wm opN oR
  cases ρ.looks rs with
  | none => rfl
  | some d =>
    simp only
    cases k d <;> rfl
theorem wm_n {k : List D → Option R} {fs : List (M R)} : wm (fN k fs) ρ Q X = wm (evs fs) ρ (fun rs ρ' => match ρ'.looks rs with
    | some ds => oR (k ds) ρ' Q
    | none => False) X := by
  unfold fN
  simp only [wm_bind, wm_opN]
theorem wm_tup {fs : List (M R)} : wm (fTup fs) ρ Q X = wm (evs fs) ρ (fun rs ρ' => match settled rs with
    | some ds => szOk ds.length ∧ Q (.v (.tup ds)) ρ'
    | none => False) X := by
  unfold fTup
  rw [wm_bind]
  congr 1
  funext rs ρ'
  unfold wm mkTup
  cases settled rs with
  | none => rfl
  | some ds =>
    by_cases z : szOk ds.length
    · simp [z]
    · simp [z]
theorem wm_lst {fs : List (M R)} : wm (fLst fs) ρ Q X = wm (evs fs) ρ (fun rs ρ' => match settled rs with
    | some ds => szOk ds.length ∧ Q (.n (.lst ds)) ρ'
    | none => False) X := by
  unfold fLst
  rw [wm_bind]
  congr 1
  funext rs ρ'
  unfold wm mkLst
  cases settled rs with
  | none => rfl
  | some ds =>
    by_cases z : szOk ds.length
    · simp [z]
    · simp [z]
theorem wm_bool {Q : Bool → EV → Prop} : wm (fBool f) ρ Q X = wm f ρ (fun r ρ' => match r with
    | .v (.bl b) => Q b ρ'
    | _ => False) X := by
  unfold fBool
  rw [wm_bind]
  congr 1
  funext r ρ'
  cases r with
  | v d => cases d <;> rfl
  | _ => rfl
variable {t u : M Bool}
theorem wm_notB {Q : Bool → EV → Prop} : wm (fNotB t) ρ Q X = wm t ρ (fun b ρ' => Q (!b) ρ') X := by
  unfold fNotB
  simp only [wm_bind, wm_ret]
theorem wm_andB {Q : Bool → EV → Prop} : wm (fAndB t u) ρ Q X = wm t ρ (fun b ρ' => if b = true then wm u ρ' Q X else Q false ρ') X := by
  unfold fAndB
  rw [wm_bind]
  congr 1
  funext b ρ'
  cases b <;> rfl
theorem wm_orB {Q : Bool → EV → Prop} : wm (fOrB t u) ρ Q X = wm t ρ (fun b ρ' => if b = true then Q true ρ' else wm u ρ' Q X) X := by
  unfold fOrB
  rw [wm_bind]
  congr 1
  funext b ρ'
  cases b <;> rfl
theorem wm_and : wm (fAnd f g) ρ Q X = wm f ρ (fun r ρ' => match r with
    | .v (.bl b) => if b = true then wm g ρ' Q X else Q (.v (.bl false)) ρ'
    | _ => False) X := by
  unfold fAnd
  rw [wm_bind]
  congr 1
  funext r ρ'
  cases r with
  | v d =>
    cases d with
    | bl b => cases b <;> rfl
    | _ => rfl
  | _ => rfl
theorem wm_or : wm (fOr f g) ρ Q X = wm f ρ (fun r ρ' => match r with
    | .v (.bl b) => if b = true then Q (.v (.bl true)) ρ' else wm g ρ' Q X
    | _ => False) X := by
  unfold fOr
  rw [wm_bind]
  congr 1
  funext r ρ'
  cases r with
  | v d =>
    cases d with
    | bl b => cases b <;> rfl
    | _ => rfl
  | _ => rfl
theorem wm_if : wm (fIf t f g) ρ Q X = wm t ρ (fun b ρ' => if b = true then wm f ρ' Q X else wm g ρ' Q X) X := by
  unfold fIf
  rw [wm_bind]
  congr 1
  funext b ρ'
  cases b <;> rfl
theorem wm_chain {k k' : D → D → Option R} : wm (fChain k k' f g h) ρ Q X = wm f ρ (fun r1 ρ1 => wm g ρ1 (fun r2 ρ2 => oD (ρ2.look r1) fun d1 => oD (ρ2.look r2) fun d2 => oR (k d1 d2) ρ2 fun r ρ3 => match r with
    | .v (.bl b) => if b = true then wm h ρ3 (fun r3 ρ4 => oD (ρ4.look r2) fun d2 => oD (ρ4.look r3) fun d3 => oR (k' d2 d3) ρ4 Q) X else Q (.v (.bl false)) ρ3
    | _ => False) X) X := by
  unfold fChain
  rw [wm_bind]
  congr 1
  funext r1 ρ1
  rw [wm_bind]
  congr 1
  funext r2 ρ2
  rw [wm_bind, wm_op2]
  congr 1
  funext d1
  congr 1
  funext d2
  congr 1
  funext r ρ3
  cases r with
  | v d =>
    cases d with
    | bl b =>
      cases b with
      | true =>
        simp only [if_true]
        rw [wm_bind]
        simp only [wm_op2]
      | false => rfl
    | _ => rfl
  | _ => rfl
theorem wm_asInt {Q : Option Int → EV → Prop} : wm (asInt f) ρ Q X = wm f ρ (fun r ρ' => match r with
    | .v (.int i) => Q (some i) ρ'
    | _ => False) X := by
  unfold asInt
  rw [wm_bind]
  congr 1
  funext r ρ'
  cases r with
  | v d => cases d <;> rfl
  | _ => rfl
theorem wm_noInt {Q : Option Int → EV → Prop} : wm noInt ρ Q X = Q none ρ := rfl
theorem wm_sl {lo hi : M (Option Int)} : wm (fSl f lo hi) ρ Q X = wm f ρ (fun r ρ1 => wm lo ρ1 (fun l ρ2 => wm hi ρ2 (fun u ρ' => oD (ρ'.look r) fun d => oR (slD l u d) ρ' Q) X) X) X := by
  unfold fSl
  simp only [wm_bind, wm_op1]
theorem wm_srcD {Q : List D → EV → Prop} : wm (srcD f) ρ Q X = wm f ρ (fun r ρ' => match r with
    | .v d => (match itemsD d with
      | some ds => Q ds ρ'
      | none => False)
    | _ => False) X := by
  unfold srcD
  rw [wm_bind]
  congr 1
  funext r ρ'
  unfold wm
  cases r with
  | v d =>
    simp only
    cases itemsD d <;> rfl
  | _ => rfl
theorem wm_srcN {k : List D → Option (List D)} {fs : List (M R)} {Q : List D → EV → Prop} : wm (srcN k fs) ρ Q X = wm (evs fs) ρ (fun rs ρ' => match settled rs with
    | some ds => (match k ds with
      | some xs => Q xs ρ'
      | none => False)
    | none => False) X := by
  unfold srcN
  rw [wm_bind]
  congr 1
  funext rs ρ'
  unfold wm
  cases settled rs with
  | none => rfl
  | some ds =>
    simp only
    cases k ds <;> rfl
theorem wm_fmt : wm (fFmt f) ρ Q X = wm f ρ (fun r ρ' => match r with
    | .v (.str y) => szOk y.length ∧ Q (.v (.str y)) ρ'
    | .v (.int i) => i.natAbs.log2 < 1920 ∧ Q (.v (.str (toString i))) ρ'
    | _ => False) X := by
  unfold fFmt
  rw [wm_bind]
  congr 1
  funext r ρ'
  unfold wm
  cases r with
  | v d =>
    cases d with
    | str y =>
      by_cases z : szOk y.length
      · simp [z]
      · simp [z]
    | int i =>
      by_cases z : i.natAbs.log2 < 1920
      · simp [z]
      · simp [z]
    | _ => rfl
  | _ => rfl
theorem wm_js_nil {acc : Str} : wm (fJs [] acc) ρ Q X = Q (.v (.str acc)) ρ := rfl
theorem wm_js_cons {fs : List (M R)} {acc : Str} : wm (fJs (f :: fs) acc) ρ Q X = wm f ρ (fun r ρ' => match r with
    | .v (.str y) => szOk (acc ++ y).length ∧ wm (fJs fs (acc ++ y)) ρ' Q X
    | _ => False) X := by
  show wm (f.bind _) ρ Q X = _
  rw [wm_bind]
  congr 1
  funext r ρ'
  unfold wm
  cases r with
  | v d =>
    cases d with
    | str y =>
      by_cases z : szOk (acc ++ y).length
      · simp [z]
      · simp [z]
    | _ => rfl
  | _ => rfl
theorem wm_tru {Q : Bool → EV → Prop} : wm (fTru f) ρ Q X = wm f ρ (fun r ρ' => oD (ρ'.look r) fun d => match truD d with
    | some b => Q b ρ'
    | none => False) X := by
  unfold fTru
  rw [wm_bind]
  congr 1
  funext r ρ'
  unfold wm oD
  simp only
  cases e : ρ'.look r with
  | none => rfl
  | some d =>
    simp only
    cases truD d <;> rfl
theorem wm_strM {k : Str → D → Option R} : wm (fStrM k f g) ρ Q X = wm f ρ (fun r ρ1 => match r with
    | .v (.str a) => wm g ρ1 (fun s ρ' => oD (ρ'.look s) fun d => oR (k a d) ρ' Q) X
    | _ => False) X := by
  unfold fStrM
  rw [wm_bind]
  congr 1
  funext r ρ'
  cases r with
  | v d =>
    cases d with
    | str a =>
      simp only
      rw [wm_bind]
      simp only [wm_op1]
    | _ => rfl
  | _ => rfl
theorem wm_mutL {m : D → List D → Option (D × D)} {i : Nat} {fs : List (M R)} : wm (fMutL m i fs) ρ Q X = (match ρ.obj i with
    | some (.lst _) => wm (evs fs) ρ (fun rs ρ' => match ρ'.obj i with
      | some d => (match settled rs with
        | some ds => (match m d ds with
          | some (d', q) => Q (.v q) (ρ'.put i d')
          | none => False)
        | none => False)
      | none => False) X
    | _ => False) := by
  have h : ∀ rs ρ', wm (mutR m i rs) ρ' Q X = (match ρ'.obj i with
      | some d => (match settled rs with
        | some ds => (match m d ds with
          | some (d', q) => Q (.v q) (ρ'.put i d')
          | none => False)
        | none => False)
      | none => False) := fun rs ρ' => by
    unfold wm mutR
    cases ρ'.obj i with
    | none => rfl
    | some d =>
      simp only
      cases settled rs with
      | none => rfl
      | some ds =>
        simp only
        cases m d ds with
        | none => rfl
        | some x => rfl
  have h2 : wm (fMut m i fs) ρ Q X = wm (evs fs) ρ (fun rs ρ' => match ρ'.obj i with
      | some d => (match settled rs with
        | some ds => (match m d ds with
          | some (d', q) => Q (.v q) (ρ'.put i d')
          | none => False)
        | none => False)
      | none => False) X := by
    unfold fMut
    rw [wm_bind]
    congr 1
    funext rs ρ'
    exact h rs ρ'
  rw [← h2]
  unfold wm fMutL hasObj
  cases ρ.obj i with
  | none => rfl
  | some d => cases d <;> rfl
/-! ### calls -/
def wc (fb : F) (N : Nat) (rs : List R) (ρ : EV) (Q : R → EV → Prop) (X : XD → EV → Prop) : Prop := match ρ.objs (argIx rs) with
  | some ds => ((argIx rs).map ρ.key).Nodup ∧ wf fb ⟨argSl rs 0 ++ List.replicate (N - rs.length) none, ds⟩ ⟨fun ρ' => Q (.v .non) (ρ.puts (argIx rs) ρ'.ps), fun r ρ' => (match r with
    | .v d => Q (.v d) (ρ.puts (argIx rs) ρ'.ps)
    | .n d => Q (.n d) (ρ.puts (argIx rs) ρ'.ps)
    | .s _ => False), fun _ => False, fun _ => False, fun e ρ' => X e (ρ.puts (argIx rs) ρ'.ps)⟩
  | none => False
theorem wm_callR {fb : F} {N : Nat} {rs : List R} : wm (callR fb N rs) ρ Q X = wc fb N rs ρ Q X := by
  unfold wm callR wc wf
  cases ρ.objs (argIx rs) with
  | none => rfl
  | some ds =>
    by_cases z : ((argIx rs).map ρ.key).Nodup
    · simp only [z, if_true, true_and]
      cases fb ⟨argSl rs 0 ++ List.replicate (N - rs.length) none, ds⟩ with
      | none => rfl
      | some x =>
        cases x with
        | ret r ρ' => cases r <;> rfl
        | _ => rfl
    · simp [z]
theorem wm_call {fb : F} {N : Nat} {fs : List (M R)} : wm (fCall fb N fs) ρ Q X = wm (evs fs) ρ (fun rs ρ' => wc fb N rs ρ' Q X) X := by
  unfold fCall
  simp only [wm_bind, wm_callR]
/-! ### statements -/
theorem wf_skip : wf fSkip ρ E = E.nx ρ := rfl
theorem wf_seq : wf (fSeq p q) ρ E = wf p ρ ⟨fun ρ' => wf q ρ' E, E.rt, E.bk, E.ct, E.ex⟩ := by
  unfold wf fSeq
  cases p ρ with
  | none => rfl
  | some x => cases x <;> rfl
/-- what is left to do -/
def later (q : F) (E : Ko) : EV → Prop := fun ρ => wf q ρ E
theorem wf_seqL : wf (fSeqL p q) ρ E = wf p ρ ⟨later q E, E.rt, E.bk, E.ct, E.ex⟩ := wf_seq
theorem later_eq : later q E ρ = wf q ρ E := rfl
theorem wf_kill {ks : List Nat} : wf (fKill ks p) ρ E = wf p ρ ⟨fun ρ' => E.nx (ρ'.kills ks), E.rt, E.bk, E.ct, E.ex⟩ := by
  unfold wf fKill
  cases p ρ with
  | none => rfl
  | some x => cases x <;> rfl
theorem wf_ofM {f : M α} {k : α → EV → Option Flow} : wf (ofM f k) ρ E = wm f ρ (fun a ρ' => wf (k a) ρ' E) E.ex := by
  unfold wf wm ofM
  cases f ρ with
  | none => rfl
  | some x => cases x <;> rfl
theorem wf_expr : wf (fExpr f) ρ E = wm f ρ (fun _ ρ' => E.nx ρ') E.ex := wf_ofM
theorem wf_fret : wf (fRet f) ρ E = wm f ρ (fun r ρ' => match r with
    | .v d => E.rt (.v d) ρ'
    | .n d => E.rt (.n d) ρ'
    | .s i => match gets ρ'.sl i with
      | some (.own d) => E.rt (.n d) (ρ'.kill i)
      | _ => False) E.ex := by
  unfold fRet
  rw [wf_ofM]
  congr 1
  funext r ρ'
  unfold wf gets
  cases r with
  | v d => rfl
  | n d => rfl
  | s i =>
    simp only
    cases ρ'.sl[i]? with
    | none => rfl
    | some o =>
      cases o with
      | none => rfl
      | some s => cases s <;> rfl
theorem wf_retN : wf fRetN ρ E = E.rt (.v .non) ρ := rfl
theorem wf_ifS : wf (fIfS t p q) ρ E = wm t ρ (fun b ρ' => if b = true then wf p ρ' E else wf q ρ' E) E.ex := by
  unfold fIfS
  rw [wf_ofM]
  congr 1
  funext b ρ'
  cases b <;> rfl
theorem wf_setN {i : Nat} : wf (fSetN i f) ρ E = wm f ρ (fun r ρ' => match r with
    | .v d => E.nx (ρ'.set i (.val d))
    | .n d => E.nx (ρ'.set i (.own d))
    | .s _ => False) E.ex := by
  unfold fSetN
  rw [wf_ofM]
  congr 1
  funext r ρ'
  cases r <;> rfl
theorem wf_setV {i : Nat} : wf (fSetV i f) ρ E = wm f ρ (fun r ρ' => match r with
    | .v d => E.nx (ρ'.set i (.val d))
    | .n d => E.nx (ρ'.set i (.val d))
    | .s _ => False) E.ex := by
  unfold fSetV
  rw [wf_ofM]
  congr 1
  funext r ρ'
  cases r <;> rfl
theorem wf_setT {t : Tg} : wf (fSetT t f) ρ E = wm f ρ (fun r ρ' => match r with
    | .v d => (match t d ρ' with
      | some ρ1 => E.nx ρ1
      | none => False)
    | _ => False) E.ex := by
  unfold fSetT
  rw [wf_ofM]
  congr 1
  funext r ρ'
  unfold wf
  cases r with
  | v d => simp only; cases t d ρ' <;> rfl
  | _ => rfl
theorem wf_par {is : List Nat} {fs : List (M R)} : wf (fPar is fs) ρ E = wm (evs fs) ρ (fun rs ρ' => match settled rs with
    | some ds => is.length = ds.length ∧ E.nx ((is.zip ds).foldl (fun ρ p => ρ.set p.1 (.val p.2)) ρ')
    | none => False) E.ex := by
  unfold fPar
  rw [wf_ofM]
  congr 1
  funext rs ρ'
  unfold wf parV
  cases settled rs with
  | none => rfl
  | some ds =>
    by_cases z : is.length = ds.length
    · simp [z]
    · simp [z]
theorem wf_ofM_aug {i : Nat} {z : Int → Int} : wf (ofM f fun r ρ1 => match r with
    | .v (.int y) => some (.nx (ρ1.set i (.val (.int (z y)))))
    | _ => none) ρ E = wm f ρ (fun r ρ' => match r with
      | .v (.int y) => E.nx (ρ'.set i (.val (.int (z y))))
      | _ => False) E.ex := by
  rw [wf_ofM]
  congr 1
  funext r ρ'
  cases r with
  | v d => cases d <;> rfl
  | _ => rfl
theorem wf_augI {i : Nat} {k : Int → Int → Int} : wf (fAugI i k f) ρ E = (match gets ρ.sl i with
    | some (.val (.int x)) => wm f ρ (fun r ρ' => match r with
      | .v (.int y) => E.nx (ρ'.set i (.val (.int (k x y))))
      | _ => False) E.ex
    | _ => False) := by
  unfold fAugI gets
  cases e : ρ.sl[i]? with
  | none => simp only [wf, e]
  | some o =>
    cases o with
    | none => simp only [wf, e]
    | some s =>
      cases s with
      | val d =>
        cases d with
        | int x =>
          simp only
          rw [← wf_ofM_aug]
          simp only [wf, e] <;> rfl
        | _ => simp only [wf, e]
      | _ => simp only [wf, e]
theorem wf_break : wf fBreak ρ E = E.bk ρ := rfl
theorem wf_cont : wf fCont ρ E = E.ct ρ := rfl
theorem wf_thru : wf (fThru p) ρ E = wf p ρ ⟨E.nx, E.rt, E.bk, E.ct, fun _ _ => False⟩ := by
  unfold wf fThru
  cases p ρ with
  | none => rfl
  | some x => cases x <;> rfl
theorem wf_forL_nil {tg : Tg} {ks : List Nat} : wf (forL tg p ks []) ρ E = E.nx ρ := rfl
theorem wf_forL_cons {tg : Tg} {ks : List Nat} {d : D} {ds : List D} : wf (forL tg p ks (d :: ds)) ρ E = (match tg d ρ with
    | some ρ1 => wf p ρ1 ⟨fun ρ2 => wf (forL tg p ks ds) (ρ2.kills ks) E, E.rt, E.nx, fun ρ2 => wf (forL tg p ks ds) (ρ2.kills ks) E, E.ex⟩
    | none => False) := by
  have h : forL tg p ks (d :: ds) ρ = (match tg d ρ with
    | none => none
    | some ρ1 => (match p ρ1 with
      | some (.nx ρ2) => forL tg p ks ds (ρ2.kills ks)
      | some (.ct ρ2) => forL tg p ks ds (ρ2.kills ks)
      | some (.bk ρ2) => some (.nx ρ2)
      | o => o)) := rfl
  unfold wf
  rw [h]
  cases tg d ρ with
  | none => rfl
  | some ρ1 =>
    simp only
    cases p ρ1 with
    | none => rfl
    | some x => cases x <;> rfl
theorem wf_for {src : M (List D)} {tg : Tg} {ks : List Nat} : wf (fFor src tg p ks) ρ E = wm src ρ (fun ds ρ' => wf (forL tg p ks ds) ρ' E) E.ex := wf_ofM
/-- behind a loop: known names -/
theorem wf_forK {src : M (List D)} {tg : Tg} {ks : List Nat} : wf (fFor src tg p ks) ρ E = wm src ρ (fun ds ρ' => wf (forL tg p ks ds) ρ' E) E.ex := wf_ofM
/-- a loop by what holds ahead of each pass -/
theorem wf_forL {tg : Tg} {ks : List Nat} (I : List D → EV → Prop) (hs : ∀ d ds ρ, I (d :: ds) ρ → ∃ ρ1, tg d ρ = some ρ1 ∧ wf p ρ1 ⟨fun ρ2 => I ds (ρ2.kills ks), E.rt, E.nx, fun ρ2 => I ds (ρ2.kills ks), E.ex⟩) (he : ∀ ρ, I [] ρ → E.nx ρ) :
    ∀ (ds : List D) (ρ : EV), I ds ρ → wf (forL tg p ks ds) ρ E
  | [], ρ, h => he ρ h
  | d :: ds, ρ, h => by
    rw [wf_forL_cons]
    obtain ⟨ρ1, e, q⟩ := hs d ds ρ h
    rw [e]
    exact wf_mono q (fun ρ2 z => wf_forL I hs he ds _ z) (fun _ _ z => z) (fun _ z => z) (fun ρ2 z => wf_forL I hs he ds _ z) (fun _ _ z => z)
/-- while, by a measure -/
theorem wf_while {ks : List Nat} (I : Nat → EV → Prop) (hs : ∀ n ρ, I n ρ → wm t ρ (fun b ρ1 => if b = true then ∃ m, m < n ∧ wf p ρ1 ⟨fun ρ2 => I m (ρ2.kills ks), E.rt, E.nx, fun ρ2 => I m (ρ2.kills ks), E.ex⟩ else E.nx ρ1) E.ex) :
    ∀ (n fu : Nat) (ρ : EV), n < fu → I n ρ → wf (fWhile t p ks fu) ρ E
  | n, 0, ρ, h, _ => absurd h (Nat.not_lt_zero _)
  | n, fu + 1, ρ, h, hi => by
    have q := hs n ρ hi
    have rec_ : ∀ m ρ2, m < n → I m ρ2 → wf (fWhile t p ks fu) ρ2 E := fun m ρ2 hm him => wf_while I hs m fu ρ2 (by omega) him
    unfold wm at q
    have hw : fWhile t p ks (fu + 1) ρ = (match t ρ with
      | some (.ok true ρ1) => (match p ρ1 with
        | some (.nx ρ2) => fWhile t p ks fu (ρ2.kills ks)
        | some (.ct ρ2) => fWhile t p ks fu (ρ2.kills ks)
        | some (.bk ρ2) => some (.nx ρ2)
        | o => o)
      | some (.ok false ρ1) => some (.nx ρ1)
      | some (.ex e ρ') => some (.ex e ρ')
      | none => none) := rfl
    unfold wf
    rw [hw]
    cases et : t ρ with
    | none => rw [et] at q; exact q.elim
    | some x =>
      rw [et] at q
      cases x with
      | ex e ρ' => exact q
      | ok b ρ1 =>
        cases b with
        | false => exact q
        | true =>
          simp only [if_true] at q
          obtain ⟨m, hm, q⟩ := q
          unfold wf at q
          simp only
          cases ep : p ρ1 with
          | none => rw [ep] at q; exact q.elim
          | some y =>
            rw [ep] at q
            cases y with
            | nx ρ2 => exact rec_ m _ hm q
            | ct ρ2 => exact rec_ m _ hm q
            | _ => exact q
/-! ### comprehensions -/
theorem wm_comp {src : M (List D)} {vs : List Nat} {tg : Tg} {tt : M Bool} {el : M R} : wm (fComp src vs tg tt el) ρ Q X = wm src ρ (fun ds ρ' => wm (compL vs tg tt el ds []) (ρ'.kills vs) (fun acc ρ2 => Q (.n (.lst acc)) ρ2) (fun _ _ => False)) X := by
  unfold fComp
  rw [wm_bind]
  congr 1
  funext ds ρ'
  unfold wm
  simp only
  cases compL vs tg tt el ds [] (ρ'.kills vs) with
  | none => rfl
  | some x => cases x <;> rfl
theorem wm_compL_nil {vs : List Nat} {tg : Tg} {tt : M Bool} {el : M R} {acc : List D} {Q : List D → EV → Prop} : wm (compL vs tg tt el [] acc) ρ Q X = Q acc ρ := rfl
/-- each element's value, its room unchanged -/
theorem wm_compL {vs : List Nat} {tg : Tg} {tt : M Bool} {el : M R} {Q : List D → EV → Prop} (I : EV → Prop) (k : D → Option D) {ds : List D}
    (hs : ∀ d ∈ ds, ∀ ρ, I ρ → ∃ ρ1, tg d ρ = some ρ1 ∧ wm tt ρ1 (fun b ρ2 => if b = true then wm el ρ2 (fun r ρ3 => ∃ y, r = .v y ∧ k d = some y ∧ I (ρ3.kills vs)) (fun _ _ => False) else k d = none ∧ I (ρ2.kills vs)) (fun _ _ => False)) :
    ∀ (acc : List D) (ρ : EV), I ρ → szOk (acc.length + ds.length) → (∀ ρ', I ρ' → Q (acc ++ ds.filterMap k) ρ') → wm (compL vs tg tt el ds acc) ρ Q X := by
  induction ds with
  | nil => intro acc ρ h _ hQ; have := hQ ρ h; rw [List.filterMap_nil, List.append_nil] at this; exact this
  | cons d ds ih =>
    intro acc ρ h hz hQ
    have hsd : ∀ d' ∈ ds, ∀ ρ, I ρ → _ := fun d' hd => hs d' (List.mem_cons_of_mem _ hd)
    obtain ⟨ρ1, e, q⟩ := hs d List.mem_cons_self ρ h
    have hc : compL vs tg tt el (d :: ds) acc ρ = (match tt ρ1 with
      | some (.ok true ρ2) => (match el ρ2 with
        | some (.ok (.v y) ρ3) => if szOk (acc.length + 1) then compL vs tg tt el ds (acc ++ [y]) (ρ3.kills vs) else none
        | _ => none)
      | some (.ok false ρ2) => compL vs tg tt el ds acc (ρ2.kills vs)
      | _ => none) := by
      show (match tg d ρ with
        | none => none
        | some ρ1 => (match tt ρ1 with
          | some (.ok true ρ2) => (match el ρ2 with
            | some (.ok (.v y) ρ3) => if szOk (acc.length + 1) then compL vs tg tt el ds (acc ++ [y]) (ρ3.kills vs) else none
            | _ => none)
          | some (.ok false ρ2) => compL vs tg tt el ds acc (ρ2.kills vs)
          | _ => none)) = _
      rw [e]
    unfold wm
    rw [hc]
    unfold wm at q
    cases et : tt ρ1 with
    | none => rw [et] at q; exact q.elim
    | some x =>
      rw [et] at q
      cases x with
      | ex e ρ' => exact q.elim
      | ok b ρ2 =>
        cases b with
        | false =>
          obtain ⟨hk, hi⟩ := (show k d = none ∧ I (ρ2.kills vs) from q)
          have := ih hsd acc _ hi (by unfold szOk at hz ⊢; rw [List.length_cons] at hz; omega) (fun ρ' z => by
            have := hQ ρ' z
            rw [List.filterMap_cons_none hk] at this
            exact this)
          exact this
        | true =>
          have q2 : wm el ρ2 (fun r ρ3 => ∃ y, r = .v y ∧ k d = some y ∧ I (ρ3.kills vs)) (fun _ _ => False) := q
          unfold wm at q2
          simp only
          cases ee : el ρ2 with
          | none => rw [ee] at q2; exact q2.elim
          | some x =>
            rw [ee] at q2
            cases x with
            | ex e ρ' => exact q2.elim
            | ok r ρ3 =>
              obtain ⟨y, rfl, hk, hi⟩ := q2
              have hz1 : szOk (acc.length + 1) := by unfold szOk at hz ⊢; rw [List.length_cons] at hz; omega
              simp only [hz1, if_true]
              exact ih hsd (acc ++ [y]) _ hi (by unfold szOk at hz ⊢; rw [List.length_append, List.length_cons, List.length_nil]; rw [List.length_cons] at hz; omega) (fun ρ' z => by
                have := hQ ρ' z
                rw [List.filterMap_cons_some hk] at this
                rw [List.append_assoc]
                exact this)
end
end DL
set_option Elab.async false
set_option linter.all false
set_option maxRecDepth 100000
set_option maxHeartbeats 4000000
/-! DQ: plain facts of data: equality, slices, texts. -/
namespace DL
open PySem PySem.Spec
open L2 (atI ixN)
theorem wf_seqZ {p q : F} {ρ : EV} {E : Ko} : wf (fSeq p q) ρ E = wf p ρ ⟨later q E, E.rt, E.bk, E.ct, E.ex⟩ := wf_seq
def laterM {α : Type} (f : M α) (Q : α → EV → Prop) (X : XD → EV → Prop) : EV → Prop := fun ρ => wm f ρ Q X
theorem laterM_eq {α : Type} {f : M α} {Q : α → EV → Prop} {X : XD → EV → Prop} {ρ : EV} : laterM f Q X ρ = wm f ρ Q X := rfl
theorem wm_orBZ {t u : M Bool} {ρ : EV} {Q : Bool → EV → Prop} {X : XD → EV → Prop} : wm (fOrB t u) ρ Q X = wm t ρ (fun b ρ' => if b = true then Q true ρ' else laterM u Q X ρ') X := wm_orB
theorem wm_andBZ {t u : M Bool} {ρ : EV} {Q : Bool → EV → Prop} {X : XD → EV → Prop} : wm (fAndB t u) ρ Q X = wm t ρ (fun b ρ' => if b = true then laterM u Q X ρ' else Q false ρ') X := wm_andB
/-! ### equality -/
def Dp (n : Nat) (d : D) : Prop := (py d).canLay0 = true ∧ (py d).depth ≤ n
def Dps (n : Nat) (ds : List D) : Prop := PyData.canLayAll0 (pys ds) = true ∧ PyData.depthAll (pys ds) ≤ n
theorem Dp.str {n : Nat} {s : Str} (h : PyData.strOk s = true := by decide) : Dp (n + 1) (.str s) := ⟨by simp [py, PyData.canLay0, h], by simp [py, PyData.depth]⟩
theorem Dp.int {n : Nat} {s : Int} : Dp (n + 1) (.int s) := ⟨by simp [py, PyData.canLay0], by simp [py, PyData.depth]⟩
theorem Dp.bl {n : Nat} {s : Bool} : Dp (n + 1) (.bl s) := ⟨by simp [py, PyData.canLay0], by simp [py, PyData.depth]⟩
theorem Dp.non {n : Nat} : Dp (n + 1) .non := ⟨by simp [py, PyData.canLay0], by simp [py, PyData.depth]⟩
theorem Dps.of {n : Nat} : ∀ {ds : List D}, (∀ d ∈ ds, Dp n d) → Dps n ds
  | [], _ => ⟨rfl, by simp [pys, PyData.depthAll]⟩
  | d :: ds, h => by
    obtain ⟨a1, a2⟩ := h d List.mem_cons_self
    obtain ⟨b1, b2⟩ := Dps.of fun d hd => h d (List.mem_cons_of_mem _ hd)
    refine ⟨?_, ?_⟩
    · simp only [pys, PyData.canLayAll0, a1, b1, Bool.and_self]
    · simp only [pys, PyData.depthAll]
      omega
theorem Dp.tup {n : Nat} {ds : List D} (h : ∀ d ∈ ds, Dp n d) : Dp (n + 1) (.tup ds) := by
  obtain ⟨a, b⟩ := Dps.of h
  refine ⟨?_, ?_⟩
  · simp only [py, PyData.canLay0, a]
  · simp only [py, PyData.depth]
    omega
theorem Dp.lst {n : Nat} {ds : List D} (h : ∀ d ∈ ds, Dp n d) : Dp (n + 1) (.lst ds) := by
  obtain ⟨a, b⟩ := Dps.of h
  refine ⟨?_, ?_⟩
  · simp only [py, PyData.canLay0, a]
  · simp only [py, PyData.depth]
    omega
theorem Dp.ok {n : Nat} {d : D} (h : Dp n d) (hn : n ≤ 64) : okD d = true := by
  unfold okD SeqAt.shaped
  rw [h.1, Bool.true_and, decide_eq_true_eq]
  exact Nat.le_trans h.2 hn
theorem eqB_self {n : Nat} {d : D} (h : Dp n d) : eqB d d = true := SeqAt.eqv_refl _ h.1
theorem neD_self {n : Nat} {d : D} (h : Dp n d) (hn : n ≤ 64) : neD d d = some (.v (.bl false)) := by
  have e1 := h.ok hn
  have e2 := eqB_self h
  cases d <;> simp only [neD, e1, e2, Bool.and_self, if_true, Bool.not_true, decide_true]
theorem eqD_self {n : Nat} {d : D} (h : Dp n d) (hn : n ≤ 64) : eqD d d = some (.v (.bl true)) := by
  have e1 := h.ok hn
  have e2 := eqB_self h
  cases d <;> simp only [eqD, e1, e2, Bool.and_self, if_true, decide_true]
theorem eqD_one {a b : Str} (ha : PyData.strOk a = true) (hb : PyData.strOk b = true := by decide) : eqD (.lst [.str a]) (.lst [.str b]) = some (.v (.bl (a == b))) := by
  have h1 : okD (.lst [.str a]) = true := (Dp.lst (n := 1) fun d hd => by rw [List.mem_singleton] at hd; subst hd; exact Dp.str ha).ok (by decide)
  have h2 : okD (.lst [.str b]) = true := (Dp.lst (n := 1) fun d hd => by rw [List.mem_singleton] at hd; subst hd; exact Dp.str hb).ok (by decide)
  simp only [eqD, h1, h2, Bool.and_self, if_true]
  unfold eqB
  simp only [py, pys, PyData.eqv, PyData.eqvAll, Bool.and_true]
/-! ### slices -/
theorem sIx_pos {n d : Nat} {i : Int} (h : 0 ≤ i) : HT.sIx n d (some i) = min i.toNat n := by
  obtain ⟨k, rfl⟩ := Int.eq_ofNat_of_zero_le h
  exact HT.sIx_nat n d k
theorem cut_from {α : Type} (xs : List α) {i : Int} (h : 0 ≤ i) : cutD xs (some i) none = xs.drop i.toNat := by
  unfold cutD
  rw [sIx_pos h, HT.sIx_none]
  rw [List.take_of_length_le (by rw [List.length_drop]; omega)]
  by_cases z : i.toNat ≤ xs.length
  · rw [Nat.min_eq_left z]
  · rw [Nat.min_eq_right (by omega), List.drop_length, List.drop_eq_nil_of_le (by omega)]
theorem cut_to {α : Type} (xs : List α) {i : Int} (h : 0 ≤ i) : cutD xs none (some i) = xs.take i.toNat := by
  unfold cutD
  rw [sIx_pos h, HT.sIx_none, List.drop_zero, Nat.sub_zero]
  by_cases z : i.toNat ≤ xs.length
  · rw [Nat.min_eq_left z]
  · rw [Nat.min_eq_right (by omega), List.take_length, List.take_of_length_le (by omega)]
theorem cut_mid {α : Type} (xs : List α) {i j : Int} (h : 0 ≤ i) (hj : i ≤ j) : cutD xs (some i) (some j) = (xs.drop i.toNat).take (j.toNat - i.toNat) := by
  unfold cutD
  rw [sIx_pos h, sIx_pos (by omega)]
  by_cases z : i.toNat ≤ xs.length
  · rw [Nat.min_eq_left z]
    by_cases z2 : j.toNat ≤ xs.length
    · rw [Nat.min_eq_left z2]
    · rw [Nat.min_eq_right (by omega), List.take_of_length_le (by rw [List.length_drop]; omega), List.take_of_length_le (by rw [List.length_drop]; omega)]
  · have e : min i.toNat xs.length = xs.length := by omega
    rw [e, Nat.min_eq_right (by omega), List.drop_length, List.drop_eq_nil_of_le (by omega), List.take_nil, List.take_nil]
theorem cut_neg {α : Type} (xs : List α) {i k : Int} (h : 0 ≤ i) (hk : 0 < k) (hi : i + k ≤ xs.length) : cutD xs (some i) (some (-k)) = (xs.drop i.toNat).take (xs.length - k.toNat - i.toNat) := by
  unfold cutD
  rw [sIx_pos h]
  have e : HT.sIx xs.length xs.length (some (-k)) = xs.length - k.toNat := by
    show (if -k < 0 then (-k + (xs.length : Int)).toNat else min (-k).toNat xs.length) = _
    rw [if_pos (by omega)]
    omega
  rw [e, Nat.min_eq_left (by omega)]
/-! ### texts -/
theorem strL_map : ∀ l : List Str, strL (l.map D.str) = some l
  | [] => rfl
  | x :: l => by
    show (match strL (l.map D.str) with | some bs => some (x :: bs) | none => none) = _
    rw [strL_map l]
def lens8 (ws : List Str) : Prop := ∀ w ∈ ws, w.length ≤ 8
theorem sum8 : ∀ {ws : List Str}, lens8 ws → (ws.map (·.length)).sum ≤ 8 * ws.length
  | [], _ => Nat.le_refl _
  | w :: ws, h => by
    have h1 := h w List.mem_cons_self
    have h2 := sum8 (ws := ws) fun w hw => h w (List.mem_cons_of_mem _ hw)
    rw [List.map_cons, List.sum_cons, List.length_cons]
    omega
theorem join_ok {a : Str} {ws : List Str} (h : szOk ((ws.map (·.length)).sum + ws.length * a.length)) : joinL a (ws.map D.str) = some (.v (.str (Txt.join a ws))) := by
  unfold joinL
  rw [strL_map]
  simp only [h, if_true]
theorem tl_txt (a : Str) (ws : List Str) : TL.tl (Txt.join a ws) = TL.joinL (TL.tl a) (ws.map TL.tl) := by
  rw [TL.join_eq, TL.tl_join]
theorem j_cons {s : List Nat} {x : List Nat} : ∀ {b : List (List Nat)}, b ≠ [] → TL.joinL s (x :: b) = x ++ (s ++ TL.joinL s b)
  | [], h => absurd rfl h
  | _ :: _, _ => rfl
theorem j_app {s : List Nat} : ∀ {a b : List (List Nat)}, a ≠ [] → b ≠ [] → TL.joinL s (a ++ b) = TL.joinL s a ++ (s ++ TL.joinL s b)
  | [], _, h, _ => absurd rfl h
  | [x], b, _, h => by
    show TL.joinL s (x :: b) = x ++ _
    exact j_cons h
  | x :: y :: a, b, _, h => by
    show TL.joinL s (x :: (y :: a ++ b)) = TL.joinL s (x :: y :: a) ++ _
    rw [j_cons (by simp), j_cons (by simp), j_app (by simp) h, List.append_assoc, List.append_assoc]
theorem j_len {s : List Nat} : ∀ (ws : List (List Nat)), (TL.joinL s ws).length ≤ (ws.map List.length).sum + ws.length * s.length
  | [] => Nat.zero_le _
  | [x] => by simp [TL.joinL]
  | x :: y :: r => by
    have := j_len (s := s) (y :: r)
    rw [j_cons (by simp)]
    simp only [List.length_append, List.map_cons, List.sum_cons, List.length_cons] at this ⊢
    have e : (r.length + 1 + 1) * s.length = (r.length + 1) * s.length + s.length := by rw [Nat.succ_mul]
    omega
theorem txt_len (a : Str) (ws : List Str) : (Txt.join a ws).length ≤ (ws.map (·.length)).sum + ws.length * a.length := by
  have h := j_len (s := TL.tl a) (ws.map TL.tl)
  rw [← tl_txt] at h
  rw [TL.len_tl]
  refine Nat.le_trans h ?_
  have e : (ws.map TL.tl).map List.length = ws.map (·.length) := by
    rw [List.map_map]
    exact List.map_congr_left fun w _ => (TL.len_tl w).symm
  rw [e, List.length_map, ← TL.len_tl]
  exact Nat.le_refl _
/-! ### comprehensions over written lists -/
section
variable {ρ : EV} {X : XD → EV → Prop}
theorem wm_compM {ι : Type} {vs : List Nat} {tg : Tg} {tt : M Bool} {el : M R} {Q : List D → EV → Prop} (I : EV → Prop) (f g : ι → D) {l : List ι}
    (hs : ∀ c ∈ l, ∀ ρ, I ρ → ∃ ρ1, tg (f c) ρ = some ρ1 ∧ wm tt ρ1 (fun b ρ2 => b = true ∧ wm el ρ2 (fun r ρ3 => r = .v (g c) ∧ I (ρ3.kills vs)) (fun _ _ => False)) (fun _ _ => False)) :
    ∀ (acc : List D) (ρ : EV), I ρ → szOk (acc.length + l.length) → (∀ ρ', I ρ' → Q (acc ++ l.map g) ρ') → wm (compL vs tg tt el (l.map f) acc) ρ Q X := by
  induction l with
  | nil => intro acc ρ h _ hQ; have := hQ ρ h; rw [List.map_nil, List.append_nil] at this; exact this
  | cons c l ih =>
    intro acc ρ h hz hQ
    obtain ⟨ρ1, e, q⟩ := hs c List.mem_cons_self ρ h
    rw [List.map_cons]
    have hc : compL vs tg tt el (f c :: l.map f) acc ρ = (match tt ρ1 with
      | some (.ok true ρ2) => (match el ρ2 with
        | some (.ok (.v y) ρ3) => if szOk (acc.length + 1) then compL vs tg tt el (l.map f) (acc ++ [y]) (ρ3.kills vs) else none
        | _ => none)
      | some (.ok false ρ2) => compL vs tg tt el (l.map f) acc (ρ2.kills vs)
      | _ => none) := by
      show (match tg (f c) ρ with
        | none => none
        | some ρ1 => (match tt ρ1 with
          | some (.ok true ρ2) => (match el ρ2 with
            | some (.ok (.v y) ρ3) => if szOk (acc.length + 1) then compL vs tg tt el (l.map f) (acc ++ [y]) (ρ3.kills vs) else none
            | _ => none)
          | some (.ok false ρ2) => compL vs tg tt el (l.map f) acc (ρ2.kills vs)
          | _ => none)) = _
      rw [e]
    unfold wm
    rw [hc]
    unfold wm at q
    cases et : tt ρ1 with
    | none => rw [et] at q; exact q.elim
    | some x =>
      rw [et] at q
      cases x with
      | ex e ρ' => exact q.elim
      | ok b ρ2 =>
        obtain ⟨hb, q2⟩ := q
        subst hb
        simp only
        cases ee : el ρ2 with
        | none => rw [ee] at q2; exact q2.elim
        | some x =>
          rw [ee] at q2
          cases x with
          | ex e ρ' => exact q2.elim
          | ok r ρ3 =>
            obtain ⟨rfl, hi⟩ := q2
            have hz1 : szOk (acc.length + 1) := by unfold szOk at hz ⊢; rw [List.length_cons] at hz; omega
            simp only [hz1, if_true]
            exact ih (fun c hc => hs c (List.mem_cons_of_mem _ hc)) (acc ++ [g c]) _ hi (by unfold szOk at hz ⊢; rw [List.length_append, List.length_cons, List.length_nil]; rw [List.length_cons] at hz; omega) (fun ρ' z => by
              have := hQ ρ' z
              rw [List.map_cons] at this
              rw [List.append_assoc]
              exact this)
end
end DL
set_option Elab.async false
set_option linter.all false
set_option maxRecDepth 100000
set_option maxHeartbeats 4000000
/-! DR: errors by weakest conditions. -/
namespace DL
open PySem PySem.Spec
open L2 (ixN)
section
variable {f g h : M R} {p q : F} {ρ : EV} {E : Ko} {Q : R → EV → Prop} {X : XD → EV → Prop}
theorem wm_step {lo hi st : M (Option Int)} : wm (fStep f lo hi st) ρ Q X = wm f ρ (fun r ρ1 => wm lo ρ1 (fun l ρ2 => wm hi ρ2 (fun u ρ3 => wm st ρ3 (fun t ρ' => oD (ρ'.look r) fun d => oR (stepD l u t d) ρ' Q) X) X) X) X := by
  unfold fStep
  simp only [wm_bind, wm_op1]
theorem wm_meth {C m : Str} {fb : F} {N : Nat} {fs : List (M R)} : wm (fMeth C m fb N f fs) ρ Q X = wm f ρ (fun r ρ1 => match ρ1.look r with
    | some (.ins C0 ns _) => (C0 = C ∧ ns.contains m = false) ∧ wm (evs fs) ρ1 (fun rs ρ' => wc fb N (r :: rs) ρ' Q X) X
    | _ => False) X := by
  unfold fMeth
  rw [wm_bind]
  congr 1
  funext r ρ1
  have h : wm ((evs fs).bind fun rs => callR fb N (r :: rs)) ρ1 Q X = wm (evs fs) ρ1 (fun rs ρ' => wc fb N (r :: rs) ρ' Q X) X := by
    rw [wm_bind]
    simp only [wm_callR]
  cases e : ρ1.look r with
  | none => simp only [wm, e]
  | some d =>
    cases d with
    | ins C0 ns ds =>
      by_cases z : C0 = C ∧ ns.contains m = false
      · simp only [z, and_self, true_and]
        rw [← h]
        unfold wm
        simp only [e, z, and_self, if_true]
      · simp only [z, false_and]
        unfold wm
        simp only [e, if_neg z]
    | _ => simp only [wm, e]
theorem wm_prop {C : Str} {fb : F} {N : Nat} : wm (fProp C fb N f) ρ Q X = wm f ρ (fun r ρ1 => match ρ1.look r with
    | some (.ins C0 _ _) => C0 = C ∧ wc fb N [r] ρ1 Q (fun _ _ => False)
    | _ => False) X := by
  unfold fProp
  rw [wm_bind]
  congr 1
  funext r ρ1
  have h : wm (callR fb N [r]) ρ1 Q (fun _ _ => False) = wc fb N [r] ρ1 Q (fun _ _ => False) := wm_callR
  cases e : ρ1.look r with
  | none => simp only [wm, e]
  | some d =>
    cases d with
    | ins C0 ns ds =>
      by_cases z : C0 = C
      · simp only [z, true_and]
        rw [← h]
        unfold wm
        simp only [e, z, if_true]
        cases callR fb N [r] ρ1 with
        | none => rfl
        | some x => cases x <;> rfl
      · simp only [z, false_and]
        unfold wm
        simp only [e, if_neg z]
    | _ => simp only [wm, e]
theorem wf_raise {x fl : Str} {fs : List (M R)} : wf (fRaise x fl fs) ρ E = wm (evs fs) ρ (fun rs ρ' => match settled rs with
    | some [d] => E.ex ⟨x, [(fl, d)]⟩ ρ'
    | _ => False) E.ex := by
  unfold fRaise
  rw [wf_ofM]
  congr 1
  funext rs ρ'
  unfold wf
  cases settled rs with
  | none => rfl
  | some ds =>
    match ds with
    | [] => rfl
    | [d] => rfl
    | _ :: _ :: _ => rfl
theorem wf_tryOn {hit : Str → Option Bool} : wf (fTryOn hit p q) ρ E = wf p ρ ⟨E.nx, E.rt, E.bk, E.ct, fun e ρ1 => match hit e.C with
    | some true => wf q ρ1 ⟨E.nx, E.rt, fun _ => False, fun _ => False, fun _ _ => False⟩
    | some false => E.ex e ρ1
    | none => False⟩ := by
  unfold wf fTryOn
  cases p ρ with
  | none => rfl
  | some x =>
    cases x with
    | ex e ρ1 =>
      simp only
      cases hit e.C with
      | none => rfl
      | some b =>
        cases b with
        | false => rfl
        | true =>
          simp only
          cases q ρ1 with
          | none => rfl
          | some y => cases y <;> rfl
    | _ => rfl
theorem wf_ofM_ix {s : Nat} {d : D} : wf (ofM g fun q ρ1 => match q with
    | .v (.int k) => (match ρ1.obj s with
      | some (.lst xs) => (match ixN xs.length k with
        | some j => some (.nx (ρ1.put s (.lst (xs.set j d))))
        | none => none)
      | _ => none)
    | _ => none) ρ E = wm g ρ (fun q ρ1 => match q with
        | .v (.int k) => (match ρ1.obj s with
          | some (.lst xs) => (match ixN xs.length k with
            | some j => E.nx (ρ1.put s (.lst (xs.set j d)))
            | none => False)
          | _ => False)
        | _ => False) E.ex := by
  rw [wf_ofM]
  congr 1
  funext q ρ1
  cases q with
  | v dq =>
    cases dq with
    | int k =>
      simp only
      cases e : ρ1.obj s with
      | none => simp only [wf, e]
      | some dd =>
        cases dd with
        | lst xs =>
          simp only
          cases i : ixN xs.length k <;> simp only [wf, e, i]
        | _ => simp only [wf, e]
    | _ => rfl
  | _ => rfl
theorem wf_putIx {s : Nat} : wf (fPutIx s f g) ρ E = wm f ρ (fun r ρ' => match r with
    | .v d => (match ρ'.obj s with
      | some (.lst _) => wm g ρ' (fun q ρ1 => match q with
        | .v (.int k) => (match ρ1.obj s with
          | some (.lst xs) => (match ixN xs.length k with
            | some j => E.nx (ρ1.put s (.lst (xs.set j d)))
            | none => False)
          | _ => False)
        | _ => False) E.ex
      | _ => False)
    | _ => False) E.ex := by
  unfold fPutIx
  rw [wf_ofM]
  congr 1
  funext r ρ'
  cases r with
  | v d =>
    simp only
    cases e : ρ'.obj s with
    | none => simp only [wf, e]
    | some dd =>
      cases dd with
      | lst ys =>
        simp only
        rw [← wf_ofM_ix]
        simp only [wf, e] <;> rfl
      | _ => simp only [wf, e]
  | _ => rfl
theorem wf_tryAs {i : Nat} {hit : Str → Option Bool} {fs : XD → F} : wf (fTryAs i hit p fs) ρ E = wf p ρ ⟨E.nx, E.rt, E.bk, E.ct, fun e ρ1 => match hit e.C with
    | some true => noXn ρ1 = true ∧ wf (fs e) (ρ1.set i .xn) ⟨fun ρ2 => noXn (ρ2.kill i) = true ∧ E.nx (ρ2.kill i), fun _ _ => False, fun _ => False, fun _ => False, fun _ _ => False⟩
    | some false => E.ex e ρ1
    | none => False⟩ := by
  unfold wf fTryAs
  cases p ρ with
  | none => rfl
  | some x =>
    cases x with
    | ex e ρ1 =>
      simp only
      cases hit e.C with
      | none => rfl
      | some b =>
        cases b with
        | false => rfl
        | true =>
          simp only
          by_cases z : noXn ρ1 = true
          · simp only [z, if_true, true_and]
            cases fs e (ρ1.set i .xn) with
            | none => rfl
            | some y =>
              cases y with
              | nx ρ2 =>
                simp only
                by_cases z2 : noXn (ρ2.kill i) = true
                · simp [z2]
                · simp [z2]
              | _ => rfl
          · simp [z]
    | _ => rfl
theorem wm_xf {i : Nat} {e : XD} {ok : Str → Bool} {fl : Str} : wm (fXf i e ok fl) ρ Q X = (match gets ρ.sl i with
    | some .xn => ok e.C = true ∧ (match e.fs.lookup fl with
      | some d => Q (.v d) ρ
      | none => False)
    | _ => False) := by
  unfold wm fXf gets
  cases ρ.sl[i]? with
  | none => rfl
  | some o =>
    cases o with
    | none => rfl
    | some s =>
      cases s with
      | xn =>
        simp only
        by_cases z : ok e.C = true
        · simp only [z, if_true, true_and]
          cases e.fs.lookup fl <;> rfl
        · simp [z]
      | _ => rfl
theorem wm_is {i : Nat} {e : XD} {kin : Str → Option Bool} : wm (fIs i e kin) ρ Q X = (match gets ρ.sl i with
    | some .xn => (match kin e.C with
      | some b => e.fs.isEmpty = false ∧ Q (.v (.bl b)) ρ
      | none => False)
    | _ => False) := by
  unfold wm fIs gets
  cases ρ.sl[i]? with
  | none => rfl
  | some o =>
    cases o with
    | none => rfl
    | some s =>
      cases s with
      | xn =>
        simp only
        cases kin e.C with
        | none => rfl
        | some b =>
          simp only
          by_cases z : e.fs.isEmpty = false
          · simp [z]
          · simp [z]
      | _ => rfl
end
end DL
set_option Elab.async false
set_option linter.all false
set_option maxRecDepth 100000
set_option maxHeartbeats 4000000
/-! DS: weakest conditions of the forms for classes. -/
namespace DL
open PySem PySem.Spec
section
variable {f g h : M R} {p q : F} {ρ : EV} {Q : R → EV → Prop} {X : XD → EV → Prop} {E : Ko}
theorem wm_s1 {k : D → Option R} : wm (fS1 k f) ρ Q X = wm f ρ (fun r ρ' => match r with
    | .v d => oR (k d) ρ' Q
    | _ => False) X := by
  unfold fS1
  rw [wm_bind]
  congr 1
  funext r ρ'
  cases r with
  | v d => simp only []; cases k d <;> rfl
  | _ => rfl
theorem wm_s2 {k : D → D → Option R} : wm (fS2 k f h) ρ Q X = wm f ρ (fun r ρ1 => wm h ρ1 (fun s ρ' => match r with
    | .v d => (match s with
      | .v e => oR (k d e) ρ' Q
      | _ => False)
    | _ => False) X) X := by
  unfold fS2
  rw [wm_bind]
  congr 1
  funext r ρ1
  rw [wm_bind]
  congr 1
  funext s ρ'
  cases r with
  | v d =>
    cases s with
    | v e => simp only []; cases k d e <;> rfl
    | _ => rfl
  | _ => cases s <;> rfl
def wmk (C : Str) (fb : F) (N : Nat) (rs : List R) (ρ : EV) (Q : R → EV → Prop) (X : XD → EV → Prop) : Prop := wm (makeR C fb N rs) ρ Q X
theorem wmk_eq {C : Str} {fb : F} {N : Nat} {rs : List R} : wmk C fb N rs ρ Q X = wc fb N (.s ρ.sl.length :: rs) (ρ.push (.ins C [] [])) (fun r ρ' => match r with
    | .v .non => (match ρ'.sl[ρ.sl.length]? with
      | some (some (.own d)) => Q (.n d) (ρ'.pop ρ.sl.length)
      | _ => False)
    | _ => False) (fun e ρ' => X e (ρ'.pop ρ.sl.length)) := by
  rw [← wm_callR]
  unfold wmk wm makeR
  cases callR fb N (.s ρ.sl.length :: rs) (ρ.push (.ins C [] [])) with
  | none => rfl
  | some y =>
    cases y with
    | ex e ρ' => rfl
    | ok r ρ' =>
      cases r with
      | v d =>
        cases d with
        | non =>
          simp only []
          cases e : ρ'.sl[ρ.sl.length]? with
          | none => rfl
          | some o =>
            cases o with
            | none => rfl
            | some s => cases s <;> rfl
        | _ => rfl
      | _ => rfl
theorem wm_make {C : Str} {fb : F} {N : Nat} {fs : List (M R)} : wm (fMake C fb N fs) ρ Q X = wm (evs fs) ρ (fun rs ρ1 => wmk C fb N rs ρ1 Q X) X := by
  unfold fMake
  rw [wm_bind]
  rfl
theorem wm_makeL {C : Str} {fb : F} {N : Nat} {fs : List (M R)} : wm (fMakeL C fb N g fs) ρ Q X = wm g ρ (fun r ρ1 => match r with
    | .v (.cls c) => c = C ∧ wm (evs fs) ρ1 (fun rs ρ2 => wmk C fb N rs ρ2 Q X) X
    | _ => False) X := by
  unfold fMakeL
  rw [wm_bind]
  congr 1
  funext r ρ1
  cases r with
  | v d =>
    cases d with
    | cls c =>
      by_cases z : c = C
      · simp only [z, if_true, true_and, wm_make]
      · simp only [z, false_and, if_false]
        rfl
    | _ => rfl
  | _ => rfl
theorem wm_cmeth {C : Str} {fb : F} {N : Nat} {fs : List (M R)} : wm (fCMeth C fb N g fs) ρ Q X = wm g ρ (fun r ρ1 => match r with
    | .v (.cls c) => c = C ∧ wm (evs fs) ρ1 (fun rs ρ2 => wc fb N (.v (.cls C) :: rs) ρ2 Q X) X
    | _ => False) X := by
  unfold fCMeth
  rw [wm_bind]
  congr 1
  funext r ρ1
  cases r with
  | v d =>
    cases d with
    | cls c =>
      by_cases z : c = C
      · simp only [z, if_true, true_and, wm_bind, wm_callR]
      · simp only [z, false_and, if_false]
        rfl
    | _ => rfl
  | _ => rfl
theorem wm_listO {src : M (List D)} : wm (fListO src) ρ Q X = wm src ρ (fun ds ρ' => Q (.n (.lst ds)) ρ') X := by
  unfold fListO
  rw [wm_bind]
  rfl
theorem wm_srcO {C fl : Str} {Q : List D → EV → Prop} : wm (srcO C fl f) ρ Q X = wm f ρ (fun r ρ' => match r with
    | .v (.ins c ns ds) => c = C ∧ (match (ns.zip ds).lookup fl with
      | some (.lst xs) => Q xs ρ'
      | _ => False)
    | _ => False) X := by
  unfold srcO
  rw [wm_bind]
  congr 1
  funext r ρ'
  cases r with
  | v d =>
    cases d with
    | ins c ns ds =>
      by_cases z : c = C
      · simp only [z, true_and]
        unfold wm
        simp only [if_true]
        cases (ns.zip ds).lookup fl with
        | none => rfl
        | some y => cases y <;> rfl
      · simp only [z, false_and, if_false]
        rfl
    | _ => rfl
  | _ => rfl
/-- own special methods: what the def answers -/
theorem ownQ_of {fb : F} {N : Nat} {ds : List D} {d : D} (h : ∀ Q : R → EV → Prop, (∀ ρ', Q (.v d) ρ') → wf fb ⟨(ds.map fun d => some (.val d)) ++ List.replicate (N - ds.length) none, []⟩ ⟨fun _ => False, Q, fun _ => False, fun _ => False, fun _ _ => False⟩) : ownQ fb N ds = some (.v d) := by
  obtain ⟨ρ', e⟩ := wf_ret (r := .v d) (h (fun r _ => r = .v d) fun _ => rfl)
  unfold ownQ
  rw [e]
/-! ### lent -/
theorem wm_lend {α : Type} {m : M α} {i : Nat} {d : D} {Q : α → EV → Prop} (e : ρ.sl[i]? = some (some (.own d)))
    (h : wm m (ρ.lent i d) (fun a ρ' => match ρ'.back i ρ.ps.length with
      | some ρ2 => Q a ρ2
      | none => False) (fun x ρ' => match ρ'.back i ρ.ps.length with
      | some ρ2 => X x ρ2
      | none => False)) : wm (fLend i m) ρ Q X := by
  unfold wm at h ⊢
  unfold fLend
  rw [e]
  simp only []
  cases em : m (ρ.lent i d) with
  | none => rw [em] at h; exact h
  | some y =>
    rw [em] at h
    cases y with
    | ok a ρ' =>
      simp only [XR.back] at h ⊢
      cases eb : ρ'.back i ρ.ps.length with
      | none => rw [eb] at h; exact h
      | some ρ2 => rw [eb] at h; exact h
    | ex a ρ' =>
      simp only [XR.back] at h ⊢
      cases eb : ρ'.back i ρ.ps.length with
      | none => rw [eb] at h; exact h
      | some ρ2 => rw [eb] at h; exact h
theorem wf_lend {i : Nat} {d : D} (e : ρ.sl[i]? = some (some (.own d)))
    (h : wf p (ρ.lent i d) ⟨fun ρ' => (match ρ'.back i ρ.ps.length with
      | some ρ2 => E.nx ρ2
      | none => False), fun r ρ' => (match r with
      | .v y => (match ρ'.back i ρ.ps.length with
        | some ρ2 => E.rt (.v y) ρ2
        | none => False)
      | _ => False), fun _ => False, fun _ => False, fun x ρ' => (match ρ'.back i ρ.ps.length with
      | some ρ2 => E.ex x ρ2
      | none => False)⟩) : wf (fLendS i p) ρ E := by
  unfold wf at h ⊢
  unfold fLendS
  rw [e]
  simp only []
  cases em : p (ρ.lent i d) with
  | none => rw [em] at h; exact h
  | some y =>
    rw [em] at h
    cases y with
    | nx ρ' =>
      simp only [Flow.back] at h ⊢
      cases eb : ρ'.back i ρ.ps.length with
      | none => rw [eb] at h; exact h
      | some ρ2 => rw [eb] at h; exact h
    | ret r ρ' =>
      cases r with
      | v z =>
        simp only [Flow.back] at h ⊢
        cases eb : ρ'.back i ρ.ps.length with
        | none => rw [eb] at h; exact h
        | some ρ2 => rw [eb] at h; exact h
      | _ => exact h
    | ex a ρ' =>
      simp only [Flow.back] at h ⊢
      cases eb : ρ'.back i ρ.ps.length with
      | none => rw [eb] at h; exact h
      | some ρ2 => rw [eb] at h; exact h
    | _ => exact h
/-! ### walks over held lists -/
theorem wm_compG {src : M (Option (Nat × List D) × List D)} {vs : List Nat} {tg : Tg} {tt : M Bool} {el : M R} : wm (fCompG src vs tg tt el) ρ Q X = wm src ρ (fun q ρ' => wm (compG vs tg tt el q.1 q.2 []) (ρ'.kills vs) (fun acc ρ2 => Q (.n (.lst acc)) ρ2) (fun _ _ => False)) X := by
  unfold fCompG
  rw [wm_bind]
  congr 1
  funext q ρ'
  unfold wm
  dsimp only
  cases compG vs tg tt el q.1 q.2 [] (ρ'.kills vs) with
  | none => rfl
  | some y => cases y <;> rfl
theorem wf_forG {src : M (Option (Nat × List D) × List D)} {tg : Tg} {ks : List Nat} : wf (fForG src tg p ks) ρ E = wm src ρ (fun q ρ' => wf (forG tg p ks q.1 q.2) ρ' E) E.ex := wf_ofM
/-- every turn keeps the state; the items' values by f -/
theorem wm_compGM {ι : Type} {vs : List Nat} {tg : Tg} {tt : M Bool} {el : M R} {lk : Option (Nat × List D)} {Q : List D → EV → Prop} (I : EV → Prop) (a b : ι → D) (kp : ι → Bool) {l : List ι}
    (hL : ∀ ρ, I ρ → lkB lk ρ = true)
    (hs : ∀ x ∈ l, ∀ ρ, I ρ → ∃ ρ1, tg (a x) ρ = some ρ1 ∧ wm tt ρ1 (fun c ρ2 => c = kp x ∧ (if kp x = true then wm el ρ2 (fun r ρ3 => r = .v (b x) ∧ I (ρ3.kills vs)) (fun _ _ => False) else I (ρ2.kills vs))) (fun _ _ => False)) :
    ∀ (acc : List D) (ρ : EV), I ρ → szOk (acc.length + l.length) → (∀ ρ', I ρ' → Q (acc ++ (l.filter kp).map b) ρ') → wm (compG vs tg tt el lk (l.map a) acc) ρ Q X := by
  induction l with
  | nil =>
    intro acc ρ i z k
    unfold wm
    simp only [List.map_nil, compG, hL ρ i, if_true]
    simpa using k ρ i
  | cons x l ih =>
    intro acc ρ i z k
    obtain ⟨ρ1, h1, h2⟩ := hs x (by simp) ρ i
    have ih' := ih (fun y hy => hs y (List.mem_cons_of_mem _ hy))
    have hz2 : ∀ {n m : Nat}, szOk n → m ≤ n → szOk m := fun {n m} h1 h2 => by unfold szOk at h1 ⊢; omega
    unfold wm
    simp only [List.map_cons, compG, hL ρ i, if_true, h1]
    unfold wm at h2
    cases et : tt ρ1 with
    | none => rw [et] at h2; exact h2.elim
    | some y =>
      rw [et] at h2
      cases y with
      | ex e ρ' => exact h2.elim
      | ok c ρ2 =>
        obtain ⟨rfl, h2⟩ := h2
        cases hk : kp x with
        | false =>
          rw [hk] at h2
          simp only [Bool.false_eq_true, if_false] at h2
          have := ih' acc _ h2 (hz2 z (by simp)) (fun ρ' i' => by have := k ρ' i'; simpa [hk] using this)
          unfold wm at this
          simpa using this
        | true =>
          rw [hk] at h2
          simp only [if_true] at h2
          cases ee : el ρ2 with
          | none => rw [ee] at h2; exact h2.elim
          | some y =>
            rw [ee] at h2
            cases y with
            | ex e ρ' => exact h2.elim
            | ok r ρ3 =>
              obtain ⟨rfl, h2⟩ := h2
              have hz : szOk (acc.length + 1) := hz2 z (by simp)
              have := ih' (acc ++ [b x]) _ h2 (hz2 z (by simp; omega)) (fun ρ' i' => by have := k ρ' i'; simpa [hk] using this)
              unfold wm at this
              simpa [hz, ee] using this
theorem wm_srcG {Q : Option (Nat × List D) × List D → EV → Prop} : wm (srcG f) ρ Q X = wm f ρ (fun r ρ' => match r with
    | .v d => (match itemsD d with
      | some ds => Q (none, ds) ρ'
      | none => False)
    | .s i => (match gets ρ'.sl i with
      | some (.par k) => (match ρ'.ps[k]? with
        | some (.lst ds) => Q (some (k, ds), ds) ρ'
        | _ => False)
      | _ => False)
    | .n _ => False) X := by
  unfold srcG
  rw [wm_bind]
  congr 1
  funext r ρ'
  unfold wm
  cases r with
  | v d => dsimp only; cases itemsD d <;> rfl
  | n d => rfl
  | s i =>
    dsimp only
    unfold gets
    cases e : ρ'.sl[i]? with
    | none => rfl
    | some o =>
      cases o with
      | none => rfl
      | some t =>
        cases t with
        | par k =>
          dsimp only
          cases ρ'.ps[k]? with
          | none => rfl
          | some d => cases d <;> rfl
        | _ => rfl
end
end DL
set_option Elab.async false
set_option linter.all false
set_option maxRecDepth 100000
set_option maxHeartbeats 4000000
/-! DT: own objects by name, walks over lent lists, weakest conditions (2). -/
namespace DL
open PySem PySem.Spec
open L2 (atI ixN V)
/-! ### own objects by name -/
def insOf : D → Option (Str × List Str × List D)
  | .ins C ns ds => some (C, ns, ds)
  | _ => none
def lstOf : Option D → Option (List D)
  | some (.lst xs) => some xs
  | _ => none
section
variable {f : M R} {ρ : EV} {Q : R → EV → Prop} {X : XD → EV → Prop}
theorem wm_srcI {C fl : Str} {Q : List D → EV → Prop} : wm (srcO C fl f) ρ Q X = wm f ρ (fun r ρ' => match r with
    | .v d => (match insOf d with
      | some p => p.1 = C ∧ (match lstOf ((p.2.1.zip p.2.2).lookup fl) with
        | some xs => Q xs ρ'
        | none => False)
      | none => False)
    | _ => False) X := by
  rw [wm_srcO]
  congr 1
  funext r ρ'
  cases r with
  | v d =>
    cases d with
    | ins c ns ds =>
      simp only [insOf]
      cases (ns.zip ds).lookup fl with
      | none => rfl
      | some y => cases y <;> rfl
    | _ => rfl
  | _ => rfl
theorem wm_methI {C m : Str} {fb : F} {N : Nat} {fs : List (M R)} : wm (fMeth C m fb N f fs) ρ Q X = wm f ρ (fun r ρ1 => oD (ρ1.look r) fun d => match insOf d with
    | some p => (p.1 = C ∧ p.2.1.contains m = false) ∧ wm (evs fs) ρ1 (fun rs ρ' => wc fb N (r :: rs) ρ' Q X) X
    | none => False) X := by
  rw [wm_meth]
  congr 1
  funext r ρ1
  cases ρ1.look r with
  | none => rfl
  | some d => cases d <;> rfl
theorem wm_propI {C : Str} {fb : F} {N : Nat} : wm (fProp C fb N f) ρ Q X = wm f ρ (fun r ρ1 => oD (ρ1.look r) fun d => match insOf d with
    | some p => p.1 = C ∧ wc fb N [r] ρ1 Q (fun _ _ => False)
    | none => False) X := by
  rw [wm_prop]
  congr 1
  funext r ρ1
  cases ρ1.look r with
  | none => rfl
  | some d => cases d <;> rfl
end
/-! ### a walk over a lent list -/
theorem own_ne {ρ : EV} {i v : Nat} {d : D} (e : ρ.sl[i]? = some (some (.own d))) (ev : ρ.sl[v]? = some none) : v ≠ i := fun z => by
  subst z
  rw [e] at ev
  cases ev
theorem lent_back {ρ : EV} {i : Nat} {d : D} (e : ρ.sl[i]? = some (some (.own d))) (hs : soleB i ρ.ps.length ρ = true) : (ρ.lent i d).back i ρ.ps.length = some ρ := by
  have hi : i < ρ.sl.length := (List.getElem?_eq_some_iff.mp e).1
  have h1 : (ρ.lent i d).sl[i]? = some (some (.par ρ.ps.length)) := by
    unfold EV.lent
    simp [hi]
  have h2 : soleB i ρ.ps.length (ρ.lent i d) = true := by
    unfold soleB at hs ⊢
    rw [List.all_eq_true] at hs ⊢
    intro j hj
    have hj2 : j ∈ List.range ρ.sl.length := by
      unfold EV.lent at hj
      simpa using hj
    have := hs j hj2
    by_cases z : j = i
    · simp [z]
    · have e3 : (ρ.lent i d).sl[j]? = ρ.sl[j]? := by
        unfold EV.lent
        simp [List.getElem?_set, Ne.symm z]
      rw [e3]
      exact this
  have h3 : (ρ.lent i d).ps[ρ.ps.length]? = some d := by
    unfold EV.lent
    simp
  unfold EV.back
  rw [h1]
  simp only [h2, and_self, if_true, h3]
  congr 1
  have h4 : (ρ.lent i d).sl.set i (some (.own d)) = ρ.sl := by
    unfold EV.lent
    rw [List.set_set]
    obtain ⟨h5, h6⟩ := List.getElem?_eq_some_iff.mp e
    rw [← h6]
    exact List.set_getElem_self h5
  have h5 : (ρ.lent i d).ps.take ρ.ps.length = ρ.ps := by
    unfold EV.lent
    simp
  rw [h4, h5]
theorem lent_comp {ι : Type} {ρ : EV} {i v : Nat} {l : List ι} {a b : ι → D} {el : M R} {Q : R → EV → Prop} {X : XD → EV → Prop} (e : ρ.sl[i]? = some (some (.own (.lst (l.map a))))) (ev : ρ.sl[v]? = some none) (hs : soleB i ρ.ps.length ρ = true)
    (hz : szOk l.length) (hel : ∀ x ∈ l, ∀ ρ', gets ρ'.sl v = some (.val (a x)) → wm el ρ' (fun r ρ'' => r = .v (b x) ∧ ρ'' = ρ') (fun _ _ => False)) (h : Q (.n (.lst (l.map b))) ρ) :
    wm (fLend i (fCompG (srcG (fVar i)) [v] (tgN v) (M.ret true) el)) ρ Q X := by
  have hi : i < ρ.sl.length := (List.getElem?_eq_some_iff.mp e).1
  have hv : v < ρ.sl.length := (List.getElem?_eq_some_iff.mp ev).1
  have hne := own_ne e ev
  have h1 : (ρ.lent i (.lst (l.map a))).sl[i]? = some (some (.par ρ.ps.length)) := by
    unfold EV.lent
    simp [hi]
  have h3 : (ρ.lent i (.lst (l.map a))).ps[ρ.ps.length]? = some (.lst (l.map a)) := by
    unfold EV.lent
    simp
  have hv2 : (ρ.lent i (.lst (l.map a))).sl[v]? = some none := by
    unfold EV.lent
    simp [List.getElem?_set, Ne.symm hne, ev]
  have hk : (ρ.lent i (.lst (l.map a))).kills [v] = ρ.lent i (.lst (l.map a)) := by
    unfold EV.kills EV.kill
    have : (ρ.lent i (.lst (l.map a))).sl.set v none = (ρ.lent i (.lst (l.map a))).sl := by
      obtain ⟨h5, h6⟩ := List.getElem?_eq_some_iff.mp hv2
      rw [← h6]
      exact List.set_getElem_self h5
    rw [this]
    rfl
  have hlk : lkB (some (ρ.ps.length, l.map a)) (ρ.lent i (.lst (l.map a))) = true := by
    unfold lkB
    simp only [h3]
    exact D.beq_refl _
  have hb := lent_back e hs
  refine wm_lend e ?_
  rw [wm_compG, wm_srcG, wm_var]
  simp only [gets, h1, h3]
  rw [hk]
  have := wm_compGM (vs := [v]) (tg := tgN v) (tt := M.ret true) (el := el) (lk := some (ρ.ps.length, l.map a)) (Q := fun acc ρ2 => acc = l.map b ∧ ρ2 = ρ.lent i (.lst (l.map a))) (X := fun _ _ => False) (fun ρ' => ρ' = ρ.lent i (.lst (l.map a))) a b (fun _ => true) (l := l)
    (fun ρ' z => by rw [z]; exact hlk)
    (fun x hx ρ' z => by
      subst z
      refine ⟨_, rfl, ?_⟩
      rw [wm_ret]
      refine ⟨rfl, ?_⟩
      simp only [if_true]
      refine wm_mono (hel x hx _ ?_) (fun r ρ'' q => ?_) (fun _ _ z => z)
      · unfold gets EV.set
        simp [hv2, (List.getElem?_eq_some_iff.mp hv2).1]
      · obtain ⟨q1, q2⟩ := q
        refine ⟨q1, ?_⟩
        rw [q2]
        have : ((ρ.lent i (.lst (l.map a))).set v (.val (a x))).kills [v] = (ρ.lent i (.lst (l.map a))).kills [v] := by
          unfold EV.kills EV.kill EV.set
          simp [EV.kills]
        rw [this, hk]) [] _ rfl (by simpa using hz) (fun ρ' z => by
      subst z
      rw [List.nil_append, List.filter_eq_self.mpr (fun _ _ => rfl)]
      exact ⟨rfl, rfl⟩)
  refine wm_mono this (fun acc ρ2 q => ?_) (fun _ _ z => z.elim)
  obtain ⟨rfl, rfl⟩ := q
  rw [hb]
  exact h
theorem forG_none (t : Tg) (b : F) (ks : List Nat) : ∀ ds, forG t b ks none ds = forL t b ks ds
  | [] => by funext ρ; rfl
  | d :: ds => by
    funext ρ
    have ih := forG_none t b ks ds
    show (match t d ρ with
      | none => none
      | some ρ1 => (match b ρ1 with
        | some (.nx ρ2) => forG t b ks none ds (ρ2.kills ks)
        | some (.ct ρ2) => forG t b ks none ds (ρ2.kills ks)
        | some (.bk ρ2) => some (.nx ρ2)
        | o => o)) = _
    rw [ih]
    rfl
theorem mapIdx_cons' {α : Type} (f : Nat → α → D) : ∀ (l : List α) (k : Nat), (l.mapIdx fun i d => f (k + i) d) = (match l with
    | [] => []
    | a :: l => f k a :: (l.mapIdx fun i d => f (k + 1 + i) d))
  | [], k => rfl
  | a :: l, k => by
    rw [List.mapIdx_cons]
    simp only [Nat.add_zero]
    congr 2
    funext i d
    rw [Nat.add_assoc, Nat.add_comm 1 i]
theorem mapIdx_of {α β : Type} (g : α → β) (f : Nat → β → D) (l : List α) : (l.map g).mapIdx (fun i d => f i d) = l.mapIdx (fun j a => f (0 + j) (g a)) := by
  refine List.ext_getElem? fun k => ?_
  simp [List.getElem?_mapIdx]
  cases l[k]? <;> rfl
theorem wm_rgL {src : M (List D)} {ρ : EV} {Q : R → EV → Prop} {X : XD → EV → Prop} : wm (fRgL src) ρ Q X = wm src ρ (fun ds ρ' => szOk ds.length ∧ Q (.n (.lst ds)) ρ') X := by
  unfold fRgL
  rw [wm_bind]
  congr 1
  funext ds ρ'
  unfold wm
  by_cases z : szOk ds.length
  · simp [z]
  · simp [z]
theorem wf_ifSZ {t : M Bool} {p q : F} {ρ : EV} {E : Ko} : wf (fIfS t p q) ρ E = wm t ρ (fun b ρ' => if b = true then later p E ρ' else later q E ρ') E.ex := wf_ifS
theorem compG_none (vs : List Nat) (tg : Tg) (tt : M Bool) (el : M R) : ∀ ds acc, compG vs tg tt el none ds acc = compL vs tg tt el ds acc
  | [], acc => by funext ρ; rfl
  | d :: ds, acc => by
    funext ρ
    show (match tg d ρ with
      | none => none
      | some ρ1 => (match tt ρ1 with
        | some (.ok true ρ2) => (match el ρ2 with
          | some (.ok (.v y) ρ3) => if szOk (acc.length + 1) then compG vs tg tt el none ds (acc ++ [y]) (ρ3.kills vs) else none
          | _ => none)
        | some (.ok false ρ2) => compG vs tg tt el none ds acc (ρ2.kills vs)
        | _ => none)) = (match tg d ρ with
      | none => none
      | some ρ1 => (match tt ρ1 with
        | some (.ok true ρ2) => (match el ρ2 with
          | some (.ok (.v y) ρ3) => if szOk (acc.length + 1) then compL vs tg tt el ds (acc ++ [y]) (ρ3.kills vs) else none
          | _ => none)
        | some (.ok false ρ2) => compL vs tg tt el ds acc (ρ2.kills vs)
        | _ => none))
    simp only [compG_none vs tg tt el ds]
/-- a comprehension with a test -/
theorem wm_compF {ρ : EV} {X : XD → EV → Prop} {ι : Type} {vs : List Nat} {tg : Tg} {tt : M Bool} {el : M R} {Q : List D → EV → Prop} (I : EV → Prop) (a b : ι → D) (kp : ι → Bool) {l : List ι}
    (hs : ∀ x ∈ l, ∀ ρ, I ρ → ∃ ρ1, tg (a x) ρ = some ρ1 ∧ wm tt ρ1 (fun c ρ2 => c = kp x ∧ (if kp x = true then wm el ρ2 (fun r ρ3 => r = .v (b x) ∧ I (ρ3.kills vs)) (fun _ _ => False) else I (ρ2.kills vs))) (fun _ _ => False))
    (hi : I ρ) (hz : szOk l.length) (hQ : ∀ ρ', I ρ' → Q ((l.filter kp).map b) ρ') : wm (compL vs tg tt el (l.map a) []) ρ Q X := by
  rw [← compG_none]
  refine wm_compGM I a b kp (fun _ _ => rfl) hs [] ρ hi (by simpa using hz) (fun ρ' z => ?_)
  rw [List.nil_append]
  exact hQ ρ' z
theorem cRng_nat {n : Nat} (h : n ≤ 1000000000) : cRng (n : Int) := by
  have : ((n : Nat) : Int) ≤ 1000000000 := by omega
  unfold cRng
  constructor <;> omega
theorem range_nat {n : Nat} (h : n ≤ 1000000000) : rangeD1 [.int (n : Nat)] = some (rangeL 0 n) := by
  show (if cRng ((n : Nat) : Int) then some (rangeL 0 ((n : Nat) : Int).toNat) else none) = _
  rw [if_pos (cRng_nat h), Int.toNat_natCast]
section
variable {p : F} {ρ : EV} {E : Ko} {tg : Tg} {ks : List Nat}
/-- a walk over a list, by the place -/
theorem wf_lst {ι : Type} {l : List ι} {f : ι → D} (I : Nat → EV → Prop) (hs : ∀ (k : Nat) (hk : k < l.length) ρ, I k ρ → ∃ ρ1, tg (f l[k]) ρ = some ρ1 ∧ wf p ρ1 ⟨fun ρ2 => I (k + 1) (ρ2.kills ks), E.rt, E.nx, fun ρ2 => I (k + 1) (ρ2.kills ks), E.ex⟩)
    (he : ∀ ρ, I l.length ρ → E.nx ρ) (h0 : I 0 ρ) : wf (forL tg p ks (l.map f)) ρ E := by
  refine wf_forL (fun ds ρ => ∃ k, k ≤ l.length ∧ ds = (l.drop k).map f ∧ I k ρ) ?_ ?_ _ _ ⟨0, Nat.zero_le _, rfl, h0⟩
  · rintro d ds ρ ⟨k, hk, e, hi⟩
    have hk2 : k < l.length := by
      by_cases z : k < l.length
      · exact z
      · rw [List.drop_eq_nil_of_le (by omega)] at e
        cases e
    rw [List.drop_eq_getElem_cons hk2, List.map_cons] at e
    obtain ⟨rfl, rfl⟩ := List.cons.inj e
    obtain ⟨ρ1, e1, q⟩ := hs k hk2 ρ hi
    exact ⟨ρ1, e1, wf_mono q (fun ρ2 z => ⟨k + 1, hk2, rfl, z⟩) (fun _ _ z => z) (fun _ z => z) (fun ρ2 z => ⟨k + 1, hk2, rfl, z⟩) (fun _ _ z => z)⟩
  · rintro ρ ⟨k, hk, e, hi⟩
    have : k = l.length := by
      have := congrArg List.length e
      simp at this
      omega
    subst this
    exact he ρ hi
theorem wf_range {n : Nat} (I : Nat → EV → Prop) (hs : ∀ (k : Nat) ρ, k < n → I k ρ → ∃ ρ1, tg (.int k) ρ = some ρ1 ∧ wf p ρ1 ⟨fun ρ2 => I (k + 1) (ρ2.kills ks), E.rt, E.nx, fun ρ2 => I (k + 1) (ρ2.kills ks), E.ex⟩)
    (he : ∀ ρ, I n ρ → E.nx ρ) (h0 : I 0 ρ) : wf (forL tg p ks (rangeL 0 n)) ρ E := by
  unfold rangeL
  refine wf_lst (l := List.range n) (f := fun i => D.int (0 + (i : Nat))) I (fun k hk ρ hi => ?_) (fun ρ z => he ρ (by simpa using z)) h0
  rw [List.getElem_range]
  rw [Int.zero_add]
  exact hs k ρ (by simpa using hk) hi
theorem wf_enum {ι : Type} {l : List ι} {f : ι → D} (I : Nat → EV → Prop) (hs : ∀ (k : Nat) (hk : k < l.length) ρ, I k ρ → ∃ ρ1, tg (.tup [.int k, f l[k]]) ρ = some ρ1 ∧ wf p ρ1 ⟨fun ρ2 => I (k + 1) (ρ2.kills ks), E.rt, E.nx, fun ρ2 => I (k + 1) (ρ2.kills ks), E.ex⟩)
    (he : ∀ ρ, I l.length ρ → E.nx ρ) (h0 : I 0 ρ) : wf (forL tg p ks ((l.map f).mapIdx fun i d => D.tup [.int (i : Nat), d])) ρ E := by
  have e : (l.map f).mapIdx (fun i d => D.tup [.int (i : Nat), d]) = (List.range l.length).map (fun k => match l[k]? with
    | some x => D.tup [.int (k : Nat), f x]
    | none => .non) := by
    refine List.ext_getElem? fun k => ?_
    simp only [List.getElem?_mapIdx, List.getElem?_map]
    by_cases hk : k < l.length
    · simp [hk]
    · simp [hk]
  rw [e]
  refine wf_lst (l := List.range l.length) I (fun k hk ρ hi => ?_) (fun ρ z => he ρ (by simpa using z)) h0
  have hk2 : k < l.length := by simpa using hk
  simp only [List.getElem_range, List.getElem?_eq_getElem hk2]
  exact hs k hk2 ρ hi
end
end DL
set_option Elab.async false
set_option linter.all false
set_option maxRecDepth 100000
set_option maxHeartbeats 4000000
namespace K05
open PySem PySem.Spec PyProof.Rows L2 DL
def kd_PARTS : List (Str × D) := [("kind", .int 0), ("hall", .int 1), ("make", .int 2)]
/-- _law_draws. slots: 0:_law_script 1:_law_draws_here 2:_law_k 3:_law_number 4:_law_side 5:_law_turn 6:_law_mixed -/
def lb__law_draws_2 : F :=
  (fIfS (fBool (fBin geD (fVar 3) (fC (.int 1000))))
  (fSeq (fExpr (fMutL appendM 1 [fNN (fBin modD (fN intD [fNN (fVar 3)]) (fC (.int 1000)))]))
  (fSetN 3 (fBin fdivD (fVar 3) (fC (.int 1000)))))
  fSkip)
def lb__law_draws_3 : F :=
  (fSeq (fSetN 6 (fBin modD (fN intD [fNN (fBin mulD (fVar 6) (fC (.int 69621)))]) (fC (.int 2147483647))))
  (fExpr (fMutL appendM 1 [fNN (fBin modD (fBin modD (fN intD [fNN (fFrN (fBin mulD (fVar 6) (fVar 6)))]) (fC (.int 2147483629))) (fC (.int 1000)))])))
def rb__law_draws_1 : F :=
  (fKill [3, 5, 6] (fIfS (fBool (fBin geD (fVar 3) (fBin powD (fC (.int 10)) (fC (.int 18)))))
  (fKill [3, 5] (fFor (srcN rangeD1 [fNN (fC (.int 40))]) (tgN 5) lb__law_draws_2 [5]))
  (fSeq (fSetN 6 (fBin modD (fN intD [fNN (fBin mulD (fBin addD (fBin mulD (fC (.int 2)) (fVar 3)) (fVar 4)) (fBin addD (fC (.int 48271)) (fBin mulD (fC (.int 34)) (fVar 2))))]) (fC (.int 2147483647))))
  (fKill [5, 6] (fFor (srcN rangeD1 [fNN (fC (.int 6))]) (tgN 5) lb__law_draws_3 [5])))))
def lb__law_draws_1 : F :=
  (fSeq (fSetN 3 (fBin ixD (fVar 0) (fVar 2)))
  (fSeq (fSetN 4 (fC (.int 0)))
  (fSeqL (fIfS (fBool (fBin ltD (fVar 3) (fC (.int 0))))
  (fSeq (fSetN 3 (fUn negD (fVar 3)))
  (fSetN 4 (fC (.int 1))))
  fSkip)
  rb__law_draws_1)))
def rb__law_draws_2 : F :=
  (fSeq (fExpr (fMutL reverseM 1 []))
  (fRet (fVar 1)))
def fb__law_draws : F :=
  (fSeq (fSetN 1 (fLst []))
  (fSeqL (fKill [2, 3, 4, 5, 6] (fFor (srcN rangeD1 [fNN (fN min2D [fNN (fN lenD [fNN (fVar 0)]), fNN (fC (.int 63))])]) (tgN 2) lb__law_draws_1 [2, 3, 4, 5, 6]))
  rb__law_draws_2))
/-- _law_draw. slots: 0:_law_draws_here 1:_law_many -/
def fb__law_draw : F :=
  (fSeq (fIfS (fBool (fBin eqD (fN lenD [fNN (fVar 0)]) (fC (.int 0))))
  (fRet (fC (.int 0)))
  fSkip)
  (fRet (fBin modD (fN intD [fNN (fFrN (fMutL popM 0 []))]) (fVar 1))))
/-- _law_kinds. slots: 0:_law_draws_here 1:_law_names 2:_law_words 3:_law_many 4:_law_order 5:_law_pool 6:_law_rows 7:_law_k 8:_law_cell 9:_law_name -/
def rb__law_kinds_1 : F :=
  (fSeq (fSetN 9 (fBin ixD (fVar 1) (fBin modD (fN intD [fNN (fBin addD (fBin fdivD (fVar 4) (fC (.int 6))) (fBin mulD (fVar 7) (fBin addD (fC (.int 1)) (fBin modD (fN intD [fNN (fVar 4)]) (fC (.int 6))))))]) (fC (.int 7)))))
  (fExpr (fMutL appendM 6 [fNN (fTup [fNN (fVar 9), fNN (fBin ixD (fVar 2) (fBin modD (fN intD [fNN (fVar 8)]) (fVar 5))), fNN (fBin ixD (fVar 2) (fBin modD (fN intD [fNN (fBin fdivD (fVar 8) (fC (.int 5)))]) (fC (.int 5)))), fNN (fBin addD (fC (.int 1)) (fBin modD (fN intD [fNN (fBin fdivD (fVar 8) (fC (.int 25)))]) (fC (.int 9))))])])))
def lb__law_kinds_1 : F :=
  (fSeqL (fSetN 8 (fCall fb__law_draw 2 [fNN (fVar 0), fNN (fC (.int 1000))]))
  rb__law_kinds_1)
def rb__law_kinds_2 : F :=
  (fRet (fVar 6))
def rb__law_kinds_3 : F :=
  (fSeq (fSetN 6 (fLst []))
  (fSeqL (fKill [7, 8, 9] (fFor (srcN rangeD1 [fNN (fVar 3)]) (tgN 7) lb__law_kinds_1 [7, 8, 9]))
  rb__law_kinds_2))
def rb__law_kinds_4 : F :=
  (fSeqL (fSetN 5 (fBin addD (fC (.int 1)) (fCall fb__law_draw 2 [fNN (fVar 0), fNN (fC (.int 5))])))
  rb__law_kinds_3)
def rb__law_kinds_5 : F :=
  (fSeqL (fSetN 4 (fCall fb__law_draw 2 [fNN (fVar 0), fNN (fC (.int 42))]))
  rb__law_kinds_4)
def fb__law_kinds : F :=
  (fSeq (fSetN 1 (fFrz (fLst [fNN (fC (.str "own")), fNN (fC (.str "b")), fNN (fC (.str "if")), fNN (fC (.str "ab")), fNN (fC (.str "any")), fNN (fC (.str "a")), fNN (fC (.str "zoneeast"))])))
  (fSeq (fSetN 2 (fFrz (fLst [fNN (fC (.str "n")), fNN (fC (.str "south")), fNN (fC (.str "any")), fNN (fC (.str "b")), fNN (fC (.str "make"))])))
  (fSeqL (fSetN 3 (fBin addD (fC (.int 1)) (fCall fb__law_draw 2 [fNN (fVar 0), fNN (fC (.int 5))])))
  rb__law_kinds_5)))
/-- Kinds.__init__. slots: 0:self 1:rows 2:row 3:other -/
def fb_Kinds_init : F :=
  fbKI
/-- Kinds.members. slots: 0:self 1:tally 2:kind 3:part 4:wanted 5:found 6:at 7:row -/
def rb_Kinds_members_1 : F :=
  (fRet (fVar 5))
def rb_Kinds_members_2 : F :=
  (fSeqL (fIfS (fNotB (fTru (fVar 5)))
  (fRaise "UnknownName" "name" [fNN (fVar 4)])
  fSkip)
  rb_Kinds_members_1)
def rb_Kinds_members_3 : F :=
  (fSeqL (fSetN 5 (fComp (srcN enumD [fNN (fUn (fldD ["Kinds"] "rows") (fVar 0))]) (List.map (·.2) ([("at", 6), ("row", 7)] : List (Str × Nat))) (tgT [(tgN 6), (tgN 7)]) (fBool (fBin eqD (fBin ixD (fVar 7) (fVar 3)) (fVar 4))) (fVar 6)))
  rb_Kinds_members_2)
def fb_Kinds_members : F :=
  (fSeq (fIfS (fBool (fBin eqD (fBin ixD (fVar 1) (fC (.int 0))) (fC (.str "any"))))
  (fRet (fRgL (srcN rangeD1 [fNN (fN lenD [fNN (fUn (fldD ["Kinds"] "rows") (fVar 0))])])))
  fSkip)
  (fSeqL (fIfS (fBool (fBin eqD (fBin ixD (fVar 1) (fC (.int 0))) (fC (.str "own"))))
  (fSeq (fSetN 3 (fUn (ixKD kd_PARTS) (fBin ixD (fVar 1) (fC (.int 1)))))
  (fSetN 4 (fBin ixD (fBin ixD (fUn (fldD ["Kinds"] "rows") (fVar 0)) (fVar 2)) (fVar 3))))
  (fSeq (fSetN 3 (fUn (ixKD kd_PARTS) (fBin ixD (fVar 1) (fC (.int 0)))))
  (fSetN 4 (fBin ixD (fVar 1) (fC (.int 1))))))
  rb_Kinds_members_3))
/-- _law_right_group. slots: 0:_law_thing 1:_law_due 2:_law_k -/
def lb__law_right_group_1 : F :=
  (fIfS (fOrB (fNotB (fBool (fN isiD [fNN (fBin ixD (fVar 0) (fVar 2)), fNN (fC (.ty "int"))]))) (fOrB (fBool (fN isiD [fNN (fBin ixD (fVar 0) (fVar 2)), fNN (fC (.ty "bool"))])) (fBool (fBin neD (fBin ixD (fVar 0) (fVar 2)) (fBin ixD (fVar 1) (fVar 2))))))
  (fRet (fC (.bl false)))
  fSkip)
def rb__law_right_group_1 : F :=
  (fRet (fC (.bl true)))
def fb__law_right_group : F :=
  (fSeq (fIfS (fOrB (fNotB (fBool (fN isiD [fNN (fVar 0), fNN (fC (.ty "list"))]))) (fBool (fBin neD (fN lenD [fNN (fVar 0)]) (fN lenD [fNN (fVar 1)]))))
  (fRet (fC (.bl false)))
  fSkip)
  (fSeqL (fKill [2] (fFor (srcN rangeD1 [fNN (fN lenD [fNN (fVar 1)])]) (tgN 2) lb__law_right_group_1 [2]))
  rb__law_right_group_1))
/-- _law_group_told. slots: 0:_law_kinds_here 1:_law_tally 2:_law_kind 3:_law_due 4:_law_found -/
def rb__law_group_told_1 : F :=
  (fSeq (fExpr (fMutL appendM 4 [fNN (fC (.int 9))]))
  (fRet (fCall fb__law_right_group 3 [fNN (fFrN (fMeth "Kinds" "members" fb_Kinds_members 8 (fVar 0) [fNN (fVar 1), fNN (fVar 2)])), fNN (fVar 3)])))
def rb__law_group_told_2 : F :=
  (fSeqL (fIfS (fNotB (fBool (fFrN (fCall fb__law_right_group 3 [fNN (fVar 4), fNN (fVar 3)]))))
  (fRet (fC (.bl false)))
  fSkip)
  rb__law_group_told_1)
def fb__law_group_told : F :=
  (fSeqL (fSetN 4 (fMeth "Kinds" "members" fb_Kinds_members 8 (fVar 0) [fNN (fVar 1), fNN (fVar 2)]))
  rb__law_group_told_2)
/-- _law_unknown_told. slots: 0:_law_kinds_here 1:_law_tally 2:_law_kind 3:_law_found 4:e -/
def rb__law_unknown_told_1 : F :=
  (fRet (fAnd (fN isiD [fNN (fVar 3), fNN (fC (.ty "str"))]) (fBin eqD (fVar 3) (fBin ixD (fVar 1) (fC (.int 1))))))
def fb__law_unknown_told : F :=
  (fSeq (fSetN 3 (fC .non))
  (fSeqL (fTryAs 4 (lk [("UnknownName", true)]) (fExpr (fMeth "Kinds" "members" fb_Kinds_members 8 (fVar 0) [fNN (fVar 1), fNN (fVar 2)])) fun xd => (fSetN 3 (fXf 4 xd (inL ["UnknownName"]) "name")))
  rb__law_unknown_told_1))
/-- law. slots: 0:_law_script 1:_law_draws_here 2:_law_rows 3:_law_kinds_here 4:_law_roles 5:_law_words 6:_law_row 7:_law_kind 8:_law_place 9:_law_due 10:_law_word 11:_law_k -/
def lb_law_1 : F :=
  (fSetN 5 (fFrz (fBin addD (fVar 5) (fFrN (fLst [fNN (fBin ixD (fVar 6) (fC (.int 0))), fNN (fBin ixD (fVar 6) (fC (.int 1))), fNN (fBin ixD (fVar 6) (fC (.int 2)))])))))
def rb_law_1 : F :=
  (fIfS (fAndB (fBool (fBin eqD (fN lenD [fNN (fVar 9)]) (fC (.int 0)))) (fNotB (fBool (fFrN (fCall fb__law_unknown_told 5 [fNN (fVar 3), fNN (fTup [fNN (fBin ixD (fVar 4) (fVar 8)), fNN (fVar 10)]), fNN (fVar 7)])))))
  (fRet (fC (.bl false)))
  fSkip)
def rb_law_2 : F :=
  (fSeqL (fIfS (fAndB (fBool (fBin gtD (fN lenD [fNN (fVar 9)]) (fC (.int 0)))) (fNotB (fBool (fFrN (fCall fb__law_group_told 5 [fNN (fVar 3), fNN (fTup [fNN (fBin ixD (fVar 4) (fVar 8)), fNN (fVar 10)]), fNN (fVar 7), fNN (fVar 9)])))))
  (fRet (fC (.bl false)))
  fSkip)
  rb_law_1)
def lb_law_4 : F :=
  (fSeqL (fSetV 9 (fComp (srcN rangeD1 [fNN (fN lenD [fNN (fVar 2)])]) (List.map (·.2) ([("_law_k", 11)] : List (Str × Nat))) (tgN 11) (fBool (fBin eqD (fBin ixD (fBin ixD (fVar 2) (fVar 11)) (fVar 8)) (fVar 10))) (fVar 11)))
  rb_law_2)
def rb_law_3 : F :=
  (fKill [9, 10] (fFor (srcD (fVar 5)) (tgN 10) lb_law_4 [9, 10]))
def rb_law_4 : F :=
  (fSeqL (fIfS (fNotB (fBool (fFrN (fCall fb__law_group_told 5 [fNN (fVar 3), fNN (fTup [fNN (fC (.str "own")), fNN (fBin ixD (fVar 4) (fVar 8))]), fNN (fVar 7), fNN (fVar 9)]))))
  (fRet (fC (.bl false)))
  fSkip)
  rb_law_3)
def lb_law_3 : F :=
  (fSeqL (fSetV 9 (fComp (srcN rangeD1 [fNN (fN lenD [fNN (fVar 2)])]) (List.map (·.2) ([("_law_k", 11)] : List (Str × Nat))) (tgN 11) (fBool (fBin eqD (fBin ixD (fBin ixD (fVar 2) (fVar 11)) (fVar 8)) (fBin ixD (fBin ixD (fVar 2) (fVar 7)) (fVar 8)))) (fVar 11)))
  rb_law_4)
def rb_law_5 : F :=
  (fKill [8, 9, 10] (fFor (srcN rangeD1 [fNN (fC (.int 3))]) (tgN 8) lb_law_3 [8, 9, 10]))
def lb_law_2 : F :=
  (fSeqL (fIfS (fNotB (fBool (fFrN (fCall fb__law_group_told 5 [fNN (fVar 3), fNN (fTup [fNN (fC (.str "any"))]), fNN (fVar 7), fNN (fFrN (fRgL (srcN rangeD1 [fNN (fN lenD [fNN (fVar 2)])])))]))))
  (fRet (fC (.bl false)))
  fSkip)
  rb_law_5)
def rb_law_6 : F :=
  (fRet (fC (.bl true)))
def rb_law_7 : F :=
  (fSeqL (fKill [7, 8, 9, 10] (fFor (srcN rangeD1 [fNN (fN lenD [fNN (fVar 2)])]) (tgN 7) lb_law_2 [7, 8, 9, 10]))
  rb_law_6)
def rb_law_8 : F :=
  (fSeq (fSetN 4 (fFrz (fLst [fNN (fC (.str "kind")), fNN (fC (.str "hall")), fNN (fC (.str "make"))])))
  (fSeq (fSetN 5 (fFrz (fLst [fNN (fC (.str "zzz"))])))
  (fSeqL (fKill [6] (fFor (srcD (fVar 2)) (tgN 6) lb_law_1 [6]))
  rb_law_7)))
def rb_law_9 : F :=
  (fSeqL (fSetN 3 (fFrz (fMake "Kinds" fb_Kinds_init 4 [fNN (fFrN (fN listD [fNN (fVar 2)]))])))
  rb_law_8)
def rb_law_10 : F :=
  (fSeqL (fSetN 2 (fFrz (fCall fb__law_kinds 10 [fNN (fVar 1)])))
  rb_law_9)
def fb_law : F :=
  (fSeqL (fSetN 1 (fCall fb__law_draws 7 [fNN (fVar 0)]))
  rb_law_10)
end K05
set_option Elab.async false
set_option linter.all false
set_option maxRecDepth 100000
set_option maxHeartbeats 4000000
namespace K05
open PySem PySem.Spec PyProof.Rows L2 DL
def top (i : Nat) : Stmt := PySem.Challenge.pw_keysstayput_k05_groups_of_tallies.main.body.getD i (.Pass ⟨0, 0, 0, 0⟩)
structure Bf (P : Program) (w : World) (K : PySem.W.Frag) (mg : Str → Option Value) (base : Heap) : Prop where
  list_ : mg "list" = none
  len_ : mg "len" = none
  range_ : mg "range" = none
  min_ : mg "min" = none
  int_ : mg "int" = none
  tuple_ : mg "tuple" = none
  enumerate_ : mg "enumerate" = none
  isinstance_ : mg "isinstance" = none
  bool_ : mg "bool" = none
  str_ : mg "str" = none
  PARTS_ : GDict K w mg "PARTS" kd_PARTS
  err_DuplicateName : ErrF P w K mg base "DuplicateName" "name"
  err_UnknownName : ErrF P w K mg base "UnknownName" "name"
  cls_Kinds : mg "Kinds" = some (.ref (He.ga K "Kinds"))
  cls_UnknownName : mg "UnknownName" = some (.ref (He.ga K "UnknownName"))
  exm_UnknownName_UnknownName : PySem.W.exmOne K (.ref (He.ga K "UnknownName")) (.ref (He.ga K "UnknownName")) = some true
  mk_Kinds : Mk K (He.ga K "Kinds") (He.ma K (He.ga K "Kinds") "__init__")
  ck_Kinds : Cls K (He.ga K "Kinds")
  noat_Kinds_rows : NoAttr K (He.ga K "Kinds") "rows"
  meth_Kinds_members : Meth K (He.ga K "Kinds") "members" (He.ma K (He.ga K "Kinds") "members")
section
variable {P : Program} {w : World} {K : PySem.W.Frag} {mg : Str → Option Value} {base : Heap}
abbrev s__law_draws : Stmt := top 13
theorem sc__law_draws : FnScope ["_law_script", "_law_draws_here", "_law_k", "_law_number", "_law_side", "_law_turn", "_law_mixed"] ["_law_script"] (defScope s__law_draws) := ⟨rfl, rfl, rfl, by decide +kernel, rfl, by decide +kernel, by decide +kernel⟩
theorem ok__law_draws (B : Bf P w K mg base)  (F : FunG K mg "_law_draws" s__law_draws) : DefOk P w K mg base 1 "_law_draws" ["_law_script"] ["_law_script", "_law_draws_here", "_law_k", "_law_number", "_law_side", "_law_turn", "_law_mixed"] fb__law_draws := by
  refine def_dl F sc__law_draws (fun _ _ _ _ _ _ us hl => match us, hl with | [_], _ => rfl) fun f cdv A outer s H E C hr => ?_
  exact (pqs_cons (pq_set 1 sc__law_draws.nd (pd_lst pa_dnil))
  (pqs_cons (pq_kill (pq_for (passes_of rfl) rfl (pid_range1 (by rfl) B.range_ (pa_dcons (pd_callB (min2_ok rfl) (by rfl) B.min_ (by decide +kernel) (pa_dcons (pd_callB len_ok (by rfl) B.len_ PySem.boot_len (pa_dcons (pd_var 0) pa_dnil)) (pa_dcons pd_int pa_dnil))) pa_dnil)) (pgd_name 2 sc__law_draws.nd)
  (pqs_cons (pq_set 3 sc__law_draws.nd (pd_ix (pd_var 0) (pd_var 2)))
  (pqs_cons (pq_set 4 sc__law_draws.nd pd_int)
  (pqs_cons (pq_if (pb_cmp lt_ok (pd_var 3) pd_int (nomark _))
  (pqs_cons (pq_set 3 sc__law_draws.nd (pd_neg (pd_var 3)))
  (pqs_one (pq_set 4 sc__law_draws.nd pd_int)))
  pqs_nil)
  (pqs_one (pq_kill (pq_if (pb_cmp ge_ok (pd_var 3) (pd_bin pow_ok pd_int pd_int) (nomark _))
  (pqs_one (pq_kill (pq_for (passes_of rfl) rfl (pid_range1 (by rfl) B.range_ (pa_dcons pd_int pa_dnil)) (pgd_name 5 sc__law_draws.nd)
  (pqs_one (pq_if (pb_cmp ge_ok (pd_var 3) pd_int (nomark _))
  (pqs_cons (pq_expr (pd_append (pv 1) (pa_dcons (pd_bin mod_ok (pd_callTy int_ok (by rfl) B.int_ (by decide +kernel) (pa_dcons (pd_var 3) pa_dnil)) pd_int) pa_dnil)))
  (pqs_one (pq_set 3 sc__law_draws.nd (pd_bin fdiv_ok (pd_var 3) pd_int))))
  pqs_nil)) (by intro _; rfl) [5]) [3, 5]))
  (pqs_cons (pq_set 6 sc__law_draws.nd (pd_bin mod_ok (pd_callTy int_ok (by rfl) B.int_ (by decide +kernel) (pa_dcons (pd_bin mul_ok (pd_bin add_ok (pd_bin mul_ok pd_int (pd_var 3)) (pd_var 4)) (pd_bin add_ok pd_int (pd_bin mul_ok pd_int (pd_var 2)))) pa_dnil)) pd_int))
  (pqs_one (pq_kill (pq_for (passes_of rfl) rfl (pid_range1 (by rfl) B.range_ (pa_dcons pd_int pa_dnil)) (pgd_name 5 sc__law_draws.nd)
  (pqs_cons (pq_set 6 sc__law_draws.nd (pd_bin mod_ok (pd_callTy int_ok (by rfl) B.int_ (by decide +kernel) (pa_dcons (pd_bin mul_ok (pd_var 6) pd_int) pa_dnil)) pd_int))
  (pqs_one (pq_expr (pd_append (pv 1) (pa_dcons (pd_bin mod_ok (pd_bin mod_ok (pd_callTy int_ok (by rfl) B.int_ (by decide +kernel) (pa_dcons (pd_frN (pd_bin mul_ok (pd_var 6) (pd_var 6))) pa_dnil)) pd_int) pd_int) pa_dnil))))) (by intro _; rfl) [5]) [5, 6])))) [3, 5, 6]))))) (by intro _; rfl) [2, 3, 4, 5, 6]) [2, 3, 4, 5, 6])
  (pqs_cons (pq_expr (pd_reverse (pv 1)))
  (pqs_one (pq_ret (pd_var 1))))))
abbrev s__law_draw : Stmt := top 14
theorem sc__law_draw : FnScope ["_law_draws_here", "_law_many"] ["_law_draws_here", "_law_many"] (defScope s__law_draw) := ⟨rfl, rfl, rfl, by decide +kernel, rfl, by decide +kernel, by decide +kernel⟩
theorem ok__law_draw (B : Bf P w K mg base)  (F : FunG K mg "_law_draw" s__law_draw) : DefOk P w K mg base 1 "_law_draw" ["_law_draws_here", "_law_many"] ["_law_draws_here", "_law_many"] fb__law_draw := by
  refine def_dl F sc__law_draw (fun _ _ _ _ _ _ us hl => match us, hl with | [_, _], _ => rfl) fun f cdv A outer s H E C hr => ?_
  exact (pqs_cons (pq_if (pb_cmp (eq_ok hr.units) (pd_callB len_ok (by rfl) B.len_ PySem.boot_len (pa_dcons (pd_var 0) pa_dnil)) pd_int (nomark _))
  (pqs_one (pq_ret pd_int))
  pqs_nil)
  (pqs_one (pq_ret (pd_bin mod_ok (pd_callTy int_ok (by rfl) B.int_ (by decide +kernel) (pa_dcons (pd_frN (pd_pop (pv 0))) pa_dnil)) (pd_var 1)))))
abbrev s__law_kinds : Stmt := top 15
theorem sc__law_kinds : FnScope ["_law_draws_here", "_law_names", "_law_words", "_law_many", "_law_order", "_law_pool", "_law_rows", "_law_k", "_law_cell", "_law_name"] ["_law_draws_here"] (defScope s__law_kinds) := ⟨rfl, rfl, rfl, by decide +kernel, rfl, by decide +kernel, by decide +kernel⟩
theorem ok__law_kinds (B : Bf P w K mg base) (h__law_draw : DefOk P w K mg base 1 "_law_draw" ["_law_draws_here", "_law_many"] ["_law_draws_here", "_law_many"] fb__law_draw) (F : FunG K mg "_law_kinds" s__law_kinds) : DefOk P w K mg base 2 "_law_kinds" ["_law_draws_here"] ["_law_draws_here", "_law_names", "_law_words", "_law_many", "_law_order", "_law_pool", "_law_rows", "_law_k", "_law_cell", "_law_name"] fb__law_kinds := by
  refine def_dl F sc__law_kinds (fun _ _ _ _ _ _ us hl => match us, hl with | [_], _ => rfl) fun f cdv A outer s H E C hr => ?_
  exact (pqs_cons (pq_set 1 sc__law_kinds.nd (pd_frz (pd_lst (pa_dcons pd_str (pa_dcons pd_str (pa_dcons pd_str (pa_dcons pd_str (pa_dcons pd_str (pa_dcons pd_str (pa_dcons pd_str pa_dnil))))))))))
  (pqs_cons (pq_set 2 sc__law_kinds.nd (pd_frz (pd_lst (pa_dcons pd_str (pa_dcons pd_str (pa_dcons pd_str (pa_dcons pd_str (pa_dcons pd_str pa_dnil))))))))
  (pqs_cons (pq_set 3 sc__law_kinds.nd (pd_bin add_ok pd_int (pd_call' h__law_draw (hr.mono (by decide)) (by rfl) (takes_of rfl rfl rfl rfl) (pa_dcons (pd_var 0) (pa_dcons pd_int pa_dnil)))))
  (pqs_cons (pq_set 4 sc__law_kinds.nd (pd_call' h__law_draw (hr.mono (by decide)) (by rfl) (takes_of rfl rfl rfl rfl) (pa_dcons (pd_var 0) (pa_dcons pd_int pa_dnil))))
  (pqs_cons (pq_set 5 sc__law_kinds.nd (pd_bin add_ok pd_int (pd_call' h__law_draw (hr.mono (by decide)) (by rfl) (takes_of rfl rfl rfl rfl) (pa_dcons (pd_var 0) (pa_dcons pd_int pa_dnil)))))
  (pqs_cons (pq_set 6 sc__law_kinds.nd (pd_lst pa_dnil))
  (pqs_cons (pq_kill (pq_for (passes_of rfl) rfl (pid_range1 (by rfl) B.range_ (pa_dcons (pd_var 3) pa_dnil)) (pgd_name 7 sc__law_kinds.nd)
  (pqs_cons (pq_set 8 sc__law_kinds.nd (pd_call' h__law_draw (hr.mono (by decide)) (by rfl) (takes_of rfl rfl rfl rfl) (pa_dcons (pd_var 0) (pa_dcons pd_int pa_dnil))))
  (pqs_cons (pq_set 9 sc__law_kinds.nd (pd_ix (pd_var 1) (pd_bin mod_ok (pd_callTy int_ok (by rfl) B.int_ (by decide +kernel) (pa_dcons (pd_bin add_ok (pd_bin fdiv_ok (pd_var 4) pd_int) (pd_bin mul_ok (pd_var 7) (pd_bin add_ok pd_int (pd_bin mod_ok (pd_callTy int_ok (by rfl) B.int_ (by decide +kernel) (pa_dcons (pd_var 4) pa_dnil)) pd_int)))) pa_dnil)) pd_int)))
  (pqs_one (pq_expr (pd_append (pv 6) (pa_dcons (pd_tup (pa_dcons (pd_var 9) (pa_dcons (pd_ix (pd_var 2) (pd_bin mod_ok (pd_callTy int_ok (by rfl) B.int_ (by decide +kernel) (pa_dcons (pd_var 8) pa_dnil)) (pd_var 5))) (pa_dcons (pd_ix (pd_var 2) (pd_bin mod_ok (pd_callTy int_ok (by rfl) B.int_ (by decide +kernel) (pa_dcons (pd_bin fdiv_ok (pd_var 8) pd_int) pa_dnil)) pd_int)) (pa_dcons (pd_bin add_ok pd_int (pd_bin mod_ok (pd_callTy int_ok (by rfl) B.int_ (by decide +kernel) (pa_dcons (pd_bin fdiv_ok (pd_var 8) pd_int) pa_dnil)) pd_int)) pa_dnil))))) pa_dnil)))))) (by intro _; rfl) [7, 8, 9]) [7, 8, 9])
  (pqs_one (pq_ret (pd_var 6))))))))))
abbrev s_Kinds_init : Stmt := inClass (top 11) 1
theorem sc_Kinds_init : FnScope ["self", "rows", "row", "other"] ["self", "rows"] (defScope s_Kinds_init) := ⟨rfl, rfl, rfl, by decide +kernel, rfl, by decide +kernel, by decide +kernel⟩
theorem ok_Kinds_init (B : Bf P w K mg base)  {fd : FuncData} (F : FunD K "__init__" "Kinds.__init__" (defArgs s_Kinds_init) (defBody s_Kinds_init) (defScope s_Kinds_init) [] [] (He.ma K (He.ga K "Kinds") "__init__") fd) : MemD P w K mg base 3 (He.ma K (He.ga K "Kinds") "__init__") ["self", "rows"] ["self", "rows", "row", "other"] fb_Kinds_init := by
  refine mem_dl F sc_Kinds_init (fun _ _ _ _ _ _ us hl => match us, hl with | [_, _], _ => rfl) fun f cdv A outer s H E C hr => ?_
  exact kinds_init B.ck_Kinds B.noat_Kinds_rows B.err_DuplicateName (by rfl) B.tuple_ sc_Kinds_init.nd (takes_of rfl rfl rfl rfl) (passes_of rfl) (hr.mono (by decide)) (by rfl) (by rfl) (pv 0) (pv 0) (pv 0) (pv 1) (pv 2) (pd_var 2) (pv 2) (pg_name sc_Kinds_init.nd (by rfl) (by first | exact Or.inl rfl | exact Or.inr rfl))
    (blkOk_by (N := ["self", "rows", "row", "other"]) (sc := defScope s_Kinds_init) (own := [("other", 3)]) (by decide +kernel)) (fun _ _ _ _ _ => pg_name sc_Kinds_init.nd (by rfl) (by first | exact Or.inl rfl | exact Or.inr rfl)) (fun _ _ _ _ _ => pv 3) (hra := pa_dcons (pd_ix (pd_var 2) pd_int) pa_dnil)
abbrev s_Kinds_members : Stmt := inClass (top 11) 14
theorem sc_Kinds_members : FnScope ["self", "tally", "kind", "part", "wanted", "found", "at", "row"] ["self", "tally", "kind"] (defScope s_Kinds_members) := ⟨rfl, rfl, rfl, by decide +kernel, rfl, by decide +kernel, by decide +kernel⟩
theorem ok_Kinds_members (B : Bf P w K mg base)  {fd : FuncData} (F : FunD K "members" "Kinds.members" (defArgs s_Kinds_members) (defBody s_Kinds_members) (defScope s_Kinds_members) [] [] (He.ma K (He.ga K "Kinds") "members") fd) : MemD P w K mg base 3 (He.ma K (He.ga K "Kinds") "members") ["self", "tally", "kind"] ["self", "tally", "kind", "part", "wanted", "found", "at", "row"] fb_Kinds_members := by
  refine mem_dl F sc_Kinds_members (fun _ _ _ _ _ _ us hl => match us, hl with | [_, _, _], _ => rfl) fun f cdv A outer s H E C hr => ?_
  exact (pqs_cons (pq_if (pb_cmp (eq_ok hr.units) (pd_ix (pd_var 1) pd_int) pd_str (nomark _))
  (pqs_one (pq_ret (pd_listRg1 rfl (by rfl) B.list_ (by rfl) B.range_ (pd_callB len_ok (by rfl) B.len_ PySem.boot_len (pa_dcons (pd_at (l := ["Kinds"]) (al_cons ⟨B.ck_Kinds, B.noat_Kinds_rows⟩ al_nil) (pd_var 0)) pa_dnil)))))
  pqs_nil)
  (pqs_cons (pq_if (pb_cmp (eq_ok hr.units) (pd_ix (pd_var 1) pd_int) pd_str (nomark _))
  (pqs_cons (pq_set 3 sc_Kinds_members.nd (pd_ixKD B.PARTS_ (pd_ix (pd_var 1) pd_int) (by rfl)))
  (pqs_one (pq_set 4 sc_Kinds_members.nd (pd_ix (pd_ix (pd_at (l := ["Kinds"]) (al_cons ⟨B.ck_Kinds, B.noat_Kinds_rows⟩ al_nil) (pd_var 0)) (pd_var 2)) (pd_var 3)))))
  (pqs_cons (pq_set 3 sc_Kinds_members.nd (pd_ixKD B.PARTS_ (pd_ix (pd_var 1) pd_int) (by rfl)))
  (pqs_one (pq_set 4 sc_Kinds_members.nd (pd_ix (pd_var 1) pd_int)))))
  (pqs_cons (pq_setLc (i := 5) rfl sc_Kinds_members.nd rfl rfl (sw_true rfl rfl rfl (by decide +kernel)) (pid_enum (by rfl) B.enumerate_ (pa_dcons (pd_at (l := ["Kinds"]) (al_cons ⟨B.ck_Kinds, B.noat_Kinds_rows⟩ al_nil) (pd_var 0)) pa_dnil)) (blkOk_by (N := ["self", "tally", "kind", "part", "wanted", "found", "at", "row"]) (sc := defScope s_Kinds_members) (own := [("at", 6), ("row", 7)]) (by decide +kernel)) (by decide) (fun _ _ _ _ _ _ => (pgd_tup rfl (.cons (pgd_name 6 sc_Kinds_members.nd) (.cons (pgd_name 7 sc_Kinds_members.nd) .nil)))) (fun _ _ _ _ _ _ => (ptd_one (pb_cmp (eq_ok hr.units) (pd_ix (pd_var 7) (pd_var 3)) (pd_var 4) (nomark _)))) (fun _ _ _ _ _ _ => (pd_var 6)))
  (pqs_cons (pq_if (pb_not (pb_tru (pd_var 5)))
  (pqs_one (pq_raise (k := 0) B.err_UnknownName.ok rfl (takes_of rfl rfl rfl rfl) (hr.mono (by decide)) (by rfl) (pa_dcons (pd_var 4) pa_dnil)))
  pqs_nil)
  (pqs_one (pq_ret (pd_var 5)))))))
abbrev s__law_right_group : Stmt := top 16
theorem sc__law_right_group : FnScope ["_law_thing", "_law_due", "_law_k"] ["_law_thing", "_law_due"] (defScope s__law_right_group) := ⟨rfl, rfl, rfl, by decide +kernel, rfl, by decide +kernel, by decide +kernel⟩
theorem ok__law_right_group (B : Bf P w K mg base)  (F : FunG K mg "_law_right_group" s__law_right_group) : DefOk P w K mg base 1 "_law_right_group" ["_law_thing", "_law_due"] ["_law_thing", "_law_due", "_law_k"] fb__law_right_group := by
  refine def_dl F sc__law_right_group (fun _ _ _ _ _ _ us hl => match us, hl with | [_, _], _ => rfl) fun f cdv A outer s H E C hr => ?_
  exact (pqs_cons (pq_if (pb_w (pbw_or (pb_not (pb_val (pd_callB isi_ok (by rfl) B.isinstance_ (by decide +kernel) (pa_dcons (pd_var 0) (pa_dcons (pd_ty "list" B.list_ (by rfl) (by decide +kernel)) pa_dnil))))) (pbw_or1 (pb_cmp (ne_ok hr.units) (pd_callB len_ok (by rfl) B.len_ PySem.boot_len (pa_dcons (pd_var 0) pa_dnil)) (pd_callB len_ok (by rfl) B.len_ PySem.boot_len (pa_dcons (pd_var 1) pa_dnil)) (nomark _)))))
  (pqs_one (pq_ret pd_bl))
  pqs_nil)
  (pqs_cons (pq_kill (pq_for (passes_of rfl) rfl (pid_range1 (by rfl) B.range_ (pa_dcons (pd_callB len_ok (by rfl) B.len_ PySem.boot_len (pa_dcons (pd_var 1) pa_dnil)) pa_dnil)) (pgd_name 2 sc__law_right_group.nd)
  (pqs_one (pq_if (pb_w (pbw_or (pb_not (pb_val (pd_callB isi_ok (by rfl) B.isinstance_ (by decide +kernel) (pa_dcons (pd_ix (pd_var 0) (pd_var 2)) (pa_dcons (pd_ty "int" B.int_ (by rfl) (by decide +kernel)) pa_dnil))))) (pbw_or (pb_val (pd_callB isi_ok (by rfl) B.isinstance_ (by decide +kernel) (pa_dcons (pd_ix (pd_var 0) (pd_var 2)) (pa_dcons (pd_ty "bool" B.bool_ (by rfl) (by decide +kernel)) pa_dnil)))) (pbw_or1 (pb_cmp (ne_ok hr.units) (pd_ix (pd_var 0) (pd_var 2)) (pd_ix (pd_var 1) (pd_var 2)) (nomark _))))))
  (pqs_one (pq_ret pd_bl))
  pqs_nil)) (by intro _; rfl) [2]) [2])
  (pqs_one (pq_ret pd_bl))))
abbrev s__law_group_told : Stmt := top 17
theorem sc__law_group_told : FnScope ["_law_kinds_here", "_law_tally", "_law_kind", "_law_due", "_law_found"] ["_law_kinds_here", "_law_tally", "_law_kind", "_law_due"] (defScope s__law_group_told) := ⟨rfl, rfl, rfl, by decide +kernel, rfl, by decide +kernel, by decide +kernel⟩
theorem ok__law_group_told (B : Bf P w K mg base) (h_Kinds_members : MemD P w K mg base 3 (He.ma K (He.ga K "Kinds") "members") ["self", "tally", "kind"] ["self", "tally", "kind", "part", "wanted", "found", "at", "row"] fb_Kinds_members) (h__law_right_group : DefOk P w K mg base 1 "_law_right_group" ["_law_thing", "_law_due"] ["_law_thing", "_law_due", "_law_k"] fb__law_right_group) (F : FunG K mg "_law_group_told" s__law_group_told) : DefOk P w K mg base 4 "_law_group_told" ["_law_kinds_here", "_law_tally", "_law_kind", "_law_due"] ["_law_kinds_here", "_law_tally", "_law_kind", "_law_due", "_law_found"] fb__law_group_told := by
  refine def_dl F sc__law_group_told (fun _ _ _ _ _ _ us hl => match us, hl with | [_, _, _, _], _ => rfl) fun f cdv A outer s H E C hr => ?_
  exact (pqs_cons (pq_set 4 sc__law_group_told.nd (pd_methM B.ck_Kinds B.meth_Kinds_members h_Kinds_members (hr.mono (by decide)) (takes_of rfl rfl rfl rfl) (pd_var 0) (pa_dcons (pd_var 1) (pa_dcons (pd_var 2) pa_dnil))))
  (pqs_cons (pq_if (pb_not (pb_val (pd_frN (pd_call' h__law_right_group (hr.mono (by decide)) (by rfl) (takes_of rfl rfl rfl rfl) (pa_dcons (pd_var 4) (pa_dcons (pd_var 3) pa_dnil))))))
  (pqs_one (pq_ret pd_bl))
  pqs_nil)
  (pqs_cons (pq_expr (pd_append (pv 4) (pa_dcons pd_int pa_dnil)))
  (pqs_one (pq_ret (pd_call' h__law_right_group (hr.mono (by decide)) (by rfl) (takes_of rfl rfl rfl rfl) (pa_dcons (pd_frN (pd_methM B.ck_Kinds B.meth_Kinds_members h_Kinds_members (hr.mono (by decide)) (takes_of rfl rfl rfl rfl) (pd_var 0) (pa_dcons (pd_var 1) (pa_dcons (pd_var 2) pa_dnil)))) (pa_dcons (pd_var 3) pa_dnil))))))))
abbrev s__law_unknown_told : Stmt := top 18
theorem sc__law_unknown_told : FnScope ["_law_kinds_here", "_law_tally", "_law_kind", "_law_found", "e"] ["_law_kinds_here", "_law_tally", "_law_kind"] (defScope s__law_unknown_told) := ⟨rfl, rfl, rfl, by decide +kernel, rfl, by decide +kernel, by decide +kernel⟩
theorem ok__law_unknown_told (B : Bf P w K mg base) (h_Kinds_members : MemD P w K mg base 3 (He.ma K (He.ga K "Kinds") "members") ["self", "tally", "kind"] ["self", "tally", "kind", "part", "wanted", "found", "at", "row"] fb_Kinds_members) (F : FunG K mg "_law_unknown_told" s__law_unknown_told) : DefOk P w K mg base 4 "_law_unknown_told" ["_law_kinds_here", "_law_tally", "_law_kind"] ["_law_kinds_here", "_law_tally", "_law_kind", "_law_found", "e"] fb__law_unknown_told := by
  refine def_dl F sc__law_unknown_told (fun _ _ _ _ _ _ us hl => match us, hl with | [_, _, _], _ => rfl) fun f cdv A outer s H E C hr => ?_
  exact (pqs_cons (pq_set 3 sc__law_unknown_told.nd pd_non)
  (pqs_cons (pq_try (l := [("UnknownName", true)]) (i := 4) sc__law_unknown_told.nd (takes_of rfl rfl rfl rfl) (by rfl) B.cls_UnknownName (al_cons B.exm_UnknownName_UnknownName al_nil) (fun W pn xe tkv hpv => (pqs_one (pq_expr (pd_methM B.ck_Kinds B.meth_Kinds_members h_Kinds_members (hr.mono (by decide)) tkv (pd_var 0) (pa_dcons (pd_var 1) (pa_dcons (pd_var 2) pa_dnil)))))) (fun C' xd a oe d pn hxa hx hz hv => (pqs_one (pq_set 3 sc__law_unknown_told.nd (pd_fld (l := ["UnknownName"]) hxa hx hz hv (al_cons ⟨exc_xf B.err_UnknownName.ex, B.err_UnknownName.no⟩ al_nil) (pv 4))))))
  (pqs_one (pq_ret (pd_and (pd_callB isi_ok (by rfl) B.isinstance_ (by decide +kernel) (pa_dcons (pd_var 3) (pa_dcons (pd_ty "str" B.str_ (by rfl) (by decide +kernel)) pa_dnil))) (pd_one (pd_cmp (eq_ok hr.units) (pd_var 3) (pd_ix (pd_var 1) pd_int) (nomark _))))))))
abbrev s_law : Stmt := top 19
theorem sc_law : FnScope ["_law_script", "_law_draws_here", "_law_rows", "_law_kinds_here", "_law_roles", "_law_words", "_law_row", "_law_kind", "_law_place", "_law_due", "_law_word", "_law_k"] ["_law_script"] (defScope s_law) := ⟨rfl, rfl, rfl, by decide +kernel, rfl, by decide +kernel, by decide +kernel⟩
theorem ok_law (B : Bf P w K mg base) (h__law_draws : DefOk P w K mg base 1 "_law_draws" ["_law_script"] ["_law_script", "_law_draws_here", "_law_k", "_law_number", "_law_side", "_law_turn", "_law_mixed"] fb__law_draws) (h__law_kinds : DefOk P w K mg base 2 "_law_kinds" ["_law_draws_here"] ["_law_draws_here", "_law_names", "_law_words", "_law_many", "_law_order", "_law_pool", "_law_rows", "_law_k", "_law_cell", "_law_name"] fb__law_kinds) (h_Kinds_init : MemD P w K mg base 3 (He.ma K (He.ga K "Kinds") "__init__") ["self", "rows"] ["self", "rows", "row", "other"] fb_Kinds_init) (h__law_group_told : DefOk P w K mg base 4 "_law_group_told" ["_law_kinds_here", "_law_tally", "_law_kind", "_law_due"] ["_law_kinds_here", "_law_tally", "_law_kind", "_law_due", "_law_found"] fb__law_group_told) (h__law_unknown_told : DefOk P w K mg base 4 "_law_unknown_told" ["_law_kinds_here", "_law_tally", "_law_kind"] ["_law_kinds_here", "_law_tally", "_law_kind", "_law_found", "e"] fb__law_unknown_told) {f : Addr} {fd : FuncData} (F : FunD K "law" "law" (defArgs s_law) (defBody s_law) (defScope s_law) [] [] f fd) : FnOk P w K mg base (L2.CX P w) 5 f fd ["_law_script"] (spD ⟨K, w⟩ ["_law_script"] ["_law_script", "_law_draws_here", "_law_rows", "_law_kinds_here", "_law_roles", "_law_words", "_law_row", "_law_kind", "_law_place", "_law_due", "_law_word", "_law_k"] fb_law) := by
  refine fnok_dl F sc_law fun f cdv A outer s H E C hr => ?_
  exact (pqs_cons (pq_set 1 sc_law.nd (pd_call' h__law_draws (hr.mono (by decide)) (by rfl) (takes_of rfl rfl rfl rfl) (pa_dcons (pd_var 0) pa_dnil)))
  (pqs_cons (pq_set 2 sc_law.nd (pd_frz (pd_call' h__law_kinds (hr.mono (by decide)) (by rfl) (takes_of rfl rfl rfl rfl) (pa_dcons (pd_var 1) pa_dnil))))
  (pqs_cons (pq_set 3 sc_law.nd (pd_frz (pd_make (h_Kinds_init.make B.mk_Kinds B.cls_Kinds) (hr.mono (by decide)) (by rfl) (takes_of rfl rfl rfl rfl) (pa_dcons (pd_frN (pd_callTy list_ok (by rfl) B.list_ (by decide +kernel) (pa_dcons (pd_var 2) pa_dnil))) pa_dnil))))
  (pqs_cons (pq_set 4 sc_law.nd (pd_frz (pd_lst (pa_dcons pd_str (pa_dcons pd_str (pa_dcons pd_str pa_dnil))))))
  (pqs_cons (pq_set 5 sc_law.nd (pd_frz (pd_lst (pa_dcons pd_str pa_dnil))))
  (pqs_cons (pq_kill (pq_for (passes_of rfl) rfl (pid_list (pd_var 2)) (pgd_name 6 sc_law.nd)
  (pqs_one (pq_set 5 sc_law.nd (pd_frz (pd_bin add_ok (pd_var 5) (pd_frN (pd_lst (pa_dcons (pd_ix (pd_var 6) pd_int) (pa_dcons (pd_ix (pd_var 6) pd_int) (pa_dcons (pd_ix (pd_var 6) pd_int) pa_dnil))))))))) (by intro _; rfl) [6]) [6])
  (pqs_cons (pq_kill (pq_for (passes_of rfl) rfl (pid_range1 (by rfl) B.range_ (pa_dcons (pd_callB len_ok (by rfl) B.len_ PySem.boot_len (pa_dcons (pd_var 2) pa_dnil)) pa_dnil)) (pgd_name 7 sc_law.nd)
  (pqs_cons (pq_if (pb_not (pb_val (pd_frN (pd_call' h__law_group_told (hr.mono (by decide)) (by rfl) (takes_of rfl rfl rfl rfl) (pa_dcons (pd_var 3) (pa_dcons (pd_tup (pa_dcons pd_str pa_dnil)) (pa_dcons (pd_var 7) (pa_dcons (pd_frN (pd_listRg1 rfl (by rfl) B.list_ (by rfl) B.range_ (pd_callB len_ok (by rfl) B.len_ PySem.boot_len (pa_dcons (pd_var 2) pa_dnil)))) pa_dnil))))))))
  (pqs_one (pq_ret pd_bl))
  pqs_nil)
  (pqs_one (pq_kill (pq_for (passes_of rfl) rfl (pid_range1 (by rfl) B.range_ (pa_dcons pd_int pa_dnil)) (pgd_name 8 sc_law.nd)
  (pqs_cons (pq_setLcV (i := 9) rfl sc_law.nd rfl rfl (sw_true rfl rfl rfl (by decide +kernel)) (pid_range1 (by rfl) B.range_ (pa_dcons (pd_callB len_ok (by rfl) B.len_ PySem.boot_len (pa_dcons (pd_var 2) pa_dnil)) pa_dnil)) (blkOk_by (N := ["_law_script", "_law_draws_here", "_law_rows", "_law_kinds_here", "_law_roles", "_law_words", "_law_row", "_law_kind", "_law_place", "_law_due", "_law_word", "_law_k"]) (sc := defScope s_law) (own := [("_law_k", 11)]) (by decide +kernel)) (by decide) (fun _ _ _ _ _ _ => (pgd_name 11 sc_law.nd)) (fun _ _ _ _ _ _ => (ptd_one (pb_cmp (eq_ok hr.units) (pd_ix (pd_ix (pd_var 2) (pd_var 11)) (pd_var 8)) (pd_ix (pd_ix (pd_var 2) (pd_var 7)) (pd_var 8)) (nomark _)))) (fun _ _ _ _ _ _ => (pd_var 11)))
  (pqs_cons (pq_if (pb_not (pb_val (pd_frN (pd_call' h__law_group_told (hr.mono (by decide)) (by rfl) (takes_of rfl rfl rfl rfl) (pa_dcons (pd_var 3) (pa_dcons (pd_tup (pa_dcons pd_str (pa_dcons (pd_ix (pd_var 4) (pd_var 8)) pa_dnil))) (pa_dcons (pd_var 7) (pa_dcons (pd_var 9) pa_dnil))))))))
  (pqs_one (pq_ret pd_bl))
  pqs_nil)
  (pqs_one (pq_kill (pq_for (passes_of rfl) rfl (pid_list (pd_var 5)) (pgd_name 10 sc_law.nd)
  (pqs_cons (pq_setLcV (i := 9) rfl sc_law.nd rfl rfl (sw_true rfl rfl rfl (by decide +kernel)) (pid_range1 (by rfl) B.range_ (pa_dcons (pd_callB len_ok (by rfl) B.len_ PySem.boot_len (pa_dcons (pd_var 2) pa_dnil)) pa_dnil)) (blkOk_by (N := ["_law_script", "_law_draws_here", "_law_rows", "_law_kinds_here", "_law_roles", "_law_words", "_law_row", "_law_kind", "_law_place", "_law_due", "_law_word", "_law_k"]) (sc := defScope s_law) (own := [("_law_k", 11)]) (by decide +kernel)) (by decide) (fun _ _ _ _ _ _ => (pgd_name 11 sc_law.nd)) (fun _ _ _ _ _ _ => (ptd_one (pb_cmp (eq_ok hr.units) (pd_ix (pd_ix (pd_var 2) (pd_var 11)) (pd_var 8)) (pd_var 10) (nomark _)))) (fun _ _ _ _ _ _ => (pd_var 11)))
  (pqs_cons (pq_if (pb_w (pbw_and (pb_cmp gt_ok (pd_callB len_ok (by rfl) B.len_ PySem.boot_len (pa_dcons (pd_var 9) pa_dnil)) pd_int (nomark _)) (pbw_and1 (pb_not (pb_val (pd_frN (pd_call' h__law_group_told (hr.mono (by decide)) (by rfl) (takes_of rfl rfl rfl rfl) (pa_dcons (pd_var 3) (pa_dcons (pd_tup (pa_dcons (pd_ix (pd_var 4) (pd_var 8)) (pa_dcons (pd_var 10) pa_dnil))) (pa_dcons (pd_var 7) (pa_dcons (pd_var 9) pa_dnil)))))))))))
  (pqs_one (pq_ret pd_bl))
  pqs_nil)
  (pqs_one (pq_if (pb_w (pbw_and (pb_cmp (eq_ok hr.units) (pd_callB len_ok (by rfl) B.len_ PySem.boot_len (pa_dcons (pd_var 9) pa_dnil)) pd_int (nomark _)) (pbw_and1 (pb_not (pb_val (pd_frN (pd_call' h__law_unknown_told (hr.mono (by decide)) (by rfl) (takes_of rfl rfl rfl rfl) (pa_dcons (pd_var 3) (pa_dcons (pd_tup (pa_dcons (pd_ix (pd_var 4) (pd_var 8)) (pa_dcons (pd_var 10) pa_dnil))) (pa_dcons (pd_var 7) pa_dnil))))))))))
  (pqs_one (pq_ret pd_bl))
  pqs_nil)))) (by intro _; rfl) [9, 10]) [9, 10])))) (by intro _; rfl) [8, 9, 10]) [8, 9, 10]))) (by intro _; rfl) [7, 8, 9, 10]) [7, 8, 9, 10])
  (pqs_one (pq_ret pd_bl)))))))))
end
end K05
set_option Elab.async false
set_option linter.all false
set_option maxRecDepth 100000
set_option maxHeartbeats 1000000
namespace K05
open PySem PySem.Spec DL
open L2 (atI ixN V)
def iL (l : List Int) : D := .lst (l.map D.int)
theorem draw_spec (t : List Int) (m : Int) (hm : 0 < m) (E : Ko) (h : ∀ v t' ρ', 0 ≤ v → v < m → ρ'.ps = [iL t'] → E.rt (.v (.int v)) ρ') :
    wf fb__law_draw ⟨[some (.par 0), some (.val (.int m))], [iL t]⟩ E := by
  unfold fb__law_draw
  simp (decide := true) only [wf_seq, wf_seqL, wf_kill, wf_expr, wf_fret, wf_retN, wf_ifS, wf_setN, wf_setV, wf_setT, wf_par, wf_augI, wf_break, wf_cont, wf_thru, wf_raise, wf_tryAs, wf_tryOn, wf_putIx, wm_step, wm_s1, wm_s2, wm_make, wm_makeL, wm_cmeth, wm_listO, wm_srcI, wm_srcG, wm_compG, wf_forG, wm_methI, wm_propI, wm_xf, wm_is, wf_skip, wf_for, wm_var, wm_c, wm_frz, wm_frN, wm_nn, wm_un, wm_bin, wm_evs_nil, wm_evs_cons, wm_n, wm_tup, wm_lst, wm_bool, wm_notB, wm_andB, wm_orB, wm_and, wm_or, wm_if, wm_chain, wm_asInt, wm_noInt, wm_sl, wm_step, wm_srcD, wm_srcN, wm_fmt, wm_js_nil, wm_js_cons, wm_tru, wm_strM, wm_mutL, wm_call, wm_comp, wc, EV.set, EV.kill, EV.kills, EV.put, EV.obj, EV.look, EV.looks, EV.objs, EV.key, EV.puts, argIx, argSl, gets, oD, oR, settled, List.set_cons_zero, List.set_cons_succ, List.getElem?_cons_zero, List.getElem?_cons_succ, List.replicate_succ, List.replicate_zero, List.map_cons, List.map_nil, List.length_cons, List.length_nil, List.nil_append, List.cons_append, Nat.reduceAdd, Nat.reduceSub, Nat.reduceLT, Nat.reduceLeDiff, List.nodup_cons, List.nodup_nil, List.not_mem_nil, not_false_eq_true, not_true_eq_false, and_self, and_true, true_and, and_false, false_and, if_true, if_false, reduceIte, Bool.false_eq_true, decide_eq_true_eq, decide_eq_false_iff_not, Bool.not_true, Bool.not_false, Bool.not_eq_true', Bool.not_eq_false', List.zip_cons_cons, List.zip_nil_right, List.zip_nil_left, List.foldl_cons, List.foldl_nil, tgN, tgT, tgT.go, tgL, mYes, wm_ret, List.headD_cons, addD, subD, mulD, modD, fdivD, powD, negD, cmpD, eqD, neD, isND, notND, isNone, lenD, intD, strD, listD, tupleD, ixD, min2D, max2D, appendM, popM, reverseM, clearM, rangeD1, rangeD, itemsD, truD, inKD, ixKD, splitD, joinD, slD, isiD, notD, fldD, conC, conD, neD, stepD, enumD, inD, notInD, iL]
  rcases List.eq_nil_or_concat t with rfl | ⟨l, a, rfl⟩
  · simp only [List.map_nil, List.length_nil, Int.ofNat_zero, Int.natCast_zero, if_true]
    exact h 0 [] _ (by omega) hm rfl
  · have e : (((l.concat a).map D.int).length : Int) ≠ 0 := by simp [List.concat_eq_append]; omega
    rw [if_neg e]
    have e2 : ((l.concat a).map D.int)[((l.concat a).map D.int).length - 1]? = some (D.int a) := by simp [List.concat_eq_append]
    have e3 : ((l.concat a).map D.int).dropLast = l.map D.int := by simp [List.concat_eq_append]
    rw [e2, e3]
    simp (decide := true) only [wf_seq, wf_seqL, wf_kill, wf_expr, wf_fret, wf_retN, wf_ifS, wf_setN, wf_setV, wf_setT, wf_par, wf_augI, wf_break, wf_cont, wf_thru, wf_raise, wf_tryAs, wf_tryOn, wf_putIx, wm_step, wm_s1, wm_s2, wm_make, wm_makeL, wm_cmeth, wm_listO, wm_srcI, wm_srcG, wm_compG, wf_forG, wm_methI, wm_propI, wm_xf, wm_is, wf_skip, wf_for, wm_var, wm_c, wm_frz, wm_frN, wm_nn, wm_un, wm_bin, wm_evs_nil, wm_evs_cons, wm_n, wm_tup, wm_lst, wm_bool, wm_notB, wm_andB, wm_orB, wm_and, wm_or, wm_if, wm_chain, wm_asInt, wm_noInt, wm_sl, wm_step, wm_srcD, wm_srcN, wm_fmt, wm_js_nil, wm_js_cons, wm_tru, wm_strM, wm_mutL, wm_call, wm_comp, wc, EV.set, EV.kill, EV.kills, EV.put, EV.obj, EV.look, EV.looks, EV.objs, EV.key, EV.puts, argIx, argSl, gets, oD, oR, settled, List.set_cons_zero, List.set_cons_succ, List.getElem?_cons_zero, List.getElem?_cons_succ, List.replicate_succ, List.replicate_zero, List.map_cons, List.map_nil, List.length_cons, List.length_nil, List.nil_append, List.cons_append, Nat.reduceAdd, Nat.reduceSub, Nat.reduceLT, Nat.reduceLeDiff, List.nodup_cons, List.nodup_nil, List.not_mem_nil, not_false_eq_true, not_true_eq_false, and_self, and_true, true_and, and_false, false_and, if_true, if_false, reduceIte, Bool.false_eq_true, decide_eq_true_eq, decide_eq_false_iff_not, Bool.not_true, Bool.not_false, Bool.not_eq_true', Bool.not_eq_false', List.zip_cons_cons, List.zip_nil_right, List.zip_nil_left, List.foldl_cons, List.foldl_nil, tgN, tgT, tgT.go, tgL, mYes, wm_ret, List.headD_cons, addD, subD, mulD, modD, fdivD, powD, negD, cmpD, eqD, neD, isND, notND, isNone, lenD, intD, strD, listD, tupleD, ixD, min2D, max2D, appendM, popM, reverseM, clearM, rangeD1, rangeD, itemsD, truD, inKD, ixKD, splitD, joinD, slD, isiD, notD, fldD, conC, conD, neD, stepD, enumD, inD, notInD, hm]
    exact h _ l _ (Int.emod_nonneg _ (by omega)) (Int.emod_lt_of_pos _ hm) rfl
theorem rangeL_ok {n : Nat} {d : D} (h : d ∈ rangeL 0 n) : ∃ k : Nat, d = .int k ∧ k < n := by
  unfold rangeL at h
  obtain ⟨k, hk, rfl⟩ := List.mem_map.mp h
  exact ⟨k, by simp, List.mem_range.mp hk⟩
theorem atI_map {α : Type} {ns : List α} {f : α → D} {k : Nat} (hk : k < ns.length) : atI (ns.map f) (k : Int) = some (f ns[k]) := by
  unfold atI ixN
  rw [if_pos (by omega), if_pos (by simp; omega)]
  simp [hk]
theorem iL_app (xs : List Int) (n : Int) : D.lst (xs.map D.int ++ [.int n]) = iL (xs ++ [n]) := by simp [iL]
theorem draws_big (B : Nat) (hB : B ≤ 16777216) (sl : Option DL.Slot) (k sd : D) (E : Ko) (h : ∀ xs n', xs.length ≤ B → E.nx ⟨[sl, some (.own (iL xs)), some (.val k), some (.val (.int n')), some (.val sd), none, none], []⟩)
    (ds : List D) (xs : List Int) (n : Int) (hl : xs.length + ds.length ≤ B) : wf (forL (tgN 5) lb__law_draws_2 [5] ds) ⟨[sl, some (.own (iL xs)), some (.val k), some (.val (.int n)), some (.val sd), none, none], []⟩ E := by
  refine wf_forL (fun ds ρ => ∃ xs n', xs.length + ds.length ≤ B ∧ ρ = ⟨[sl, some (.own (iL xs)), some (.val k), some (.val (.int n')), some (.val sd), none, none], []⟩) ?_ ?_ _ _ ⟨xs, n, hl, rfl⟩
  · rintro d ds ρ ⟨xs, n, hl, rfl⟩
    refine ⟨_, rfl, ?_⟩
    rw [List.length_cons] at hl
    have hz : szOk ((xs.map D.int).length + 1) := by unfold szOk; simp; omega
    unfold lb__law_draws_2
    simp (decide := true) only [wf_seq, wf_seqL, wf_kill, wf_expr, wf_fret, wf_retN, wf_ifS, wf_setN, wf_setV, wf_setT, wf_par, wf_augI, wf_break, wf_cont, wf_thru, wf_raise, wf_tryAs, wf_tryOn, wf_putIx, wm_step, wm_s1, wm_s2, wm_make, wm_makeL, wm_cmeth, wm_listO, wm_srcI, wm_srcG, wm_compG, wf_forG, wm_methI, wm_propI, wm_xf, wm_is, wf_skip, wf_for, wm_var, wm_c, wm_frz, wm_frN, wm_nn, wm_un, wm_bin, wm_evs_nil, wm_evs_cons, wm_n, wm_tup, wm_lst, wm_bool, wm_notB, wm_andB, wm_orB, wm_and, wm_or, wm_if, wm_chain, wm_asInt, wm_noInt, wm_sl, wm_step, wm_srcD, wm_srcN, wm_fmt, wm_js_nil, wm_js_cons, wm_tru, wm_strM, wm_mutL, wm_call, wm_comp, wc, EV.set, EV.kill, EV.kills, EV.put, EV.obj, EV.look, EV.looks, EV.objs, EV.key, EV.puts, argIx, argSl, gets, oD, oR, settled, List.set_cons_zero, List.set_cons_succ, List.getElem?_cons_zero, List.getElem?_cons_succ, List.replicate_succ, List.replicate_zero, List.map_cons, List.map_nil, List.length_cons, List.length_nil, List.nil_append, List.cons_append, Nat.reduceAdd, Nat.reduceSub, Nat.reduceLT, Nat.reduceLeDiff, List.nodup_cons, List.nodup_nil, List.not_mem_nil, not_false_eq_true, not_true_eq_false, and_self, and_true, true_and, and_false, false_and, if_true, if_false, reduceIte, Bool.false_eq_true, decide_eq_true_eq, decide_eq_false_iff_not, Bool.not_true, Bool.not_false, Bool.not_eq_true', Bool.not_eq_false', List.zip_cons_cons, List.zip_nil_right, List.zip_nil_left, List.foldl_cons, List.foldl_nil, tgN, tgT, tgT.go, tgL, mYes, wm_ret, List.headD_cons, addD, subD, mulD, modD, fdivD, powD, negD, cmpD, eqD, neD, isND, notND, isNone, lenD, intD, strD, listD, tupleD, ixD, min2D, max2D, appendM, popM, reverseM, clearM, rangeD1, rangeD, itemsD, truD, inKD, ixKD, splitD, joinD, slD, isiD, notD, fldD, conC, conD, neD, stepD, enumD, inD, notInD, iL, hz]
    split
    · exact ⟨xs ++ [n % 1000], n / 1000, by simp; omega, by rw [iL_app]; rfl⟩
    · exact ⟨xs, n, by omega, rfl⟩
  · rintro ρ ⟨xs, n', hl, rfl⟩
    exact h xs n' (by simpa using hl)
theorem draws_small (B : Nat) (hB : B ≤ 16777216) (sl : Option DL.Slot) (k n sd : D) (E : Ko) (h : ∀ xs m, xs.length ≤ B → E.nx ⟨[sl, some (.own (iL xs)), some (.val k), some (.val n), some (.val sd), none, some (.val (.int m))], []⟩)
    (ds : List D) (xs : List Int) (m : Int) (hm : 0 ≤ m ∧ m < 2147483647) (hl : xs.length + ds.length ≤ B) : wf (forL (tgN 5) lb__law_draws_3 [5] ds) ⟨[sl, some (.own (iL xs)), some (.val k), some (.val n), some (.val sd), none, some (.val (.int m))], []⟩ E := by
  refine wf_forL (fun ds ρ => ∃ xs m, xs.length + ds.length ≤ B ∧ (0 ≤ m ∧ m < 2147483647) ∧ ρ = ⟨[sl, some (.own (iL xs)), some (.val k), some (.val n), some (.val sd), none, some (.val (.int m))], []⟩) ?_ ?_ _ _ ⟨xs, m, hl, hm, rfl⟩
  · rintro d ds ρ ⟨xs, m, hl, hm, rfl⟩
    refine ⟨_, rfl, ?_⟩
    rw [List.length_cons] at hl
    have hz : szOk ((xs.map D.int).length + 1) := by unfold szOk; simp; omega
    have c1 : cMul m 69621 := by unfold cMul; omega
    have h2 : 0 ≤ m * 69621 % 2147483647 ∧ m * 69621 % 2147483647 < 2147483647 := ⟨Int.emod_nonneg _ (by decide), Int.emod_lt_of_pos _ (by decide)⟩
    have c2 : cMul (m * 69621 % 2147483647) (m * 69621 % 2147483647) := by unfold cMul; omega
    unfold lb__law_draws_3
    simp (decide := true) only [wf_seq, wf_seqL, wf_kill, wf_expr, wf_fret, wf_retN, wf_ifS, wf_setN, wf_setV, wf_setT, wf_par, wf_augI, wf_break, wf_cont, wf_thru, wf_raise, wf_tryAs, wf_tryOn, wf_putIx, wm_step, wm_s1, wm_s2, wm_make, wm_makeL, wm_cmeth, wm_listO, wm_srcI, wm_srcG, wm_compG, wf_forG, wm_methI, wm_propI, wm_xf, wm_is, wf_skip, wf_for, wm_var, wm_c, wm_frz, wm_frN, wm_nn, wm_un, wm_bin, wm_evs_nil, wm_evs_cons, wm_n, wm_tup, wm_lst, wm_bool, wm_notB, wm_andB, wm_orB, wm_and, wm_or, wm_if, wm_chain, wm_asInt, wm_noInt, wm_sl, wm_step, wm_srcD, wm_srcN, wm_fmt, wm_js_nil, wm_js_cons, wm_tru, wm_strM, wm_mutL, wm_call, wm_comp, wc, EV.set, EV.kill, EV.kills, EV.put, EV.obj, EV.look, EV.looks, EV.objs, EV.key, EV.puts, argIx, argSl, gets, oD, oR, settled, List.set_cons_zero, List.set_cons_succ, List.getElem?_cons_zero, List.getElem?_cons_succ, List.replicate_succ, List.replicate_zero, List.map_cons, List.map_nil, List.length_cons, List.length_nil, List.nil_append, List.cons_append, Nat.reduceAdd, Nat.reduceSub, Nat.reduceLT, Nat.reduceLeDiff, List.nodup_cons, List.nodup_nil, List.not_mem_nil, not_false_eq_true, not_true_eq_false, and_self, and_true, true_and, and_false, false_and, if_true, if_false, reduceIte, Bool.false_eq_true, decide_eq_true_eq, decide_eq_false_iff_not, Bool.not_true, Bool.not_false, Bool.not_eq_true', Bool.not_eq_false', List.zip_cons_cons, List.zip_nil_right, List.zip_nil_left, List.foldl_cons, List.foldl_nil, tgN, tgT, tgT.go, tgL, mYes, wm_ret, List.headD_cons, addD, subD, mulD, modD, fdivD, powD, negD, cmpD, eqD, neD, isND, notND, isNone, lenD, intD, strD, listD, tupleD, ixD, min2D, max2D, appendM, popM, reverseM, clearM, rangeD1, rangeD, itemsD, truD, inKD, ixKD, splitD, joinD, slD, isiD, notD, fldD, conC, conD, neD, stepD, enumD, inD, notInD, iL, hz, c1, c2]
    exact ⟨xs ++ [_], _, by simp; omega, h2, by rw [iL_app]; rfl⟩
  · rintro ρ ⟨xs, m, hl, hm, rfl⟩
    exact h xs m (by simpa using hl)
theorem draws_rest (B : Nat) (hB : B ≤ 16777216) (sl : Option DL.Slot) (k : Nat) (hk : k < 63) (n sd : Int) (E : Ko) (h : ∀ xs sd, xs.length ≤ B → E.nx ⟨[sl, some (.own (iL xs)), some (.val (.int k)), none, some (.val (.int sd)), none, none], []⟩)
    (xs : List Int) (hl : xs.length + 40 ≤ B) : later rb__law_draws_1 E ⟨[sl, some (.own (iL xs)), some (.val (.int k)), some (.val (.int n)), some (.val (.int sd)), none, none], []⟩ := by
  have c1 : cMul 2 n := by unfold cMul; omega
  have c2 : cMul 34 (k : Int) := by unfold cMul; omega
  have c3 : cMul (2 * n + sd) (48271 + 34 * (k : Int)) := by unfold cMul; omega
  unfold later rb__law_draws_1
  simp (decide := true) only [wf_seq, wf_seqL, wf_kill, wf_expr, wf_fret, wf_retN, wf_ifS, wf_setN, wf_setV, wf_setT, wf_par, wf_augI, wf_break, wf_cont, wf_thru, wf_raise, wf_tryAs, wf_tryOn, wf_putIx, wm_step, wm_s1, wm_s2, wm_make, wm_makeL, wm_cmeth, wm_listO, wm_srcI, wm_srcG, wm_compG, wf_forG, wm_methI, wm_propI, wm_xf, wm_is, wf_skip, wf_for, wm_var, wm_c, wm_frz, wm_frN, wm_nn, wm_un, wm_bin, wm_evs_nil, wm_evs_cons, wm_n, wm_tup, wm_lst, wm_bool, wm_notB, wm_andB, wm_orB, wm_and, wm_or, wm_if, wm_chain, wm_asInt, wm_noInt, wm_sl, wm_step, wm_srcD, wm_srcN, wm_fmt, wm_js_nil, wm_js_cons, wm_tru, wm_strM, wm_mutL, wm_call, wm_comp, wc, EV.set, EV.kill, EV.kills, EV.put, EV.obj, EV.look, EV.looks, EV.objs, EV.key, EV.puts, argIx, argSl, gets, oD, oR, settled, List.set_cons_zero, List.set_cons_succ, List.getElem?_cons_zero, List.getElem?_cons_succ, List.replicate_succ, List.replicate_zero, List.map_cons, List.map_nil, List.length_cons, List.length_nil, List.nil_append, List.cons_append, Nat.reduceAdd, Nat.reduceSub, Nat.reduceLT, Nat.reduceLeDiff, List.nodup_cons, List.nodup_nil, List.not_mem_nil, not_false_eq_true, not_true_eq_false, and_self, and_true, true_and, and_false, false_and, if_true, if_false, reduceIte, Bool.false_eq_true, decide_eq_true_eq, decide_eq_false_iff_not, Bool.not_true, Bool.not_false, Bool.not_eq_true', Bool.not_eq_false', List.zip_cons_cons, List.zip_nil_right, List.zip_nil_left, List.foldl_cons, List.foldl_nil, tgN, tgT, tgT.go, tgL, mYes, wm_ret, List.headD_cons, addD, subD, mulD, modD, fdivD, powD, negD, cmpD, eqD, neD, isND, notND, isNone, lenD, intD, strD, listD, tupleD, ixD, min2D, max2D, appendM, popM, reverseM, clearM, rangeD1, rangeD, itemsD, truD, inKD, ixKD, splitD, joinD, slD, isiD, notD, fldD, conC, conD, neD, stepD, enumD, inD, notInD, c1, c2, c3]
  split
  · exact draws_big B hB _ _ _ _ (fun xs n' hx => h xs sd hx) _ _ _ (by simp [rangeL]; omega)
  · refine draws_small B hB _ _ _ _ _ (fun xs n' hx => h xs sd hx) _ _ _ ⟨Int.emod_nonneg _ (by decide), Int.emod_lt_of_pos _ (by decide)⟩ (by simp [rangeL]; omega)
theorem draws_spec (ns : List Int) (E : Ko) (h : ∀ xs ρ', E.rt (.n (iL xs)) ρ') : wf fb__law_draws ⟨[some (.val (.scr (ns.map D.int))), none, none, none, none, none, none], []⟩ E := by
  unfold fb__law_draws
  simp (decide := true) only [wf_seq, wf_seqL, wf_kill, wf_expr, wf_fret, wf_retN, wf_ifS, wf_setN, wf_setV, wf_setT, wf_par, wf_augI, wf_break, wf_cont, wf_thru, wf_raise, wf_tryAs, wf_tryOn, wf_putIx, wm_step, wm_s1, wm_s2, wm_make, wm_makeL, wm_cmeth, wm_listO, wm_srcI, wm_srcG, wm_compG, wf_forG, wm_methI, wm_propI, wm_xf, wm_is, wf_skip, wf_for, wm_var, wm_c, wm_frz, wm_frN, wm_nn, wm_un, wm_bin, wm_evs_nil, wm_evs_cons, wm_n, wm_tup, wm_lst, wm_bool, wm_notB, wm_andB, wm_orB, wm_and, wm_or, wm_if, wm_chain, wm_asInt, wm_noInt, wm_sl, wm_step, wm_srcD, wm_srcN, wm_fmt, wm_js_nil, wm_js_cons, wm_tru, wm_strM, wm_mutL, wm_call, wm_comp, wc, EV.set, EV.kill, EV.kills, EV.put, EV.obj, EV.look, EV.looks, EV.objs, EV.key, EV.puts, argIx, argSl, gets, oD, oR, settled, List.set_cons_zero, List.set_cons_succ, List.getElem?_cons_zero, List.getElem?_cons_succ, List.replicate_succ, List.replicate_zero, List.map_cons, List.map_nil, List.length_cons, List.length_nil, List.nil_append, List.cons_append, Nat.reduceAdd, Nat.reduceSub, Nat.reduceLT, Nat.reduceLeDiff, List.nodup_cons, List.nodup_nil, List.not_mem_nil, not_false_eq_true, not_true_eq_false, and_self, and_true, true_and, and_false, false_and, if_true, if_false, reduceIte, Bool.false_eq_true, decide_eq_true_eq, decide_eq_false_iff_not, Bool.not_true, Bool.not_false, Bool.not_eq_true', Bool.not_eq_false', List.zip_cons_cons, List.zip_nil_right, List.zip_nil_left, List.foldl_cons, List.foldl_nil, tgN, tgT, tgT.go, tgL, mYes, wm_ret, List.headD_cons, addD, subD, mulD, modD, fdivD, powD, negD, cmpD, eqD, neD, isND, notND, isNone, lenD, intD, strD, listD, tupleD, ixD, min2D, max2D, appendM, popM, reverseM, clearM, rangeD1, rangeD, itemsD, truD, inKD, ixKD, splitD, joinD, slD, isiD, notD, fldD, conC, conD, neD, stepD, enumD, inD, notInD]
  have hr : cRng (if (63 : Int) < ((ns.map D.int).length : Int) then 63 else ((ns.map D.int).length : Int)) := by
    unfold cRng
    split <;> omega
  have hr2 : (if (63 : Int) < ((ns.map D.int).length : Int) then 63 else ((ns.map D.int).length : Int)).toNat ≤ 63 ∧ (if (63 : Int) < ((ns.map D.int).length : Int) then 63 else ((ns.map D.int).length : Int)).toNat ≤ ns.length := by
    rw [List.length_map]
    split <;> omega
  rw [if_pos hr]
  simp only
  refine wf_forL (fun ds ρ => (∀ d ∈ ds, ∃ k : Nat, d = .int k ∧ k < ns.length ∧ k < 63) ∧ ∃ xs : List Int, xs.length + 40 * ds.length ≤ 2520 ∧ ρ = ⟨[some (.val (.scr (ns.map D.int))), some (.own (iL xs)), none, none, none, none, none], []⟩) ?_ ?_ _ _ ⟨?_, [], ?_, rfl⟩
  · rintro d ds ρ ⟨hd, xs, hl, rfl⟩
    obtain ⟨k, rfl, hk, hk2⟩ := hd _ List.mem_cons_self
    have hd' : ∀ d ∈ ds, ∃ k : Nat, d = .int k ∧ k < ns.length ∧ k < 63 := fun d z => hd d (List.mem_cons_of_mem _ z)
    rw [List.length_cons] at hl
    refine ⟨_, rfl, ?_⟩
    have ha := atI_map (f := D.int) hk
    unfold lb__law_draws_1
    simp (decide := true) only [wf_seq, wf_seqL, wf_kill, wf_expr, wf_fret, wf_retN, wf_ifS, wf_setN, wf_setV, wf_setT, wf_par, wf_augI, wf_break, wf_cont, wf_thru, wf_raise, wf_tryAs, wf_tryOn, wf_putIx, wm_step, wm_s1, wm_s2, wm_make, wm_makeL, wm_cmeth, wm_listO, wm_srcI, wm_srcG, wm_compG, wf_forG, wm_methI, wm_propI, wm_xf, wm_is, wf_skip, wf_for, wm_var, wm_c, wm_frz, wm_frN, wm_nn, wm_un, wm_bin, wm_evs_nil, wm_evs_cons, wm_n, wm_tup, wm_lst, wm_bool, wm_notB, wm_andB, wm_orB, wm_and, wm_or, wm_if, wm_chain, wm_asInt, wm_noInt, wm_sl, wm_step, wm_srcD, wm_srcN, wm_fmt, wm_js_nil, wm_js_cons, wm_tru, wm_strM, wm_mutL, wm_call, wm_comp, wc, EV.set, EV.kill, EV.kills, EV.put, EV.obj, EV.look, EV.looks, EV.objs, EV.key, EV.puts, argIx, argSl, gets, oD, oR, settled, List.set_cons_zero, List.set_cons_succ, List.getElem?_cons_zero, List.getElem?_cons_succ, List.replicate_succ, List.replicate_zero, List.map_cons, List.map_nil, List.length_cons, List.length_nil, List.nil_append, List.cons_append, Nat.reduceAdd, Nat.reduceSub, Nat.reduceLT, Nat.reduceLeDiff, List.nodup_cons, List.nodup_nil, List.not_mem_nil, not_false_eq_true, not_true_eq_false, and_self, and_true, true_and, and_false, false_and, if_true, if_false, reduceIte, Bool.false_eq_true, decide_eq_true_eq, decide_eq_false_iff_not, Bool.not_true, Bool.not_false, Bool.not_eq_true', Bool.not_eq_false', List.zip_cons_cons, List.zip_nil_right, List.zip_nil_left, List.foldl_cons, List.foldl_nil, tgN, tgT, tgT.go, tgL, mYes, wm_ret, List.headD_cons, addD, subD, mulD, modD, fdivD, powD, negD, cmpD, eqD, neD, isND, notND, isNone, lenD, intD, strD, listD, tupleD, ixD, min2D, max2D, appendM, popM, reverseM, clearM, rangeD1, rangeD, itemsD, truD, inKD, ixKD, splitD, joinD, slD, isiD, notD, fldD, conC, conD, neD, stepD, enumD, inD, notInD, ha]
    split
    · refine draws_rest (2520 - 40 * ds.length) (by omega) _ _ hk2 _ _ _ ?_ _ (by omega)
      intro xs sd hx
      exact ⟨hd', xs, by omega, rfl⟩
    · refine draws_rest (2520 - 40 * ds.length) (by omega) _ _ hk2 _ _ _ ?_ _ (by omega)
      intro xs sd hx
      exact ⟨hd', xs, by omega, rfl⟩
  · rintro ρ ⟨_, xs, _, rfl⟩
    unfold later rb__law_draws_2
    simp (decide := true) only [wf_seq, wf_seqL, wf_kill, wf_expr, wf_fret, wf_retN, wf_ifS, wf_setN, wf_setV, wf_setT, wf_par, wf_augI, wf_break, wf_cont, wf_thru, wf_raise, wf_tryAs, wf_tryOn, wf_putIx, wm_step, wm_s1, wm_s2, wm_make, wm_makeL, wm_cmeth, wm_listO, wm_srcI, wm_srcG, wm_compG, wf_forG, wm_methI, wm_propI, wm_xf, wm_is, wf_skip, wf_for, wm_var, wm_c, wm_frz, wm_frN, wm_nn, wm_un, wm_bin, wm_evs_nil, wm_evs_cons, wm_n, wm_tup, wm_lst, wm_bool, wm_notB, wm_andB, wm_orB, wm_and, wm_or, wm_if, wm_chain, wm_asInt, wm_noInt, wm_sl, wm_step, wm_srcD, wm_srcN, wm_fmt, wm_js_nil, wm_js_cons, wm_tru, wm_strM, wm_mutL, wm_call, wm_comp, wc, EV.set, EV.kill, EV.kills, EV.put, EV.obj, EV.look, EV.looks, EV.objs, EV.key, EV.puts, argIx, argSl, gets, oD, oR, settled, List.set_cons_zero, List.set_cons_succ, List.getElem?_cons_zero, List.getElem?_cons_succ, List.replicate_succ, List.replicate_zero, List.map_cons, List.map_nil, List.length_cons, List.length_nil, List.nil_append, List.cons_append, Nat.reduceAdd, Nat.reduceSub, Nat.reduceLT, Nat.reduceLeDiff, List.nodup_cons, List.nodup_nil, List.not_mem_nil, not_false_eq_true, not_true_eq_false, and_self, and_true, true_and, and_false, false_and, if_true, if_false, reduceIte, Bool.false_eq_true, decide_eq_true_eq, decide_eq_false_iff_not, Bool.not_true, Bool.not_false, Bool.not_eq_true', Bool.not_eq_false', List.zip_cons_cons, List.zip_nil_right, List.zip_nil_left, List.foldl_cons, List.foldl_nil, tgN, tgT, tgT.go, tgL, mYes, wm_ret, List.headD_cons, addD, subD, mulD, modD, fdivD, powD, negD, cmpD, eqD, neD, isND, notND, isNone, lenD, intD, strD, listD, tupleD, ixD, min2D, max2D, appendM, popM, reverseM, clearM, rangeD1, rangeD, itemsD, truD, inKD, ixKD, splitD, joinD, slD, isiD, notD, fldD, conC, conD, neD, stepD, enumD, inD, notInD, iL]
    rw [← List.map_reverse]
    exact h xs.reverse _
  · intro d hd
    obtain ⟨k, rfl, hk⟩ := rangeL_ok hd
    exact ⟨k, rfl, by omega, by omega⟩
  · unfold rangeL
    simp only [List.length_map, List.length_range, List.length_nil]
    omega
def low (w : Str) : Prop := ∀ c ∈ w.cps.toList, 97 ≤ c ∧ c ≤ 122
instance {w : Str} : Decidable (low w) := by unfold low; exact inferInstance
def WOK (w : Str) : Prop := 1 ≤ w.length ∧ w.length ≤ 8 ∧ low w
instance {w : Str} : Decidable (WOK w) := by unfold WOK; exact inferInstance
theorem str_len (w : Str) : w.length = w.cps.toList.length := by simp [Str.length]
theorem str_app (a b : Str) : (a ++ b).cps.toList = a.cps.toList ++ b.cps.toList := TL.tl_append a b
theorem str_appL (a b : Str) : (a ++ b).length = a.length + b.length := by
  rw [str_len, str_len, str_len, str_app, List.length_append]
def letters : Str := "abcdefghijklmnopqrstuvwxyz"
theorem letters_len : letters.cps.toList.length = 26 := by decide
theorem letters_at {i : Int} (h0 : 0 ≤ i) (h : i < 26) : ∃ c, atI letters.cps.toList i = some c ∧ 97 ≤ c ∧ c ≤ 122 := by
  obtain ⟨k, rfl⟩ := Int.eq_ofNat_of_zero_le h0
  have hk : k < letters.cps.toList.length := by rw [letters_len]; omega
  refine ⟨letters.cps.toList[k], ?_, ?_⟩
  · unfold atI ixN
    rw [if_pos (by omega), if_pos (by omega)]
    simp [hk]
  · exact (by decide : ∀ c ∈ letters.cps.toList, 97 ≤ c ∧ c ≤ 122) _ (List.getElem_mem hk)
def menu : List Str := ["kind", "hall", "make", "weight", "any", "own", "if", "and", "take", "pass", "taken", "seen", "at", "z", "aa"]
theorem atI_list (l : List Str) {i : Int} (h0 : 0 ≤ i) (h : i < l.length) : ∃ w ∈ l, atI (l.map D.str) i = some (.str w) := by
  obtain ⟨k, rfl⟩ := Int.eq_ofNat_of_zero_le h0
  have hk : k < l.length := by omega
  exact ⟨l[k], List.getElem_mem hk, atI_map (f := D.str) hk⟩
/-! ### short words -/
def asc (w : Str) : Prop := ∀ c ∈ w.cps.toList, c < 128
instance {w : Str} : Decidable (asc w) := by unfold asc; exact inferInstance
theorem WOK.asc {w : Str} (h : WOK w) : asc w := fun c hc => by have := h.2.2 c hc; omega
theorem asc_app {a b : Str} (ha : asc a) (hb : asc b) : asc (a ++ b) := fun c hc => by
  rw [str_app] at hc
  rcases List.mem_append.mp hc with h | h
  · exact ha c h
  · exact hb c h
theorem asc_ok {w : Str} (h : asc w) : PyData.strOk w = true := by
  unfold PyData.strOk
  rw [← Array.all_toList, List.all_eq_true]
  intro c hc
  have := h c hc
  rw [decide_eq_true_eq]
  omega
/-- short, plain letters, no blank, no line's end -/
def PW (w : Str) : Prop := asc w ∧ w.length ≤ 100 ∧ 32 ∉ TL.tl w ∧ 10 ∉ TL.tl w
instance {w : Str} : Decidable (PW w) := by unfold PW; exact inferInstance
theorem WOK.pw {w : Str} (h : WOK w) : PW w := by
  refine ⟨h.asc, by have := h.2.1; omega, fun z => ?_, fun z => ?_⟩
  · have := h.2.2 32 z; omega
  · have := h.2.2 10 z; omega
theorem PW.ok {w : Str} (h : PW w) : PyData.strOk w = true := asc_ok h.1
theorem al_nil {α : Type} {p : α → Prop} : ∀ x ∈ ([] : List α), p x := fun _ h => by cases h
theorem al_cons {α : Type} {p : α → Prop} {a : α} {l : List α} (h : p a) (t : ∀ x ∈ l, p x) : ∀ x ∈ a :: l, p x := fun x hx => by
  rcases List.mem_cons.mp hx with rfl | hx
  · exact h
  · exact t x hx
theorem sp_len : Str.length " " = 1 := by decide
theorem nl_len : Str.length "\n" = 1 := by decide
def txt (ws : List Str) : Str := Txt.join " " ws
def lin (ws : List Str) : Str := Txt.join "\n" ws
theorem sumN {n : Nat} : ∀ {ws : List Str}, (∀ w ∈ ws, w.length ≤ n) → (ws.map (·.length)).sum ≤ n * ws.length
  | [], _ => Nat.le_refl _
  | w :: ws, h => by
    have h1 := h w List.mem_cons_self
    have h2 := sumN (ws := ws) fun w hw => h w (List.mem_cons_of_mem _ hw)
    rw [List.map_cons, List.sum_cons, List.length_cons, Nat.mul_succ]
    omega
theorem txt_join {ws : List Str} (h : ∀ w ∈ ws, PW w) (hl : ws.length ≤ 20) : joinL " " (ws.map D.str) = some (.v (.str (txt ws))) := by
  refine join_ok ?_
  have := sumN (n := 100) (ws := ws) fun w hw => (h w hw).2.1
  rw [sp_len]
  unfold szOk
  omega
theorem txt_bound {ws : List Str} (h : ∀ w ∈ ws, PW w) : (txt ws).length ≤ 101 * ws.length := by
  refine Nat.le_trans (txt_len " " ws) ?_
  have := sumN (n := 100) (ws := ws) fun w hw => (h w hw).2.1
  rw [sp_len]
  omega
theorem txt_split {ws : List Str} (h : ∀ w ∈ ws, PW w) (hn : ws ≠ []) : Txt.split (txt ws) " " = ws := TL.split_join (s := 32) (S := []) (by decide) (by decide +kernel) hn fun p hp => (h p hp).2.2.1
theorem lin_split {ws : List Str} (h : ∀ w ∈ ws, 10 ∉ TL.tl w) (hn : ws ≠ []) : Txt.split (lin ws) "\n" = ws := TL.split_join (s := 10) (S := []) (by decide) (by decide +kernel) hn fun p hp => h p hp
theorem sp_tl : TL.tl (" " : Str) = [32] := by decide
theorem nl_tl : TL.tl ("\n" : Str) = [10] := by decide
theorem emp_tl : TL.tl Str.empty = [] := by decide
theorem txt_tl (ws : List Str) : TL.tl (txt ws) = TL.joinL [32] (ws.map TL.tl) := by
  unfold txt
  rw [tl_txt, sp_tl]
theorem j_mem {s : List Nat} {c : Nat} : ∀ {l : List (List Nat)}, c ∈ TL.joinL s l → c ∈ s ∨ ∃ x ∈ l, c ∈ x
  | [], h => by cases h
  | [x], h => .inr ⟨x, List.mem_cons_self, h⟩
  | x :: y :: r, h => by
    rw [j_cons (by simp)] at h
    rcases List.mem_append.mp h with h | h
    · exact .inr ⟨x, List.mem_cons_self, h⟩
    · rcases List.mem_append.mp h with h | h
      · exact .inl h
      · rcases j_mem h with h | ⟨z, hz, h⟩
        · exact .inl h
        · exact .inr ⟨z, List.mem_cons_of_mem _ hz, h⟩
theorem txt_nl {ws : List Str} (h : ∀ w ∈ ws, PW w) : 10 ∉ TL.tl (txt ws) := fun z => by
  rw [txt_tl] at z
  rcases j_mem z with z | ⟨x, hx, z⟩
  · simp at z
  · obtain ⟨w, hw, rfl⟩ := List.mem_map.mp hx
    exact (h w hw).2.2.2 z
theorem txt_asc {ws : List Str} (h : ∀ w ∈ ws, PW w) : asc (txt ws) := fun c z => by
  have z : c ∈ TL.tl (txt ws) := z
  rw [txt_tl] at z
  rcases j_mem z with z | ⟨x, hx, z⟩
  · simp at z; omega
  · obtain ⟨w, hw, rfl⟩ := List.mem_map.mp hx
    exact (h w hw).1 c z
/-! ### lists of texts -/
theorem toVs_strs : ∀ l : List Str, toVs (l.map D.str) = some (l.map V.str)
  | [] => rfl
  | a :: l => by
    show (match toVs (l.map D.str) with | some vs => some (V.str a :: vs) | none => none) = _
    rw [toVs_strs l]
    rfl
theorem inV_strs (n : Str) : ∀ l : List Str, L2.inV (.str n) (l.map V.str) = l.contains n
  | [] => rfl
  | a :: l => by
    have ih := inV_strs n l
    unfold L2.inV at ih ⊢
    rw [List.map_cons, List.any_cons, ih, List.contains_cons]
    congr 1
    show (a == n) = (n == a)
    by_cases z : a = n
    · subst z; rfl
    · have h1 : (a == n) = false := by simpa using z
      have h2 : (n == a) = false := by simpa using (fun e : n = a => z e.symm)
      rw [h1, h2]
theorem inB_strs (n : Str) (l : List Str) : inB (.str n) (.lst (l.map D.str)) = some (l.contains n) := by
  have h : inFlat (.str n) (l.map D.str) = some (l.contains n) := by
    unfold inFlat
    show (match toVs (l.map D.str) with | some vs => some (L2.inV (.str n) vs) | none => none) = _
    rw [toVs_strs]
    simp only [inV_strs]
  show (match inFlat (.str n) (l.map D.str) with | some b => some b | none => _) = _
  rw [h]
theorem eqB_strs : ∀ (a b : List Str), PyData.eqvAll (pys (a.map D.str)) (pys (b.map D.str)) = decide (a = b)
  | [], [] => rfl
  | [], _ :: _ => rfl
  | _ :: _, [] => rfl
  | x :: a, y :: b => by
    have ih := eqB_strs a b
    simp only [List.map_cons, pys, py, PyData.eqvAll, PyData.eqv, ih]
    by_cases z : x = y
    · subst z; simp
    · simp [z]
theorem dps_strs {a : List Str} (h : ∀ w ∈ a, asc w) : Dp 2 (.lst (a.map D.str)) := Dp.lst fun d hd => by
  obtain ⟨w, hw, rfl⟩ := List.mem_map.mp hd
  exact Dp.str (asc_ok (h w hw))
theorem neD_strs {a b : List Str} (ha : ∀ w ∈ a, asc w) (hb : ∀ w ∈ b, asc w) : neD (.lst (a.map D.str)) (.lst (b.map D.str)) = some (.v (.bl (!decide (a = b)))) := by
  have h1 := (dps_strs ha).ok (by decide)
  have h2 := (dps_strs hb).ok (by decide)
  simp only [neD, h1, h2, Bool.and_self, if_true]
  unfold eqB
  rw [py, py, PyData.eqv, eqB_strs]
theorem eqD_strs {a b : List Str} (ha : ∀ w ∈ a, asc w) (hb : ∀ w ∈ b, asc w) : eqD (.lst (a.map D.str)) (.lst (b.map D.str)) = some (.v (.bl (decide (a = b)))) := by
  have h1 := (dps_strs ha).ok (by decide)
  have h2 := (dps_strs hb).ok (by decide)
  simp only [eqD, h1, h2, Bool.and_self, if_true]
  unfold eqB
  rw [py, py, PyData.eqv, eqB_strs]
theorem at0 {α : Type} {a : α} {l : List α} : atI (a :: l) 0 = some a := by
  unfold atI ixN
  rw [if_pos (by omega), if_pos (by simp)]
  rfl
theorem at1 {α : Type} {a b : α} {l : List α} : atI (a :: b :: l) 1 = some b := by
  unfold atI ixN
  rw [if_pos (by omega), if_pos (by simp only [List.length_cons]; omega)]
  rfl
theorem at2 {α : Type} {a b c : α} {l : List α} : atI (a :: b :: c :: l) 2 = some c := by
  unfold atI ixN
  rw [if_pos (by omega), if_pos (by simp only [List.length_cons]; omega)]
  rfl
theorem at3 {α : Type} {a b c d : α} {l : List α} : atI (a :: b :: c :: d :: l) 3 = some d := by
  unfold atI ixN
  rw [if_pos (by omega), if_pos (by simp only [List.length_cons]; omega)]
  rfl
/-! ### names -/
theorem in_let : ∀ c, c < 128 → inB (.str ⟨#[c]⟩) (.str "abcdefghijklmnopqrstuvwxyz") = some (decide (97 ≤ c ∧ c ≤ 122)) := by
  have h : ∀ k ∈ List.range 128, inB (.str ⟨#[k]⟩) (.str "abcdefghijklmnopqrstuvwxyz") = some (decide (97 ≤ k ∧ k ≤ 122)) := by decide +kernel
  exact fun c hc => h c (List.mem_range.mpr hc)
def isNm (w : Str) : Bool := decide (1 ≤ w.length) && (decide (w.length ≤ 8) && (w.cps.toList.all fun c => decide (97 ≤ c ∧ c ≤ 122)))
theorem WOK.nm {w : Str} (h : WOK w) : isNm w = true := by
  unfold isNm
  have h1 := h.1
  have h2 := h.2.1
  simp only [h1, h2, decide_true, Bool.true_and, List.all_eq_true, decide_eq_true_eq]
  exact h.2.2
theorem nm_wok {w : Str} (h : isNm w = true) : WOK w := by
  unfold isNm at h
  simp only [Bool.and_eq_true, List.all_eq_true, decide_eq_true_eq] at h
  exact ⟨h.1, h.2.1, h.2.2⟩
theorem bool_mapf {α : Type} (f : α → Bool) : ∀ (l : List α), boolL (l.map fun a => D.bl (f a)) = some (l.map f)
  | [] => rfl
  | a :: l => by
    show (match boolL (l.map fun a => D.bl (f a)) with | some bs => some (f a :: bs) | none => none) = _
    rw [bool_mapf f l]
    rfl
theorem all_mapf {α : Type} (f : α → Bool) (l : List α) : allD [.lst (l.map fun a => D.bl (f a))] = some (.v (.bl (l.all f))) := by
  show (match boolL (l.map fun a => D.bl (f a)) with | some bs => some (R.v (.bl (bs.all id))) | none => none) = _
  rw [bool_mapf]
  simp
/-! ### kinds -/
structure Rw where
  n : Str
  h : Str
  m : Str
  w : Int
deriving DecidableEq
def Rw.d (r : Rw) : D := .tup [.str r.n, .str r.h, .str r.m, .int r.w]
def Rw.ok (r : Rw) : Prop := WOK r.n ∧ WOK r.h ∧ WOK r.m ∧ (1 ≤ r.w ∧ r.w ≤ 9)
def KD (rs : List Rw) : D := .ins "Kinds" ["rows"] [.lst (rs.map Rw.d)]
theorem ins_kd (rs : List Rw) : insOf (KD rs) = some (("Kinds" : Str), (["rows"] : List Str), [D.lst (rs.map Rw.d)]) := rfl
theorem con_rows (m : Str) (h : m ≠ "rows") : (["rows"] : List Str).contains m = false := by simpa using h
def numS (i : Int) : Str := toString i
def Rw.words (r : Rw) : List Str := ["kind", r.n, "hall", r.h, "make", r.m, "weight", numS r.w]
def ktxt (rs : List Rw) : Str := lin (rs.map fun r => txt r.words)
theorem nine {i : Int} (h : 1 ≤ i ∧ i ≤ 9) : i = 1 ∨ i = 2 ∨ i = 3 ∨ i = 4 ∨ i = 5 ∨ i = 6 ∨ i = 7 ∨ i = 8 ∨ i = 9 := by omega
theorem num_pw {i : Int} (h : 1 ≤ i ∧ i ≤ 9) : PW (numS i) := by
  rcases nine h with rfl | rfl | rfl | rfl | rfl | rfl | rfl | rfl | rfl <;> decide
theorem num_read {i : Int} (h : 1 ≤ i ∧ i ≤ 9) : intText? (numS i) = some i := by
  rcases nine h with rfl | rfl | rfl | rfl | rfl | rfl | rfl | rfl | rfl <;> decide +kernel
theorem Rw.words_pw {r : Rw} (h : r.ok) : ∀ w ∈ r.words, PW w :=
  al_cons (by decide) (al_cons h.1.pw (al_cons (by decide) (al_cons h.2.1.pw (al_cons (by decide) (al_cons h.2.2.1.pw (al_cons (by decide) (al_cons (num_pw h.2.2.2) al_nil)))))))
/-- the digit that a word is -/
def dig (w : Str) : Option Int := if w = "1" then some 1 else if w = "2" then some 2 else if w = "3" then some 3 else if w = "4" then some 4 else if w = "5" then some 5 else if w = "6" then some 6 else if w = "7" then some 7 else if w = "8" then some 8 else if w = "9" then some 9 else none
theorem dig_num {i : Int} (h : 1 ≤ i ∧ i ≤ 9) : dig (numS i) = some i := by
  rcases nine h with rfl | rfl | rfl | rfl | rfl | rfl | rfl | rfl | rfl <;> decide +kernel
theorem dig_some {w : Str} {i : Int} (h : dig w = some i) : (1 ≤ i ∧ i ≤ 9) ∧ w = numS i := by
  unfold dig at h
  repeat' split at h
  all_goals first | (cases h; subst_vars; exact ⟨by decide, by decide⟩) | cases h
def kmw : List Str := ["kind", "hall", "make", "weight"]
def rk8 (a b c d e f g i : Str) : Option Rw := if [a, c, e, g] = kmw then (if (isNm b && (isNm d && isNm f)) = true then (match dig i with
    | some z => some ⟨b, d, f, z⟩
    | none => none) else none) else none
def rk : List Str → Option Rw
  | [a, b, c, d, e, f, g, i] => rk8 a b c d e f g i
  | _ => none
theorem rk_good {r : Rw} (h : r.ok) : rk r.words = some r := by
  unfold Rw.words rk rk8
  simp only [h.1.nm, h.2.1.nm, h.2.2.1.nm, dig_num h.2.2.2, Bool.and_self, if_true]
  exact if_pos rfl
theorem rk_some {ws : List Str} {r : Rw} (h : rk ws = some r) : r.ok := by
  unfold rk at h
  split at h
  · unfold rk8 at h
    split at h
    · split at h
      · rename_i hn
        simp only [Bool.and_eq_true] at hn
        split at h
        · rename_i i hi
          cases h
          exact ⟨nm_wok hn.1, nm_wok hn.2.1, nm_wok hn.2.2, (dig_some hi).1⟩
        · cases h
      · cases h
    · cases h
  · cases h
theorem rk_len {ws : List Str} (h : ws.length ≠ 8) : rk ws = none := by
  unfold rk
  split
  · simp at h
  · rfl
def oRw : Option Rw → D
  | some r => r.d
  | none => .non
theorem eight {ws : List Str} (h : ws.length = 8) : ∃ a b c d e f g i, ws = [a, b, c, d, e, f, g, i] := by
  match ws, h with
  | [a, b, c, d, e, f, g, i], _ => exact ⟨a, b, c, d, e, f, g, i, rfl⟩
theorem in_dig : ∀ c, c < 128 → inB (.str ⟨#[c]⟩) (.str "123456789") = some (decide (49 ≤ c ∧ c ≤ 57)) := by
  have h : ∀ k ∈ List.range 128, inB (.str ⟨#[k]⟩) (.str "123456789") = some (decide (49 ≤ k ∧ k ≤ 57)) := by decide +kernel
  exact fun c hc => h c (List.mem_range.mpr hc)
theorem one_char {w : Str} (h : w.length = 1) : ∃ c, w = ⟨#[c]⟩ := by
  obtain ⟨⟨l⟩⟩ := w
  match l, h with
  | [c], _ => exact ⟨c, rfl⟩
theorem dig_one : ∀ c, c < 128 → dig ⟨#[c]⟩ = (if 49 ≤ c ∧ c ≤ 57 then some ((c : Int) - 48) else none) := by
  have h : ∀ k ∈ List.range 128, dig ⟨#[k]⟩ = (if 49 ≤ k ∧ k ≤ 57 then some ((k : Int) - 48) else none) := by decide +kernel
  exact fun c hc => h c (List.mem_range.mpr hc)
theorem dig_int : ∀ c, 49 ≤ c → c ≤ 57 → intText? ⟨#[c]⟩ = some ((c : Int) - 48) := by
  have h : ∀ k ∈ List.range 9, intText? ⟨#[49 + k]⟩ = some (((49 + k : Nat) : Int) - 48) := by decide +kernel
  intro c h1 h2
  have := h (c - 49) (List.mem_range.mpr (by omega))
  rw [show 49 + (c - 49) = c by omega] at this
  exact this
theorem dig_no {w : Str} (h : w.length ≠ 1) : dig w = none := by
  cases e : dig w with
  | none => rfl
  | some i =>
    obtain ⟨a, rfl⟩ := dig_some e
    rcases nine a with rfl | rfl | rfl | rfl | rfl | rfl | rfl | rfl | rfl <;> exact absurd (by decide) h
theorem pick0 {α : Type} (a b c d e f g i : α) : pickL [a, b, c, d, e, f, g, i] (some 0) none (some 2) = [a, c, e, g] := by
  have h : sliceRange (sliceBounds (some 0) none (some 2) 8).1 (sliceBounds (some 0) none (some 2) 8).2.1 (sliceBounds (some 0) none (some 2) 8).2.2 = [0, 2, 4, 6] := by decide +kernel
  show (sliceRange (sliceBounds (some 0) none (some 2) 8).1 (sliceBounds (some 0) none (some 2) 8).2.1 (sliceBounds (some 0) none (some 2) 8).2.2).filterMap ([a, b, c, d, e, f, g, i][·]?) = _
  rw [h]
  rfl
theorem pick1 {α : Type} (a b c d e f g i : α) : pickL [a, b, c, d, e, f, g, i] (some 1) none (some 2) = [b, d, f, i] := by
  have h : sliceRange (sliceBounds (some 1) none (some 2) 8).1 (sliceBounds (some 1) none (some 2) 8).2.1 (sliceBounds (some 1) none (some 2) 8).2.2 = [1, 3, 5, 7] := by decide +kernel
  show (sliceRange (sliceBounds (some 1) none (some 2) 8).1 (sliceBounds (some 1) none (some 2) 8).2.1 (sliceBounds (some 1) none (some 2) 8).2.2).filterMap ([a, b, c, d, e, f, g, i][·]?) = _
  rw [h]
  rfl
/-! ### kinds made -/
def dupOf : List Str → List Str → Option (Str × Nat)
  | [], _ => none
  | n :: ns, done => if done.contains n = true then some (n, done.length) else dupOf ns (done ++ [n])
theorem kiR_rows : ∀ (rs : List Rw) (done : List Str), kiR (rs.map Rw.d) done = some (dupOf (rs.map (·.n)) done)
  | [], _ => rfl
  | r :: rs, done => by
    have ih := kiR_rows rs (done ++ [r.n])
    show (if L2.inV (.str r.n) (done.map V.str) = true then some (some (r.n, done.length)) else kiR (rs.map Rw.d) (done ++ [r.n])) = _
    rw [inV_strs, ih]
    show _ = some (if done.contains r.n = true then some (r.n, done.length) else dupOf (rs.map (·.n)) (done ++ [r.n]))
    split <;> rfl
theorem dup_none : ∀ {ns done : List Str}, ns.Nodup → (∀ n ∈ ns, n ∉ done) → dupOf ns done = none
  | [], _, _, _ => rfl
  | n :: ns, done, h, k => by
    obtain ⟨h1, h2⟩ := List.nodup_cons.mp h
    unfold dupOf
    have : done.contains n = false := by
      have := k n List.mem_cons_self
      simpa using this
    rw [this]
    simp only [Bool.false_eq_true, if_false]
    refine dup_none h2 fun m hm z => ?_
    rcases List.mem_append.mp z with z | z
    · exact k m (List.mem_cons_of_mem _ hm) z
    · rw [List.mem_singleton] at z
      subst z
      exact h1 hm
def KdOk (rs : List Rw) : Prop := (rs.map (·.n)).Nodup ∧ rs.length ≤ 100
theorem KdOk.sz {rs : List Rw} (h : KdOk rs) : szOk rs.length := by have := h.2; unfold szOk; omega
theorem push_at (ρ : EV) (d : D) : (ρ.push d).sl[ρ.sl.length]? = some (some (.own d)) := by
  unfold EV.push
  simp
theorem push_put (ρ : EV) (d e : D) : (ρ.push d).put ρ.sl.length e = ρ.push e := by
  unfold EV.put
  rw [push_at]
  unfold EV.set EV.push
  simp
theorem push_pop (ρ : EV) (d : D) : (ρ.push d).pop ρ.sl.length = ρ := by
  unfold EV.push EV.pop
  simp
theorem ki_val {rs : List Rw} (hz : szOk rs.length) : fbKI ⟨[some (.par 0), some (.val (.lst (rs.map Rw.d))), none, none], [.ins "Kinds" [] []]⟩ = (match dupOf (rs.map (·.n)) [] with
    | none => some (.nx ⟨[none, none, none, none], [KD rs]⟩)
    | some (n, i) => some (.ex ⟨"DuplicateName", [("name", .str n)]⟩ ⟨[none, none, none, none], [.ins "Kinds" ["rows"] [.lst ((rs.map Rw.d).take i)]]⟩)) := by
  have hz2 : szOk (rs.map Rw.d).length := by rw [List.length_map]; exact hz
  unfold fbKI
  simp only [List.getElem?_cons_zero, kiSrc, List.getElem?_cons_succ, true_and, List.length_cons, List.length_nil, hz2, if_true, kiR_rows]
  rw [if_pos (by decide)]
  cases dupOf (rs.map (·.n)) [] with
  | none => rfl
  | some p => rfl
theorem ki_par {rs : List Rw} (hz : szOk rs.length) : fbKI ⟨[some (.par 0), some (.par 1), none, none], [.ins "Kinds" [] [], .lst (rs.map Rw.d)]⟩ = (match dupOf (rs.map (·.n)) [] with
    | none => some (.nx ⟨[none, none, none, none], [KD rs, .lst (rs.map Rw.d)]⟩)
    | some (n, i) => some (.ex ⟨"DuplicateName", [("name", .str n)]⟩ ⟨[none, none, none, none], [.ins "Kinds" ["rows"] [.lst ((rs.map Rw.d).take i)], .lst (rs.map Rw.d)]⟩)) := by
  have hz2 : szOk (rs.map Rw.d).length := by rw [List.length_map]; exact hz
  unfold fbKI
  simp only [List.getElem?_cons_zero, kiSrc, List.getElem?_cons_succ, true_and, List.length_cons, List.length_nil, hz2, if_true, kiR_rows]
  rw [if_pos (by decide)]
  cases dupOf (rs.map (·.n)) [] with
  | none => rfl
  | some p => rfl
section
variable {rs : List Rw} {ρ : EV} {Q : R → EV → Prop} {X : XD → EV → Prop}
theorem mk_val (hz : szOk rs.length) (h : match dupOf (rs.map (·.n)) [] with
    | none => Q (.n (KD rs)) ρ
    | some (n, _) => X ⟨"DuplicateName", [("name", .str n)]⟩ ρ) : wmk "Kinds" fbKI 4 [.v (.lst (rs.map Rw.d))] ρ Q X := by
  rw [wmk_eq]
  unfold wc
  simp only [argIx, EV.objs, EV.obj, push_at]
  refine ⟨by simp, ?_⟩
  simp only [argSl, List.length_cons, List.length_nil, List.nil_append, List.cons_append, List.replicate_succ, List.replicate_zero, Nat.reduceAdd, Nat.reduceSub]
  unfold wf
  rw [ki_val hz]
  cases e : dupOf (rs.map (·.n)) [] with
  | none =>
    rw [e] at h
    simp only [EV.puts, push_put, push_at, push_pop]
    exact h
  | some p =>
    rw [e] at h
    simp only [EV.puts, push_put, push_at, push_pop]
    exact h
theorem mk_own {i : Nat} (he : ρ.sl[i]? = some (some (.own (.lst (rs.map Rw.d))))) (hz : szOk rs.length) (h : match dupOf (rs.map (·.n)) [] with
    | none => Q (.n (KD rs)) ρ
    | some (n, _) => X ⟨"DuplicateName", [("name", .str n)]⟩ ρ) : wmk "Kinds" fbKI 4 [.s i] ρ Q X := by
  have hi : i < ρ.sl.length := (List.getElem?_eq_some_iff.mp he).1
  have hp : ∀ d, (ρ.push d).sl[i]? = some (some (.own (.lst (rs.map Rw.d)))) := fun d => by
    unfold EV.push
    rw [List.getElem?_append_left hi]
    exact he
  have hq : ∀ d, (ρ.push d).put i (.lst (rs.map Rw.d)) = ρ.push d := fun d => by
    unfold EV.put
    rw [hp]
    unfold EV.set
    have : (ρ.push d).sl.set i (some (.own (.lst (rs.map Rw.d)))) = (ρ.push d).sl := by
      obtain ⟨h1, h2⟩ := List.getElem?_eq_some_iff.mp (hp d)
      rw [← h2]
      exact List.set_getElem_self h1
    simp only [this]
  rw [wmk_eq]
  unfold wc
  simp only [argIx, EV.objs, EV.obj, push_at, hp]
  refine ⟨?_, ?_⟩
  · simp only [List.map_cons, List.map_nil, EV.key, push_at, hp]
    simp
    omega
  simp only [argSl, List.length_cons, List.length_nil, List.nil_append, List.cons_append, List.replicate_succ, List.replicate_zero, Nat.reduceAdd, Nat.reduceSub]
  unfold wf
  rw [ki_par hz]
  cases e : dupOf (rs.map (·.n)) [] with
  | none =>
    rw [e] at h
    simp only [EV.puts, push_put, hq, push_at, push_pop]
    exact h
  | some p =>
    rw [e] at h
    simp only [EV.puts, push_put, hq, push_at, push_pop]
    exact h
end
theorem row_ix0 (r : Rw) : ixD r.d (.int 0) = some (.v (.str r.n)) := rfl
theorem row_ix1 (r : Rw) : ixD r.d (.int 1) = some (.v (.str r.h)) := rfl
theorem row_ix2 (r : Rw) : ixD r.d (.int 2) = some (.v (.str r.m)) := rfl
theorem row_ix3 (r : Rw) : ixD r.d (.int 3) = some (.v (.int r.w)) := rfl
theorem row_non (r : Rw) : isNone r.d = false := rfl
theorem names_el {v : Nat} (r : Rw) (ρ' : EV) (h : gets ρ'.sl v = some (.val r.d)) : wm (fBin ixD (fVar v) (fC (.int 0))) ρ' (fun z ρ'' => z = .v (.str r.n) ∧ ρ'' = ρ') (fun _ _ => False) := by
  rw [wm_bin, wm_var, h]
  simp only [wm_c, EV.look, oD, row_ix0, oR, and_self]
theorem inD_names (n : Str) (rs : List Rw) : inD (.str n) (.lst (rs.map fun r => .str r.n)) = some (.v (.bl ((rs.map (·.n)).contains n))) := by
  unfold inD
  have : (rs.map fun r => D.str r.n) = (rs.map (·.n)).map D.str := by rw [List.map_map]; rfl
  rw [this, inB_strs]
theorem row_tup (r : Rw) : isiD [r.d, .ty "tuple"] = some (.v (.bl true)) := rfl
theorem row_four (r : Rw) : lenD [r.d] = some (.v (.int 4)) := rfl
theorem ix_lst (l : List D) (i : Int) : ixD (.lst l) (.int i) = (match atI l i with | some d => some (.v d) | none => none) := rfl
theorem len_lst (l : List D) : lenD [.lst l] = some (.v (.int l.length)) := rfl
theorem isi_lst (l : List D) : isiD [.lst l, .ty "list"] = some (.v (.bl true)) := rfl
theorem isi_str (l : Str) : isiD [.str l, .ty "str"] = some (.v (.bl true)) := rfl
theorem ne_int (a b : Int) : neD (.int a) (.int b) = some (.v (.bl (!decide (a = b)))) := rfl
theorem eq_int (a b : Int) : eqD (.int a) (.int b) = some (.v (.bl (decide (a = b)))) := rfl
theorem eq_str (a b : Str) : eqD (.str a) (.str b) = some (.v (.bl (decide (a = b)))) := rfl
theorem ne_str (a b : Str) : neD (.str a) (.str b) = some (.v (.bl (!decide (a = b)))) := rfl
theorem row_at {rs : List Rw} {k : Nat} (hk : k < rs.length) : ixD (.lst (rs.map Rw.d)) (.int (k : Nat)) = some (.v (rs[k]).d) := by
  show (match atI (rs.map Rw.d) (k : Int) with | some d => some (R.v d) | none => none) = _
  rw [atI_map hk]
theorem row_sl (r : Rw) : slD none (some 3) r.d = some (.v (.tup [.str r.n, .str r.h, .str r.m])) := rfl
theorem isi_row (r : Rw) (t : String) : isiD [r.d, .ty t] = isiD [.tup [], .ty t] := rfl
theorem isi_int (i : Int) : isiD [.int i, .ty "int"] = some (.v (.bl true)) := rfl
theorem isi_intb (i : Int) : isiD [.int i, .ty "bool"] = some (.v (.bl false)) := rfl
theorem atI_row {rs : List Rw} {k : Nat} (hk : k < rs.length) : atI (rs.map Rw.d) (k : Int) = some (rs[k]).d := atI_map hk
/-! ### what kinds tell -/
theorem fld_rows (rs : List Rw) : fldD ["Kinds"] "rows" (KD rs) = some (.v (.lst (rs.map Rw.d))) := by
  unfold KD fldD
  simp
theorem ofC_kd (rs : List Rw) (k : D → Option R) : ofC "Kinds" k (KD rs) = k (KD rs) := by
  unfold ofC KD
  simp
theorem names_comp {ρ : EV} {v : Nat} {rs : List Rw} {Q : List D → EV → Prop} {X : XD → EV → Prop} (ev : ρ.sl[v]? = some none) (hz : szOk rs.length) (h : Q (rs.map fun r => .str r.n) ρ) : wm (compL [v] (tgN v) (M.ret true) (fBin ixD (fVar v) (fC (.int 0))) (rs.map Rw.d) []) ρ Q X := by
  have hv : v < ρ.sl.length := (List.getElem?_eq_some_iff.mp ev).1
  have hk : ∀ d, (ρ.set v d).kills [v] = ρ := fun d => by
    unfold EV.kills EV.kill EV.set
    simp only [EV.kills, List.set_set]
    have : ρ.sl.set v none = ρ.sl := by
      obtain ⟨h5, h6⟩ := List.getElem?_eq_some_iff.mp ev
      rw [← h6]
      exact List.set_getElem_self h5
    rw [this]
  refine wm_compM (fun ρ' => ρ' = ρ) Rw.d (fun r => .str r.n) ?_ [] ρ rfl (by simpa using hz) (fun ρ' z => by subst z; exact h)
  rintro r hr ρ' rfl
  refine ⟨_, rfl, ?_⟩
  rw [wm_ret]
  refine ⟨rfl, ?_⟩
  refine wm_mono (names_el r _ ?_) (fun z ρ'' q => ?_) (fun _ _ z => z)
  · unfold gets EV.set
    simp [hv]
  · obtain ⟨rfl, rfl⟩ := q
    exact ⟨rfl, hk _⟩
/-! ### drawn kinds out of menus -/
def nm7 : List Str := ["own", "b", "if", "ab", "any", "a", "zoneeast"]
def wd5 : List Str := ["n", "south", "any", "b", "make"]
theorem nm7_ok : ∀ w ∈ nm7, WOK w := by decide
theorem wd5_ok : ∀ w ∈ wd5, WOK w := by decide
def nmAt (o : Int) (k : Nat) : Str := nm7.getD ((o / 6 + (k : Int) * (1 + o % 6)) % 7).toNat ""
theorem nm_nodup : ∀ o : Nat, o < 42 → ((List.range 5).map (nmAt o)).Nodup := by
  have h : ∀ o ∈ List.range 42, ((List.range 5).map (nmAt (o : Nat))).Nodup := by decide +kernel
  exact fun o ho => h o (List.mem_range.mpr ho)
theorem nm_take {o : Int} (h0 : 0 ≤ o) (h : o < 42) {n : Nat} (hn : n ≤ 5) : ((List.range n).map (nmAt o)).Nodup := by
  obtain ⟨k, rfl⟩ := Int.eq_ofNat_of_zero_le h0
  have h5 := nm_nodup k (by omega)
  have e : (List.range n).map (nmAt (k : Nat)) = ((List.range 5).map (nmAt (k : Nat))).take n := by
    rw [← List.map_take, List.take_range, Nat.min_eq_left hn]
  rw [e]
  exact h5.sublist (List.take_sublist _ _)
theorem nm_at {o : Int} {k : Nat} : atI (nm7.map D.str) ((o / 6 + (k : Int) * (1 + o % 6)) % 7) = some (.str (nmAt o k)) := by
  have h1 : 0 ≤ (o / 6 + (k : Int) * (1 + o % 6)) % 7 := Int.emod_nonneg _ (by decide)
  have h2 : (o / 6 + (k : Int) * (1 + o % 6)) % 7 < 7 := Int.emod_lt_of_pos _ (by decide)
  unfold nmAt
  generalize (o / 6 + (k : Int) * (1 + o % 6)) % 7 = i at h1 h2
  obtain ⟨j, rfl⟩ := Int.eq_ofNat_of_zero_le h1
  have hj : j < nm7.length := by show j < 7; omega
  rw [atI_map hj]
  simp [List.getD_eq_getElem?_getD, hj]
theorem nm_mem {o : Int} {k : Nat} : nmAt o k ∈ nm7 := by
  have h1 : 0 ≤ (o / 6 + (k : Int) * (1 + o % 6)) % 7 := Int.emod_nonneg _ (by decide)
  have h2 : (o / 6 + (k : Int) * (1 + o % 6)) % 7 < 7 := Int.emod_lt_of_pos _ (by decide)
  unfold nmAt
  generalize (o / 6 + (k : Int) * (1 + o % 6)) % 7 = i at h1 h2
  obtain ⟨j, rfl⟩ := Int.eq_ofNat_of_zero_le h1
  have hj : j < nm7.length := by show j < 7; omega
  simp [List.getD_eq_getElem?_getD, hj]
def KindsOk (rs : List Rw) : Prop := (rs.map (·.n)).Nodup ∧ (∀ r ∈ rs, r.ok) ∧ 1 ≤ rs.length ∧ rs.length ≤ 5
theorem kinds_body (o p : Int) (ho : 0 ≤ o ∧ o < 42) (hp : 1 ≤ p ∧ p ≤ 5) (m : D) (rs : List Rw) (hl : rs.length ≤ 5) (t : List Int) (E : Ko)
    (h : ∀ h m' w t', (⟨nmAt o rs.length, h, m', w⟩ : Rw).ok → ∀ a b, E.nx ⟨[some (.par 0), some (.val (.lst (nm7.map D.str))), some (.val (.lst (wd5.map D.str))), some (.val m), some (.val (.int o)), some (.val (.int p)), some (.own (.lst ((rs ++ [(⟨nmAt o rs.length, h, m', w⟩ : Rw)]).map Rw.d))), some (.val (.int rs.length)), a, b], [iL t']⟩) :
    wf lb__law_kinds_1 ⟨[some (.par 0), some (.val (.lst (nm7.map D.str))), some (.val (.lst (wd5.map D.str))), some (.val m), some (.val (.int o)), some (.val (.int p)), some (.own (.lst (rs.map Rw.d))), some (.val (.int rs.length)), none, none], [iL t]⟩ E := by
  unfold lb__law_kinds_1
  simp (decide := true) only [wf_seq, wf_seqL, wf_kill, wf_expr, wf_fret, wf_retN, wf_ifS, wf_setN, wf_setV, wf_setT, wf_par, wf_augI, wf_break, wf_cont, wf_thru, wf_raise, wf_tryAs, wf_tryOn, wf_putIx, wm_step, wm_s1, wm_s2, wm_make, wm_makeL, wm_cmeth, wm_listO, wm_srcI, wm_srcG, wm_compG, wf_forG, wm_methI, wm_propI, wm_xf, wm_is, wf_skip, wf_for, wm_var, wm_c, wm_frz, wm_frN, wm_nn, wm_un, wm_bin, wm_evs_nil, wm_evs_cons, wm_n, wm_tup, wm_lst, wm_bool, wm_notB, wm_andB, wm_orB, wm_and, wm_or, wm_if, wm_chain, wm_asInt, wm_noInt, wm_sl, wm_step, wm_srcD, wm_srcN, wm_fmt, wm_js_nil, wm_js_cons, wm_tru, wm_strM, wm_mutL, wm_call, wm_comp, wc, EV.set, EV.kill, EV.kills, EV.put, EV.obj, EV.look, EV.looks, EV.objs, EV.key, EV.puts, argIx, argSl, gets, oD, oR, settled, List.set_cons_zero, List.set_cons_succ, List.getElem?_cons_zero, List.getElem?_cons_succ, List.replicate_succ, List.replicate_zero, List.map_cons, List.map_nil, List.length_cons, List.length_nil, List.nil_append, List.cons_append, Nat.reduceAdd, Nat.reduceSub, Nat.reduceLT, Nat.reduceLeDiff, List.nodup_cons, List.nodup_nil, List.not_mem_nil, not_false_eq_true, not_true_eq_false, and_self, and_true, true_and, and_false, false_and, if_true, if_false, reduceIte, Bool.false_eq_true, decide_eq_true_eq, decide_eq_false_iff_not, Bool.not_true, Bool.not_false, Bool.not_eq_true', Bool.not_eq_false', List.zip_cons_cons, List.zip_nil_right, List.zip_nil_left, List.foldl_cons, List.foldl_nil, tgN, tgT, tgT.go, tgL, mYes, wm_ret, List.headD_cons]
  refine draw_spec t 1000 (by decide) _ fun c t' ρ' g1 g2 g3 => ?_
  simp (decide := true) only [wf_seq, wf_seqL, wf_kill, wf_expr, wf_fret, wf_retN, wf_ifS, wf_setN, wf_setV, wf_setT, wf_par, wf_augI, wf_break, wf_cont, wf_thru, wf_raise, wf_tryAs, wf_tryOn, wf_putIx, wm_step, wm_s1, wm_s2, wm_make, wm_makeL, wm_cmeth, wm_listO, wm_srcI, wm_srcG, wm_compG, wf_forG, wm_methI, wm_propI, wm_xf, wm_is, wf_skip, wf_for, wm_var, wm_c, wm_frz, wm_frN, wm_nn, wm_un, wm_bin, wm_evs_nil, wm_evs_cons, wm_n, wm_tup, wm_lst, wm_bool, wm_notB, wm_andB, wm_orB, wm_and, wm_or, wm_if, wm_chain, wm_asInt, wm_noInt, wm_sl, wm_step, wm_srcD, wm_srcN, wm_fmt, wm_js_nil, wm_js_cons, wm_tru, wm_strM, wm_mutL, wm_call, wm_comp, wc, EV.set, EV.kill, EV.kills, EV.put, EV.obj, EV.look, EV.looks, EV.objs, EV.key, EV.puts, argIx, argSl, gets, oD, oR, settled, List.set_cons_zero, List.set_cons_succ, List.getElem?_cons_zero, List.getElem?_cons_succ, List.replicate_succ, List.replicate_zero, List.map_cons, List.map_nil, List.length_cons, List.length_nil, List.nil_append, List.cons_append, Nat.reduceAdd, Nat.reduceSub, Nat.reduceLT, Nat.reduceLeDiff, List.nodup_cons, List.nodup_nil, List.not_mem_nil, not_false_eq_true, not_true_eq_false, and_self, and_true, true_and, and_false, false_and, if_true, if_false, reduceIte, Bool.false_eq_true, decide_eq_true_eq, decide_eq_false_iff_not, Bool.not_true, Bool.not_false, Bool.not_eq_true', Bool.not_eq_false', List.zip_cons_cons, List.zip_nil_right, List.zip_nil_left, List.foldl_cons, List.foldl_nil, tgN, tgT, tgT.go, tgL, mYes, wm_ret, List.headD_cons, g3]
  unfold later rb__law_kinds_1
  have c1 : cMul (rs.length : Int) (1 + o % 6) := by unfold cMul; omega
  have hn := nm_at (o := o) (k := rs.length)
  have b1 : 0 ≤ c % p ∧ c % p < 5 := ⟨Int.emod_nonneg _ (by omega), by have := Int.emod_lt_of_pos c (show 0 < p by omega); omega⟩
  have b2 : 0 ≤ c / 5 % 5 ∧ c / 5 % 5 < 5 := ⟨Int.emod_nonneg _ (by omega), Int.emod_lt_of_pos _ (by omega)⟩
  have b3 : 0 ≤ c / 25 % 9 ∧ c / 25 % 9 < 9 := ⟨Int.emod_nonneg _ (by omega), Int.emod_lt_of_pos _ (by omega)⟩
  obtain ⟨w1, hw1, e1⟩ := atI_list wd5 b1.1 b1.2
  obtain ⟨w2, hw2, e2⟩ := atI_list wd5 b2.1 b2.2
  have hp0 : 0 < p := by omega
  have hz : szOk ((rs.map Rw.d).length + 1) := by rw [List.length_map]; unfold szOk; omega
  simp (decide := true) only [wf_seqZ, wf_seqL, wf_kill, wf_expr, wf_fret, wf_retN, wf_ifS, wf_setN, wf_setV, wf_setT, wf_par, wf_augI, wf_break, wf_cont, wf_thru, wf_raise, wf_tryAs, wf_tryOn, wf_putIx, wm_step, wm_s1, wm_s2, wm_make, wm_makeL, wm_cmeth, wm_listO, wm_srcI, wm_srcG, wm_compG, wf_forG, wm_methI, wm_propI, wm_xf, wm_is, wf_skip, wf_for, wm_var, wm_c, wm_frz, wm_frN, wm_nn, wm_un, wm_bin, wm_evs_nil, wm_evs_cons, wm_n, wm_tup, wm_lst, wm_bool, wm_notB, wm_andBZ, wm_orBZ, wm_and, wm_or, wm_if, wm_chain, wm_asInt, wm_noInt, wm_sl, wm_step, wm_srcD, wm_srcN, wm_fmt, wm_js_nil, wm_js_cons, wm_tru, wm_strM, wm_mutL, wm_call, wm_comp, wc, EV.set, EV.kill, EV.kills, EV.put, EV.obj, EV.look, EV.looks, EV.objs, EV.key, EV.puts, argIx, argSl, gets, oD, oR, settled, List.set_cons_zero, List.set_cons_succ, List.getElem?_cons_zero, List.getElem?_cons_succ, List.replicate_succ, List.replicate_zero, List.map_cons, List.map_nil, List.length_cons, List.length_nil, List.nil_append, List.cons_append, Nat.reduceAdd, Nat.reduceSub, Nat.reduceLT, Nat.reduceLeDiff, List.nodup_cons, List.nodup_nil, List.not_mem_nil, not_false_eq_true, not_true_eq_false, and_self, and_true, true_and, and_false, false_and, if_true, if_false, reduceIte, Bool.false_eq_true, decide_eq_true_eq, decide_eq_false_iff_not, Bool.not_true, Bool.not_false, Bool.not_eq_true', Bool.not_eq_false', List.zip_cons_cons, List.zip_nil_right, List.zip_nil_left, List.foldl_cons, List.foldl_nil, tgN, tgT, tgT.go, tgL, mYes, wm_ret, List.headD_cons, fdivD, modD, mulD, addD, intD, c1, ix_lst, hn, hp0]
  rw [later_eq]
  simp (decide := true) only [wf_seqZ, wf_seqL, wf_kill, wf_expr, wf_fret, wf_retN, wf_ifS, wf_setN, wf_setV, wf_setT, wf_par, wf_augI, wf_break, wf_cont, wf_thru, wf_raise, wf_tryAs, wf_tryOn, wf_putIx, wm_step, wm_s1, wm_s2, wm_make, wm_makeL, wm_cmeth, wm_listO, wm_srcI, wm_srcG, wm_compG, wf_forG, wm_methI, wm_propI, wm_xf, wm_is, wf_skip, wf_for, wm_var, wm_c, wm_frz, wm_frN, wm_nn, wm_un, wm_bin, wm_evs_nil, wm_evs_cons, wm_n, wm_tup, wm_lst, wm_bool, wm_notB, wm_andBZ, wm_orBZ, wm_and, wm_or, wm_if, wm_chain, wm_asInt, wm_noInt, wm_sl, wm_step, wm_srcD, wm_srcN, wm_fmt, wm_js_nil, wm_js_cons, wm_tru, wm_strM, wm_mutL, wm_call, wm_comp, wc, EV.set, EV.kill, EV.kills, EV.put, EV.obj, EV.look, EV.looks, EV.objs, EV.key, EV.puts, argIx, argSl, gets, oD, oR, settled, List.set_cons_zero, List.set_cons_succ, List.getElem?_cons_zero, List.getElem?_cons_succ, List.replicate_succ, List.replicate_zero, List.map_cons, List.map_nil, List.length_cons, List.length_nil, List.nil_append, List.cons_append, Nat.reduceAdd, Nat.reduceSub, Nat.reduceLT, Nat.reduceLeDiff, List.nodup_cons, List.nodup_nil, List.not_mem_nil, not_false_eq_true, not_true_eq_false, and_self, and_true, true_and, and_false, false_and, if_true, if_false, reduceIte, Bool.false_eq_true, decide_eq_true_eq, decide_eq_false_iff_not, Bool.not_true, Bool.not_false, Bool.not_eq_true', Bool.not_eq_false', List.zip_cons_cons, List.zip_nil_right, List.zip_nil_left, List.foldl_cons, List.foldl_nil, tgN, tgT, tgT.go, tgL, mYes, wm_ret, List.headD_cons, fdivD, modD, addD, intD, ix_lst, e1, e2, hp0, appendM, hz]
  have hm : ((rs ++ [(⟨nmAt o rs.length, w1, w2, 1 + c / 25 % 9⟩ : Rw)]).map Rw.d) = rs.map Rw.d ++ [D.tup [.str (nmAt o rs.length), .str w1, .str w2, .int (1 + c / 25 % 9)]] := by rw [List.map_append]; rfl
  rw [← hm]
  exact h w1 w2 _ t' ⟨nm7_ok _ nm_mem, wd5_ok _ hw1, wd5_ok _ hw2, by show 1 ≤ 1 + c / 25 % 9 ∧ 1 + c / 25 % 9 ≤ 9; omega⟩ _ _
theorem kinds_spec (t : List Int) (E : Ko) (h : ∀ rs t' ρ', KindsOk rs → ρ'.ps = [iL t'] → E.rt (.n (.lst (rs.map Rw.d))) ρ') : wf fb__law_kinds ⟨[some (.par 0), none, none, none, none, none, none, none, none, none], [iL t]⟩ E := by
  unfold fb__law_kinds
  simp (decide := true) only [wf_seq, wf_seqL, wf_kill, wf_expr, wf_fret, wf_retN, wf_ifS, wf_setN, wf_setV, wf_setT, wf_par, wf_augI, wf_break, wf_cont, wf_thru, wf_raise, wf_tryAs, wf_tryOn, wf_putIx, wm_step, wm_s1, wm_s2, wm_make, wm_makeL, wm_cmeth, wm_listO, wm_srcI, wm_srcG, wm_compG, wf_forG, wm_methI, wm_propI, wm_xf, wm_is, wf_skip, wf_for, wm_var, wm_c, wm_frz, wm_frN, wm_nn, wm_un, wm_bin, wm_evs_nil, wm_evs_cons, wm_n, wm_tup, wm_lst, wm_bool, wm_notB, wm_andB, wm_orB, wm_and, wm_or, wm_if, wm_chain, wm_asInt, wm_noInt, wm_sl, wm_step, wm_srcD, wm_srcN, wm_fmt, wm_js_nil, wm_js_cons, wm_tru, wm_strM, wm_mutL, wm_call, wm_comp, wc, EV.set, EV.kill, EV.kills, EV.put, EV.obj, EV.look, EV.looks, EV.objs, EV.key, EV.puts, argIx, argSl, gets, oD, oR, settled, List.set_cons_zero, List.set_cons_succ, List.getElem?_cons_zero, List.getElem?_cons_succ, List.replicate_succ, List.replicate_zero, List.map_cons, List.map_nil, List.length_cons, List.length_nil, List.nil_append, List.cons_append, Nat.reduceAdd, Nat.reduceSub, Nat.reduceLT, Nat.reduceLeDiff, List.nodup_cons, List.nodup_nil, List.not_mem_nil, not_false_eq_true, not_true_eq_false, and_self, and_true, true_and, and_false, false_and, if_true, if_false, reduceIte, Bool.false_eq_true, decide_eq_true_eq, decide_eq_false_iff_not, Bool.not_true, Bool.not_false, Bool.not_eq_true', Bool.not_eq_false', List.zip_cons_cons, List.zip_nil_right, List.zip_nil_left, List.foldl_cons, List.foldl_nil, tgN, tgT, tgT.go, tgL, mYes, wm_ret, List.headD_cons]
  refine draw_spec t 5 (by decide) _ fun m t1 ρ1 g1 g2 g3 => ?_
  simp (decide := true) only [wf_seq, wf_seqL, wf_kill, wf_expr, wf_fret, wf_retN, wf_ifS, wf_setN, wf_setV, wf_setT, wf_par, wf_augI, wf_break, wf_cont, wf_thru, wf_raise, wf_tryAs, wf_tryOn, wf_putIx, wm_step, wm_s1, wm_s2, wm_make, wm_makeL, wm_cmeth, wm_listO, wm_srcI, wm_srcG, wm_compG, wf_forG, wm_methI, wm_propI, wm_xf, wm_is, wf_skip, wf_for, wm_var, wm_c, wm_frz, wm_frN, wm_nn, wm_un, wm_bin, wm_evs_nil, wm_evs_cons, wm_n, wm_tup, wm_lst, wm_bool, wm_notB, wm_andB, wm_orB, wm_and, wm_or, wm_if, wm_chain, wm_asInt, wm_noInt, wm_sl, wm_step, wm_srcD, wm_srcN, wm_fmt, wm_js_nil, wm_js_cons, wm_tru, wm_strM, wm_mutL, wm_call, wm_comp, wc, EV.set, EV.kill, EV.kills, EV.put, EV.obj, EV.look, EV.looks, EV.objs, EV.key, EV.puts, argIx, argSl, gets, oD, oR, settled, List.set_cons_zero, List.set_cons_succ, List.getElem?_cons_zero, List.getElem?_cons_succ, List.replicate_succ, List.replicate_zero, List.map_cons, List.map_nil, List.length_cons, List.length_nil, List.nil_append, List.cons_append, Nat.reduceAdd, Nat.reduceSub, Nat.reduceLT, Nat.reduceLeDiff, List.nodup_cons, List.nodup_nil, List.not_mem_nil, not_false_eq_true, not_true_eq_false, and_self, and_true, true_and, and_false, false_and, if_true, if_false, reduceIte, Bool.false_eq_true, decide_eq_true_eq, decide_eq_false_iff_not, Bool.not_true, Bool.not_false, Bool.not_eq_true', Bool.not_eq_false', List.zip_cons_cons, List.zip_nil_right, List.zip_nil_left, List.foldl_cons, List.foldl_nil, tgN, tgT, tgT.go, tgL, mYes, wm_ret, List.headD_cons, addD, g3]
  unfold later rb__law_kinds_5
  simp (decide := true) only [wf_seq, wf_seqL, wf_kill, wf_expr, wf_fret, wf_retN, wf_ifS, wf_setN, wf_setV, wf_setT, wf_par, wf_augI, wf_break, wf_cont, wf_thru, wf_raise, wf_tryAs, wf_tryOn, wf_putIx, wm_step, wm_s1, wm_s2, wm_make, wm_makeL, wm_cmeth, wm_listO, wm_srcI, wm_srcG, wm_compG, wf_forG, wm_methI, wm_propI, wm_xf, wm_is, wf_skip, wf_for, wm_var, wm_c, wm_frz, wm_frN, wm_nn, wm_un, wm_bin, wm_evs_nil, wm_evs_cons, wm_n, wm_tup, wm_lst, wm_bool, wm_notB, wm_andB, wm_orB, wm_and, wm_or, wm_if, wm_chain, wm_asInt, wm_noInt, wm_sl, wm_step, wm_srcD, wm_srcN, wm_fmt, wm_js_nil, wm_js_cons, wm_tru, wm_strM, wm_mutL, wm_call, wm_comp, wc, EV.set, EV.kill, EV.kills, EV.put, EV.obj, EV.look, EV.looks, EV.objs, EV.key, EV.puts, argIx, argSl, gets, oD, oR, settled, List.set_cons_zero, List.set_cons_succ, List.getElem?_cons_zero, List.getElem?_cons_succ, List.replicate_succ, List.replicate_zero, List.map_cons, List.map_nil, List.length_cons, List.length_nil, List.nil_append, List.cons_append, Nat.reduceAdd, Nat.reduceSub, Nat.reduceLT, Nat.reduceLeDiff, List.nodup_cons, List.nodup_nil, List.not_mem_nil, not_false_eq_true, not_true_eq_false, and_self, and_true, true_and, and_false, false_and, if_true, if_false, reduceIte, Bool.false_eq_true, decide_eq_true_eq, decide_eq_false_iff_not, Bool.not_true, Bool.not_false, Bool.not_eq_true', Bool.not_eq_false', List.zip_cons_cons, List.zip_nil_right, List.zip_nil_left, List.foldl_cons, List.foldl_nil, tgN, tgT, tgT.go, tgL, mYes, wm_ret, List.headD_cons]
  refine draw_spec t1 42 (by decide) _ fun o t2 ρ2 g4 g5 g6 => ?_
  simp (decide := true) only [wf_seq, wf_seqL, wf_kill, wf_expr, wf_fret, wf_retN, wf_ifS, wf_setN, wf_setV, wf_setT, wf_par, wf_augI, wf_break, wf_cont, wf_thru, wf_raise, wf_tryAs, wf_tryOn, wf_putIx, wm_step, wm_s1, wm_s2, wm_make, wm_makeL, wm_cmeth, wm_listO, wm_srcI, wm_srcG, wm_compG, wf_forG, wm_methI, wm_propI, wm_xf, wm_is, wf_skip, wf_for, wm_var, wm_c, wm_frz, wm_frN, wm_nn, wm_un, wm_bin, wm_evs_nil, wm_evs_cons, wm_n, wm_tup, wm_lst, wm_bool, wm_notB, wm_andB, wm_orB, wm_and, wm_or, wm_if, wm_chain, wm_asInt, wm_noInt, wm_sl, wm_step, wm_srcD, wm_srcN, wm_fmt, wm_js_nil, wm_js_cons, wm_tru, wm_strM, wm_mutL, wm_call, wm_comp, wc, EV.set, EV.kill, EV.kills, EV.put, EV.obj, EV.look, EV.looks, EV.objs, EV.key, EV.puts, argIx, argSl, gets, oD, oR, settled, List.set_cons_zero, List.set_cons_succ, List.getElem?_cons_zero, List.getElem?_cons_succ, List.replicate_succ, List.replicate_zero, List.map_cons, List.map_nil, List.length_cons, List.length_nil, List.nil_append, List.cons_append, Nat.reduceAdd, Nat.reduceSub, Nat.reduceLT, Nat.reduceLeDiff, List.nodup_cons, List.nodup_nil, List.not_mem_nil, not_false_eq_true, not_true_eq_false, and_self, and_true, true_and, and_false, false_and, if_true, if_false, reduceIte, Bool.false_eq_true, decide_eq_true_eq, decide_eq_false_iff_not, Bool.not_true, Bool.not_false, Bool.not_eq_true', Bool.not_eq_false', List.zip_cons_cons, List.zip_nil_right, List.zip_nil_left, List.foldl_cons, List.foldl_nil, tgN, tgT, tgT.go, tgL, mYes, wm_ret, List.headD_cons, g6]
  unfold later rb__law_kinds_4
  simp (decide := true) only [wf_seq, wf_seqL, wf_kill, wf_expr, wf_fret, wf_retN, wf_ifS, wf_setN, wf_setV, wf_setT, wf_par, wf_augI, wf_break, wf_cont, wf_thru, wf_raise, wf_tryAs, wf_tryOn, wf_putIx, wm_step, wm_s1, wm_s2, wm_make, wm_makeL, wm_cmeth, wm_listO, wm_srcI, wm_srcG, wm_compG, wf_forG, wm_methI, wm_propI, wm_xf, wm_is, wf_skip, wf_for, wm_var, wm_c, wm_frz, wm_frN, wm_nn, wm_un, wm_bin, wm_evs_nil, wm_evs_cons, wm_n, wm_tup, wm_lst, wm_bool, wm_notB, wm_andB, wm_orB, wm_and, wm_or, wm_if, wm_chain, wm_asInt, wm_noInt, wm_sl, wm_step, wm_srcD, wm_srcN, wm_fmt, wm_js_nil, wm_js_cons, wm_tru, wm_strM, wm_mutL, wm_call, wm_comp, wc, EV.set, EV.kill, EV.kills, EV.put, EV.obj, EV.look, EV.looks, EV.objs, EV.key, EV.puts, argIx, argSl, gets, oD, oR, settled, List.set_cons_zero, List.set_cons_succ, List.getElem?_cons_zero, List.getElem?_cons_succ, List.replicate_succ, List.replicate_zero, List.map_cons, List.map_nil, List.length_cons, List.length_nil, List.nil_append, List.cons_append, Nat.reduceAdd, Nat.reduceSub, Nat.reduceLT, Nat.reduceLeDiff, List.nodup_cons, List.nodup_nil, List.not_mem_nil, not_false_eq_true, not_true_eq_false, and_self, and_true, true_and, and_false, false_and, if_true, if_false, reduceIte, Bool.false_eq_true, decide_eq_true_eq, decide_eq_false_iff_not, Bool.not_true, Bool.not_false, Bool.not_eq_true', Bool.not_eq_false', List.zip_cons_cons, List.zip_nil_right, List.zip_nil_left, List.foldl_cons, List.foldl_nil, tgN, tgT, tgT.go, tgL, mYes, wm_ret, List.headD_cons]
  refine draw_spec t2 5 (by decide) _ fun p t3 ρ3 g7 g8 g9 => ?_
  simp (decide := true) only [wf_seq, wf_seqL, wf_kill, wf_expr, wf_fret, wf_retN, wf_ifS, wf_setN, wf_setV, wf_setT, wf_par, wf_augI, wf_break, wf_cont, wf_thru, wf_raise, wf_tryAs, wf_tryOn, wf_putIx, wm_step, wm_s1, wm_s2, wm_make, wm_makeL, wm_cmeth, wm_listO, wm_srcI, wm_srcG, wm_compG, wf_forG, wm_methI, wm_propI, wm_xf, wm_is, wf_skip, wf_for, wm_var, wm_c, wm_frz, wm_frN, wm_nn, wm_un, wm_bin, wm_evs_nil, wm_evs_cons, wm_n, wm_tup, wm_lst, wm_bool, wm_notB, wm_andB, wm_orB, wm_and, wm_or, wm_if, wm_chain, wm_asInt, wm_noInt, wm_sl, wm_step, wm_srcD, wm_srcN, wm_fmt, wm_js_nil, wm_js_cons, wm_tru, wm_strM, wm_mutL, wm_call, wm_comp, wc, EV.set, EV.kill, EV.kills, EV.put, EV.obj, EV.look, EV.looks, EV.objs, EV.key, EV.puts, argIx, argSl, gets, oD, oR, settled, List.set_cons_zero, List.set_cons_succ, List.getElem?_cons_zero, List.getElem?_cons_succ, List.replicate_succ, List.replicate_zero, List.map_cons, List.map_nil, List.length_cons, List.length_nil, List.nil_append, List.cons_append, Nat.reduceAdd, Nat.reduceSub, Nat.reduceLT, Nat.reduceLeDiff, List.nodup_cons, List.nodup_nil, List.not_mem_nil, not_false_eq_true, not_true_eq_false, and_self, and_true, true_and, and_false, false_and, if_true, if_false, reduceIte, Bool.false_eq_true, decide_eq_true_eq, decide_eq_false_iff_not, Bool.not_true, Bool.not_false, Bool.not_eq_true', Bool.not_eq_false', List.zip_cons_cons, List.zip_nil_right, List.zip_nil_left, List.foldl_cons, List.foldl_nil, tgN, tgT, tgT.go, tgL, mYes, wm_ret, List.headD_cons, addD, g9]
  unfold later rb__law_kinds_3
  obtain ⟨n, hn⟩ : ∃ n : Nat, 1 + m = (n : Int) := ⟨(1 + m).toNat, by omega⟩
  rw [hn]
  have hr := range_nat (n := n) (by omega)
  simp (decide := true) only [wf_seq, wf_seqL, wf_kill, wf_expr, wf_fret, wf_retN, wf_ifS, wf_setN, wf_setV, wf_setT, wf_par, wf_augI, wf_break, wf_cont, wf_thru, wf_raise, wf_tryAs, wf_tryOn, wf_putIx, wm_step, wm_s1, wm_s2, wm_make, wm_makeL, wm_cmeth, wm_listO, wm_srcI, wm_srcG, wm_compG, wf_forG, wm_methI, wm_propI, wm_xf, wm_is, wf_skip, wf_for, wm_var, wm_c, wm_frz, wm_frN, wm_nn, wm_un, wm_bin, wm_evs_nil, wm_evs_cons, wm_n, wm_tup, wm_lst, wm_bool, wm_notB, wm_andB, wm_orB, wm_and, wm_or, wm_if, wm_chain, wm_asInt, wm_noInt, wm_sl, wm_step, wm_srcD, wm_srcN, wm_fmt, wm_js_nil, wm_js_cons, wm_tru, wm_strM, wm_mutL, wm_call, wm_comp, wc, EV.set, EV.kill, EV.kills, EV.put, EV.obj, EV.look, EV.looks, EV.objs, EV.key, EV.puts, argIx, argSl, gets, oD, oR, settled, List.set_cons_zero, List.set_cons_succ, List.getElem?_cons_zero, List.getElem?_cons_succ, List.replicate_succ, List.replicate_zero, List.map_cons, List.map_nil, List.length_cons, List.length_nil, List.nil_append, List.cons_append, Nat.reduceAdd, Nat.reduceSub, Nat.reduceLT, Nat.reduceLeDiff, List.nodup_cons, List.nodup_nil, List.not_mem_nil, not_false_eq_true, not_true_eq_false, and_self, and_true, true_and, and_false, false_and, if_true, if_false, reduceIte, Bool.false_eq_true, decide_eq_true_eq, decide_eq_false_iff_not, Bool.not_true, Bool.not_false, Bool.not_eq_true', Bool.not_eq_false', List.zip_cons_cons, List.zip_nil_right, List.zip_nil_left, List.foldl_cons, List.foldl_nil, tgN, tgT, tgT.go, tgL, mYes, wm_ret, List.headD_cons, hr]
  refine wf_range (fun k ρ => ∃ rs t, rs.length = k ∧ (rs.map (·.n)) = (List.range k).map (nmAt o) ∧ (∀ r ∈ rs, r.ok) ∧ ρ = ⟨[some (.par 0), some (.val (.lst (nm7.map D.str))), some (.val (.lst (wd5.map D.str))), some (.val (.int n)), some (.val (.int o)), some (.val (.int (1 + p))), some (.own (.lst (rs.map Rw.d))), none, none, none], [iL t]⟩) ?_ ?_ ⟨[], t3, rfl, rfl, (al_nil : ∀ r ∈ ([] : List Rw), r.ok), rfl⟩
  · rintro k ρ hk ⟨rs, t, rfl, hn1, hok, rfl⟩
    refine ⟨_, rfl, ?_⟩
    simp (decide := true) only [wf_seq, wf_seqL, wf_kill, wf_expr, wf_fret, wf_retN, wf_ifS, wf_setN, wf_setV, wf_setT, wf_par, wf_augI, wf_break, wf_cont, wf_thru, wf_raise, wf_tryAs, wf_tryOn, wf_putIx, wm_step, wm_s1, wm_s2, wm_make, wm_makeL, wm_cmeth, wm_listO, wm_srcI, wm_srcG, wm_compG, wf_forG, wm_methI, wm_propI, wm_xf, wm_is, wf_skip, wf_for, wm_var, wm_c, wm_frz, wm_frN, wm_nn, wm_un, wm_bin, wm_evs_nil, wm_evs_cons, wm_n, wm_tup, wm_lst, wm_bool, wm_notB, wm_andB, wm_orB, wm_and, wm_or, wm_if, wm_chain, wm_asInt, wm_noInt, wm_sl, wm_step, wm_srcD, wm_srcN, wm_fmt, wm_js_nil, wm_js_cons, wm_tru, wm_strM, wm_mutL, wm_call, wm_comp, wc, EV.set, EV.kill, EV.kills, EV.put, EV.obj, EV.look, EV.looks, EV.objs, EV.key, EV.puts, argIx, argSl, gets, oD, oR, settled, List.set_cons_zero, List.set_cons_succ, List.getElem?_cons_zero, List.getElem?_cons_succ, List.replicate_succ, List.replicate_zero, List.map_cons, List.map_nil, List.length_cons, List.length_nil, List.nil_append, List.cons_append, Nat.reduceAdd, Nat.reduceSub, Nat.reduceLT, Nat.reduceLeDiff, List.nodup_cons, List.nodup_nil, List.not_mem_nil, not_false_eq_true, not_true_eq_false, and_self, and_true, true_and, and_false, false_and, if_true, if_false, reduceIte, Bool.false_eq_true, decide_eq_true_eq, decide_eq_false_iff_not, Bool.not_true, Bool.not_false, Bool.not_eq_true', Bool.not_eq_false', List.zip_cons_cons, List.zip_nil_right, List.zip_nil_left, List.foldl_cons, List.foldl_nil, tgN, tgT, tgT.go, tgL, mYes, wm_ret, List.headD_cons]
    refine kinds_body o (1 + p) ⟨g4, g5⟩ ⟨by omega, by omega⟩ _ rs (by omega) t _ fun hh mm w t' ho a b => ?_
    simp (decide := true) only [wf_seq, wf_seqL, wf_kill, wf_expr, wf_fret, wf_retN, wf_ifS, wf_setN, wf_setV, wf_setT, wf_par, wf_augI, wf_break, wf_cont, wf_thru, wf_raise, wf_tryAs, wf_tryOn, wf_putIx, wm_step, wm_s1, wm_s2, wm_make, wm_makeL, wm_cmeth, wm_listO, wm_srcI, wm_srcG, wm_compG, wf_forG, wm_methI, wm_propI, wm_xf, wm_is, wf_skip, wf_for, wm_var, wm_c, wm_frz, wm_frN, wm_nn, wm_un, wm_bin, wm_evs_nil, wm_evs_cons, wm_n, wm_tup, wm_lst, wm_bool, wm_notB, wm_andB, wm_orB, wm_and, wm_or, wm_if, wm_chain, wm_asInt, wm_noInt, wm_sl, wm_step, wm_srcD, wm_srcN, wm_fmt, wm_js_nil, wm_js_cons, wm_tru, wm_strM, wm_mutL, wm_call, wm_comp, wc, EV.set, EV.kill, EV.kills, EV.put, EV.obj, EV.look, EV.looks, EV.objs, EV.key, EV.puts, argIx, argSl, gets, oD, oR, settled, List.set_cons_zero, List.set_cons_succ, List.getElem?_cons_zero, List.getElem?_cons_succ, List.replicate_succ, List.replicate_zero, List.map_cons, List.map_nil, List.length_cons, List.length_nil, List.nil_append, List.cons_append, Nat.reduceAdd, Nat.reduceSub, Nat.reduceLT, Nat.reduceLeDiff, List.nodup_cons, List.nodup_nil, List.not_mem_nil, not_false_eq_true, not_true_eq_false, and_self, and_true, true_and, and_false, false_and, if_true, if_false, reduceIte, Bool.false_eq_true, decide_eq_true_eq, decide_eq_false_iff_not, Bool.not_true, Bool.not_false, Bool.not_eq_true', Bool.not_eq_false', List.zip_cons_cons, List.zip_nil_right, List.zip_nil_left, List.foldl_cons, List.foldl_nil, tgN, tgT, tgT.go, tgL, mYes, wm_ret, List.headD_cons]
    refine ⟨_, t', ?_, ?_, ?_, rfl⟩
    · simp
    · rw [List.range_succ, List.map_append, List.map_append, hn1]
      rfl
    · intro r hr2
      rcases List.mem_append.mp hr2 with z | z
      · exact hok r z
      · rw [List.mem_singleton] at z
        rw [z]
        exact ho
  · rintro ρ ⟨rs, t, hl, hn1, hok, rfl⟩
    unfold later rb__law_kinds_2
    simp (decide := true) only [wf_seq, wf_seqL, wf_kill, wf_expr, wf_fret, wf_retN, wf_ifS, wf_setN, wf_setV, wf_setT, wf_par, wf_augI, wf_break, wf_cont, wf_thru, wf_raise, wf_tryAs, wf_tryOn, wf_putIx, wm_step, wm_s1, wm_s2, wm_make, wm_makeL, wm_cmeth, wm_listO, wm_srcI, wm_srcG, wm_compG, wf_forG, wm_methI, wm_propI, wm_xf, wm_is, wf_skip, wf_for, wm_var, wm_c, wm_frz, wm_frN, wm_nn, wm_un, wm_bin, wm_evs_nil, wm_evs_cons, wm_n, wm_tup, wm_lst, wm_bool, wm_notB, wm_andB, wm_orB, wm_and, wm_or, wm_if, wm_chain, wm_asInt, wm_noInt, wm_sl, wm_step, wm_srcD, wm_srcN, wm_fmt, wm_js_nil, wm_js_cons, wm_tru, wm_strM, wm_mutL, wm_call, wm_comp, wc, EV.set, EV.kill, EV.kills, EV.put, EV.obj, EV.look, EV.looks, EV.objs, EV.key, EV.puts, argIx, argSl, gets, oD, oR, settled, List.set_cons_zero, List.set_cons_succ, List.getElem?_cons_zero, List.getElem?_cons_succ, List.replicate_succ, List.replicate_zero, List.map_cons, List.map_nil, List.length_cons, List.length_nil, List.nil_append, List.cons_append, Nat.reduceAdd, Nat.reduceSub, Nat.reduceLT, Nat.reduceLeDiff, List.nodup_cons, List.nodup_nil, List.not_mem_nil, not_false_eq_true, not_true_eq_false, and_self, and_true, true_and, and_false, false_and, if_true, if_false, reduceIte, Bool.false_eq_true, decide_eq_true_eq, decide_eq_false_iff_not, Bool.not_true, Bool.not_false, Bool.not_eq_true', Bool.not_eq_false', List.zip_cons_cons, List.zip_nil_right, List.zip_nil_left, List.foldl_cons, List.foldl_nil, tgN, tgT, tgT.go, tgL, mYes, wm_ret, List.headD_cons]
    refine h rs t _ ⟨?_, hok, by omega, by omega⟩ rfl
    rw [hn1]
    exact nm_take g4 g5 (by omega)
/-! ### groups -/
def fld (r : Rw) : Nat → Str
  | 0 => r.n
  | 1 => r.h
  | _ => r.m
def role : Nat → Str
  | 0 => "kind"
  | 1 => "hall"
  | _ => "make"
def isF (rs : List Rw) (p : Nat) (w : Str) (k : Nat) : Bool := match rs[k]? with
  | some r => decide (fld r p = w)
  | none => false
def grp (rs : List Rw) (p : Nat) (w : Str) : List Nat := (List.range rs.length).filter (isF rs p w)
def nsL (l : List Nat) : D := .lst (l.map fun k => D.int (k : Nat))
theorem row_fld (r : Rw) {p : Nat} (hp : p < 3) : ixD r.d (.int (p : Nat)) = some (.v (.str (fld r p))) := by
  match p, hp with
  | 0, _ => rfl
  | 1, _ => rfl
  | 2, _ => rfl
theorem role_any {p : Nat} (hp : p < 3) : ¬ role p = "any" ∧ ¬ role p = "own" ∧ kd_PARTS.lookup (role p) = some (.int (p : Nat)) := by
  match p, hp with
  | 0, _ => exact ⟨by decide, by decide, rfl⟩
  | 1, _ => exact ⟨by decide, by decide, rfl⟩
  | 2, _ => exact ⟨by decide, by decide, rfl⟩
theorem ix_role {p : Nat} (hp : p < 3) : ixKD kd_PARTS (.str (role p)) = some (.v (.int (p : Nat))) := by
  unfold ixKD
  simp only [(role_any hp).2.2]
theorem tup0 (a : D) (l : List D) : ixD (.tup (a :: l)) (.int 0) = some (.v a) := by
  show (match atI (a :: l) 0 with | some d => some (R.v d) | none => none) = _
  rw [at0]
theorem tup1 (a b : D) (l : List D) : ixD (.tup (a :: b :: l)) (.int 1) = some (.v b) := by
  show (match atI (a :: b :: l) 1 with | some d => some (R.v d) | none => none) = _
  rw [at1]
theorem grp_len (rs : List Rw) (p : Nat) (w : Str) : (grp rs p w).length ≤ rs.length := by
  have := List.length_filter_le (isF rs p w) (List.range rs.length)
  rw [List.length_range] at this
  exact this
theorem grp_self {rs : List Rw} {k : Nat} (hk : k < rs.length) (p : Nat) : grp rs p (fld rs[k] p) ≠ [] := fun z => by
  have := List.filter_eq_nil_iff.mp z k (List.mem_range.mpr hk)
  unfold isF at this
  rw [List.getElem?_eq_getElem hk] at this
  simp at this
abbrev enumRow (rs : List Rw) (k : Nat) : D := match rs[k]? with
  | some x => D.tup [.int (k : Nat), x.d]
  | none => .non
theorem enum_rows (rs : List Rw) : (rs.map Rw.d).mapIdx (fun i d => D.tup [.int (i : Nat), d]) = (List.range rs.length).map (enumRow rs) := by
  refine List.ext_getElem? fun k => ?_
  simp only [List.getElem?_mapIdx, List.getElem?_map, enumRow]
  by_cases hk : k < rs.length
  · simp [hk, enumRow]
  · simp [hk]
theorem grp_comp {rs : List Rw} {a0 a1 a2 : Option DL.Slot} {p : Nat} {w : Str} (hp : p < 3) (hz : szOk rs.length) {Q : List D → EV → Prop} {X : XD → EV → Prop}
    (h : Q ((grp rs p w).map fun k => D.int (k : Nat)) ⟨[a0, a1, a2, some (.val (.int (p : Nat))), some (.val (.str w)), none, none, none], []⟩) :
    wm (compL [6, 7] (tgT [tgN 6, tgN 7]) (fBool (fBin eqD (fBin ixD (fVar 7) (fVar 3)) (fVar 4))) (fVar 6) ((List.range rs.length).map (enumRow rs)) []) ⟨[a0, a1, a2, some (.val (.int (p : Nat))), some (.val (.str w)), none, none, none], []⟩ Q X := by
  refine wm_compF (fun ρ' => ρ' = ⟨[a0, a1, a2, some (.val (.int (p : Nat))), some (.val (.str w)), none, none, none], []⟩) (enumRow rs) (fun k => D.int (k : Nat)) (isF rs p w) (fun k hk ρ' z => ?_) rfl (by rw [List.length_range]; exact hz) (fun ρ' z => by subst z; exact h)
  subst z
  have hk2 : k < rs.length := List.mem_range.mp hk
  have e : enumRow rs k = D.tup [.int (k : Nat), rs[k].d] := by unfold enumRow; rw [List.getElem?_eq_getElem hk2]
  have e2 : isF rs p w k = decide (fld rs[k] p = w) := by unfold isF; rw [List.getElem?_eq_getElem hk2]
  rw [e, e2]
  refine ⟨_, rfl, ?_⟩
  simp (decide := true) only [wf_seq, wf_seqL, wf_kill, wf_expr, wf_fret, wf_retN, wf_ifS, wf_setN, wf_setV, wf_setT, wf_par, wf_augI, wf_break, wf_cont, wf_thru, wf_raise, wf_tryAs, wf_tryOn, wf_putIx, wm_step, wm_s1, wm_s2, wm_make, wm_makeL, wm_cmeth, wm_listO, wm_srcI, wm_srcG, wm_compG, wf_forG, wm_methI, wm_propI, wm_xf, wm_is, wf_skip, wf_for, wm_var, wm_c, wm_frz, wm_frN, wm_nn, wm_un, wm_bin, wm_evs_nil, wm_evs_cons, wm_n, wm_tup, wm_lst, wm_bool, wm_notB, wm_andB, wm_orB, wm_and, wm_or, wm_if, wm_chain, wm_asInt, wm_noInt, wm_sl, wm_step, wm_srcD, wm_srcN, wm_fmt, wm_js_nil, wm_js_cons, wm_tru, wm_strM, wm_mutL, wm_call, wm_comp, wc, EV.set, EV.kill, EV.kills, EV.put, EV.obj, EV.look, EV.looks, EV.objs, EV.key, EV.puts, argIx, argSl, gets, oD, oR, settled, List.set_cons_zero, List.set_cons_succ, List.getElem?_cons_zero, List.getElem?_cons_succ, List.replicate_succ, List.replicate_zero, List.map_cons, List.map_nil, List.length_cons, List.length_nil, List.nil_append, List.cons_append, Nat.reduceAdd, Nat.reduceSub, Nat.reduceLT, Nat.reduceLeDiff, List.nodup_cons, List.nodup_nil, List.not_mem_nil, not_false_eq_true, not_true_eq_false, and_self, and_true, true_and, and_false, false_and, if_true, if_false, reduceIte, Bool.false_eq_true, decide_eq_true_eq, decide_eq_false_iff_not, Bool.not_true, Bool.not_false, Bool.not_eq_true', Bool.not_eq_false', List.zip_cons_cons, List.zip_nil_right, List.zip_nil_left, List.foldl_cons, List.foldl_nil, tgN, tgT, tgT.go, tgL, mYes, wm_ret, List.headD_cons, row_fld _ hp, eq_str]
  split <;> simp
theorem nsL_tru (l : List Nat) : truD (nsL l) = some (!l.isEmpty) := by
  cases l <;> rfl
theorem members_end {rs : List Rw} {p : Nat} {w : Str} (hp : p < 3) (hl : rs.length ≤ 100) (a1 a2 : Option DL.Slot) (E : Ko)
    (h : if grp rs p w = [] then ∀ ρ', E.ex ⟨"UnknownName", [("name", .str w)]⟩ ρ' else ∀ ρ', E.rt (.n (nsL (grp rs p w))) ρ') :
    later rb_Kinds_members_3 E ⟨[some (.val (KD rs)), a1, a2, some (.val (.int (p : Nat))), some (.val (.str w)), none, none, none], []⟩ := by
  unfold later rb_Kinds_members_3
  simp (decide := true) only [wf_seqZ, wf_seqL, wf_kill, wf_expr, wf_fret, wf_retN, wf_ifSZ, wf_setN, wf_setV, wf_setT, wf_par, wf_augI, wf_break, wf_cont, wf_thru, wf_raise, wf_tryAs, wf_tryOn, wf_putIx, wm_step, wm_s1, wm_s2, wm_make, wm_makeL, wm_cmeth, wm_listO, wm_srcI, wm_srcG, wm_compG, wf_forG, wm_methI, wm_propI, wm_xf, wm_is, wf_skip, wf_for, wm_var, wm_c, wm_frz, wm_frN, wm_nn, wm_un, wm_bin, wm_evs_nil, wm_evs_cons, wm_n, wm_tup, wm_lst, wm_bool, wm_notB, wm_andBZ, wm_orBZ, wm_and, wm_or, wm_if, wm_chain, wm_asInt, wm_noInt, wm_sl, wm_step, wm_srcD, wm_srcN, wm_fmt, wm_js_nil, wm_js_cons, wm_tru, wm_strM, wm_mutL, wm_call, wm_comp, wc, EV.set, EV.kill, EV.kills, EV.put, EV.obj, EV.look, EV.looks, EV.objs, EV.key, EV.puts, argIx, argSl, gets, oD, oR, settled, List.set_cons_zero, List.set_cons_succ, List.getElem?_cons_zero, List.getElem?_cons_succ, List.replicate_succ, List.replicate_zero, List.map_cons, List.map_nil, List.length_cons, List.length_nil, List.nil_append, List.cons_append, Nat.reduceAdd, Nat.reduceSub, Nat.reduceLT, Nat.reduceLeDiff, List.nodup_cons, List.nodup_nil, List.not_mem_nil, not_false_eq_true, not_true_eq_false, and_self, and_true, true_and, and_false, false_and, if_true, if_false, reduceIte, Bool.false_eq_true, decide_eq_true_eq, decide_eq_false_iff_not, Bool.not_true, Bool.not_false, Bool.not_eq_true', Bool.not_eq_false', List.zip_cons_cons, List.zip_nil_right, List.zip_nil_left, List.foldl_cons, List.foldl_nil, tgN, tgT, tgT.go, tgL, mYes, wm_ret, List.headD_cons, fld_rows, enumD, enum_rows]
  refine grp_comp hp (by unfold szOk; omega) ?_
  simp (decide := true) only [wf_seqZ, wf_seqL, wf_kill, wf_expr, wf_fret, wf_retN, wf_ifSZ, wf_setN, wf_setV, wf_setT, wf_par, wf_augI, wf_break, wf_cont, wf_thru, wf_raise, wf_tryAs, wf_tryOn, wf_putIx, wm_step, wm_s1, wm_s2, wm_make, wm_makeL, wm_cmeth, wm_listO, wm_srcI, wm_srcG, wm_compG, wf_forG, wm_methI, wm_propI, wm_xf, wm_is, wf_skip, wf_for, wm_var, wm_c, wm_frz, wm_frN, wm_nn, wm_un, wm_bin, wm_evs_nil, wm_evs_cons, wm_n, wm_tup, wm_lst, wm_bool, wm_notB, wm_andBZ, wm_orBZ, wm_and, wm_or, wm_if, wm_chain, wm_asInt, wm_noInt, wm_sl, wm_step, wm_srcD, wm_srcN, wm_fmt, wm_js_nil, wm_js_cons, wm_tru, wm_strM, wm_mutL, wm_call, wm_comp, wc, EV.set, EV.kill, EV.kills, EV.put, EV.obj, EV.look, EV.looks, EV.objs, EV.key, EV.puts, argIx, argSl, gets, oD, oR, settled, List.set_cons_zero, List.set_cons_succ, List.getElem?_cons_zero, List.getElem?_cons_succ, List.replicate_succ, List.replicate_zero, List.map_cons, List.map_nil, List.length_cons, List.length_nil, List.nil_append, List.cons_append, Nat.reduceAdd, Nat.reduceSub, Nat.reduceLT, Nat.reduceLeDiff, List.nodup_cons, List.nodup_nil, List.not_mem_nil, not_false_eq_true, not_true_eq_false, and_self, and_true, true_and, and_false, false_and, if_true, if_false, reduceIte, Bool.false_eq_true, decide_eq_true_eq, decide_eq_false_iff_not, Bool.not_true, Bool.not_false, Bool.not_eq_true', Bool.not_eq_false', List.zip_cons_cons, List.zip_nil_right, List.zip_nil_left, List.foldl_cons, List.foldl_nil, tgN, tgT, tgT.go, tgL, mYes, wm_ret, List.headD_cons]
  unfold later rb_Kinds_members_2
  have ht := nsL_tru (grp rs p w)
  unfold nsL at ht h
  simp (decide := true) only [wf_seqZ, wf_seqL, wf_kill, wf_expr, wf_fret, wf_retN, wf_ifSZ, wf_setN, wf_setV, wf_setT, wf_par, wf_augI, wf_break, wf_cont, wf_thru, wf_raise, wf_tryAs, wf_tryOn, wf_putIx, wm_step, wm_s1, wm_s2, wm_make, wm_makeL, wm_cmeth, wm_listO, wm_srcI, wm_srcG, wm_compG, wf_forG, wm_methI, wm_propI, wm_xf, wm_is, wf_skip, wf_for, wm_var, wm_c, wm_frz, wm_frN, wm_nn, wm_un, wm_bin, wm_evs_nil, wm_evs_cons, wm_n, wm_tup, wm_lst, wm_bool, wm_notB, wm_andBZ, wm_orBZ, wm_and, wm_or, wm_if, wm_chain, wm_asInt, wm_noInt, wm_sl, wm_step, wm_srcD, wm_srcN, wm_fmt, wm_js_nil, wm_js_cons, wm_tru, wm_strM, wm_mutL, wm_call, wm_comp, wc, EV.set, EV.kill, EV.kills, EV.put, EV.obj, EV.look, EV.looks, EV.objs, EV.key, EV.puts, argIx, argSl, gets, oD, oR, settled, List.set_cons_zero, List.set_cons_succ, List.getElem?_cons_zero, List.getElem?_cons_succ, List.replicate_succ, List.replicate_zero, List.map_cons, List.map_nil, List.length_cons, List.length_nil, List.nil_append, List.cons_append, Nat.reduceAdd, Nat.reduceSub, Nat.reduceLT, Nat.reduceLeDiff, List.nodup_cons, List.nodup_nil, List.not_mem_nil, not_false_eq_true, not_true_eq_false, and_self, and_true, true_and, and_false, false_and, if_true, if_false, reduceIte, Bool.false_eq_true, decide_eq_true_eq, decide_eq_false_iff_not, Bool.not_true, Bool.not_false, Bool.not_eq_true', Bool.not_eq_false', List.zip_cons_cons, List.zip_nil_right, List.zip_nil_left, List.foldl_cons, List.foldl_nil, tgN, tgT, tgT.go, tgL, mYes, wm_ret, List.headD_cons, ht]
  by_cases hg : grp rs p w = []
  · rw [if_pos hg] at h
    simp (decide := true) only [wf_seqZ, wf_seqL, wf_kill, wf_expr, wf_fret, wf_retN, wf_ifSZ, wf_setN, wf_setV, wf_setT, wf_par, wf_augI, wf_break, wf_cont, wf_thru, wf_raise, wf_tryAs, wf_tryOn, wf_putIx, wm_step, wm_s1, wm_s2, wm_make, wm_makeL, wm_cmeth, wm_listO, wm_srcI, wm_srcG, wm_compG, wf_forG, wm_methI, wm_propI, wm_xf, wm_is, wf_skip, wf_for, wm_var, wm_c, wm_frz, wm_frN, wm_nn, wm_un, wm_bin, wm_evs_nil, wm_evs_cons, wm_n, wm_tup, wm_lst, wm_bool, wm_notB, wm_andBZ, wm_orBZ, wm_and, wm_or, wm_if, wm_chain, wm_asInt, wm_noInt, wm_sl, wm_step, wm_srcD, wm_srcN, wm_fmt, wm_js_nil, wm_js_cons, wm_tru, wm_strM, wm_mutL, wm_call, wm_comp, wc, EV.set, EV.kill, EV.kills, EV.put, EV.obj, EV.look, EV.looks, EV.objs, EV.key, EV.puts, argIx, argSl, gets, oD, oR, settled, List.set_cons_zero, List.set_cons_succ, List.getElem?_cons_zero, List.getElem?_cons_succ, List.replicate_succ, List.replicate_zero, List.map_cons, List.map_nil, List.length_cons, List.length_nil, List.nil_append, List.cons_append, Nat.reduceAdd, Nat.reduceSub, Nat.reduceLT, Nat.reduceLeDiff, List.nodup_cons, List.nodup_nil, List.not_mem_nil, not_false_eq_true, not_true_eq_false, and_self, and_true, true_and, and_false, false_and, if_true, if_false, reduceIte, Bool.false_eq_true, decide_eq_true_eq, decide_eq_false_iff_not, Bool.not_true, Bool.not_false, Bool.not_eq_true', Bool.not_eq_false', List.zip_cons_cons, List.zip_nil_right, List.zip_nil_left, List.foldl_cons, List.foldl_nil, tgN, tgT, tgT.go, tgL, mYes, wm_ret, List.headD_cons, hg, List.isEmpty_nil]
    rw [later_eq]
    simp (decide := true) only [wf_seqZ, wf_seqL, wf_kill, wf_expr, wf_fret, wf_retN, wf_ifSZ, wf_setN, wf_setV, wf_setT, wf_par, wf_augI, wf_break, wf_cont, wf_thru, wf_raise, wf_tryAs, wf_tryOn, wf_putIx, wm_step, wm_s1, wm_s2, wm_make, wm_makeL, wm_cmeth, wm_listO, wm_srcI, wm_srcG, wm_compG, wf_forG, wm_methI, wm_propI, wm_xf, wm_is, wf_skip, wf_for, wm_var, wm_c, wm_frz, wm_frN, wm_nn, wm_un, wm_bin, wm_evs_nil, wm_evs_cons, wm_n, wm_tup, wm_lst, wm_bool, wm_notB, wm_andBZ, wm_orBZ, wm_and, wm_or, wm_if, wm_chain, wm_asInt, wm_noInt, wm_sl, wm_step, wm_srcD, wm_srcN, wm_fmt, wm_js_nil, wm_js_cons, wm_tru, wm_strM, wm_mutL, wm_call, wm_comp, wc, EV.set, EV.kill, EV.kills, EV.put, EV.obj, EV.look, EV.looks, EV.objs, EV.key, EV.puts, argIx, argSl, gets, oD, oR, settled, List.set_cons_zero, List.set_cons_succ, List.getElem?_cons_zero, List.getElem?_cons_succ, List.replicate_succ, List.replicate_zero, List.map_cons, List.map_nil, List.length_cons, List.length_nil, List.nil_append, List.cons_append, Nat.reduceAdd, Nat.reduceSub, Nat.reduceLT, Nat.reduceLeDiff, List.nodup_cons, List.nodup_nil, List.not_mem_nil, not_false_eq_true, not_true_eq_false, and_self, and_true, true_and, and_false, false_and, if_true, if_false, reduceIte, Bool.false_eq_true, decide_eq_true_eq, decide_eq_false_iff_not, Bool.not_true, Bool.not_false, Bool.not_eq_true', Bool.not_eq_false', List.zip_cons_cons, List.zip_nil_right, List.zip_nil_left, List.foldl_cons, List.foldl_nil, tgN, tgT, tgT.go, tgL, mYes, wm_ret, List.headD_cons]
    exact h _
  · rw [if_neg hg] at h
    have hg2 : (grp rs p w).isEmpty = false := by simpa using hg
    simp (decide := true) only [wf_seqZ, wf_seqL, wf_kill, wf_expr, wf_fret, wf_retN, wf_ifSZ, wf_setN, wf_setV, wf_setT, wf_par, wf_augI, wf_break, wf_cont, wf_thru, wf_raise, wf_tryAs, wf_tryOn, wf_putIx, wm_step, wm_s1, wm_s2, wm_make, wm_makeL, wm_cmeth, wm_listO, wm_srcI, wm_srcG, wm_compG, wf_forG, wm_methI, wm_propI, wm_xf, wm_is, wf_skip, wf_for, wm_var, wm_c, wm_frz, wm_frN, wm_nn, wm_un, wm_bin, wm_evs_nil, wm_evs_cons, wm_n, wm_tup, wm_lst, wm_bool, wm_notB, wm_andBZ, wm_orBZ, wm_and, wm_or, wm_if, wm_chain, wm_asInt, wm_noInt, wm_sl, wm_step, wm_srcD, wm_srcN, wm_fmt, wm_js_nil, wm_js_cons, wm_tru, wm_strM, wm_mutL, wm_call, wm_comp, wc, EV.set, EV.kill, EV.kills, EV.put, EV.obj, EV.look, EV.looks, EV.objs, EV.key, EV.puts, argIx, argSl, gets, oD, oR, settled, List.set_cons_zero, List.set_cons_succ, List.getElem?_cons_zero, List.getElem?_cons_succ, List.replicate_succ, List.replicate_zero, List.map_cons, List.map_nil, List.length_cons, List.length_nil, List.nil_append, List.cons_append, Nat.reduceAdd, Nat.reduceSub, Nat.reduceLT, Nat.reduceLeDiff, List.nodup_cons, List.nodup_nil, List.not_mem_nil, not_false_eq_true, not_true_eq_false, and_self, and_true, true_and, and_false, false_and, if_true, if_false, reduceIte, Bool.false_eq_true, decide_eq_true_eq, decide_eq_false_iff_not, Bool.not_true, Bool.not_false, Bool.not_eq_true', Bool.not_eq_false', List.zip_cons_cons, List.zip_nil_right, List.zip_nil_left, List.foldl_cons, List.foldl_nil, tgN, tgT, tgT.go, tgL, mYes, wm_ret, List.headD_cons, hg2]
    rw [later_eq]
    simp (decide := true) only [wf_seqZ, wf_seqL, wf_kill, wf_expr, wf_fret, wf_retN, wf_ifSZ, wf_setN, wf_setV, wf_setT, wf_par, wf_augI, wf_break, wf_cont, wf_thru, wf_raise, wf_tryAs, wf_tryOn, wf_putIx, wm_step, wm_s1, wm_s2, wm_make, wm_makeL, wm_cmeth, wm_listO, wm_srcI, wm_srcG, wm_compG, wf_forG, wm_methI, wm_propI, wm_xf, wm_is, wf_skip, wf_for, wm_var, wm_c, wm_frz, wm_frN, wm_nn, wm_un, wm_bin, wm_evs_nil, wm_evs_cons, wm_n, wm_tup, wm_lst, wm_bool, wm_notB, wm_andBZ, wm_orBZ, wm_and, wm_or, wm_if, wm_chain, wm_asInt, wm_noInt, wm_sl, wm_step, wm_srcD, wm_srcN, wm_fmt, wm_js_nil, wm_js_cons, wm_tru, wm_strM, wm_mutL, wm_call, wm_comp, wc, EV.set, EV.kill, EV.kills, EV.put, EV.obj, EV.look, EV.looks, EV.objs, EV.key, EV.puts, argIx, argSl, gets, oD, oR, settled, List.set_cons_zero, List.set_cons_succ, List.getElem?_cons_zero, List.getElem?_cons_succ, List.replicate_succ, List.replicate_zero, List.map_cons, List.map_nil, List.length_cons, List.length_nil, List.nil_append, List.cons_append, Nat.reduceAdd, Nat.reduceSub, Nat.reduceLT, Nat.reduceLeDiff, List.nodup_cons, List.nodup_nil, List.not_mem_nil, not_false_eq_true, not_true_eq_false, and_self, and_true, true_and, and_false, false_and, if_true, if_false, reduceIte, Bool.false_eq_true, decide_eq_true_eq, decide_eq_false_iff_not, Bool.not_true, Bool.not_false, Bool.not_eq_true', Bool.not_eq_false', List.zip_cons_cons, List.zip_nil_right, List.zip_nil_left, List.foldl_cons, List.foldl_nil, tgN, tgT, tgT.go, tgL, mYes, wm_ret, List.headD_cons]
    unfold later rb_Kinds_members_1
    simp (decide := true) only [wf_seqZ, wf_seqL, wf_kill, wf_expr, wf_fret, wf_retN, wf_ifSZ, wf_setN, wf_setV, wf_setT, wf_par, wf_augI, wf_break, wf_cont, wf_thru, wf_raise, wf_tryAs, wf_tryOn, wf_putIx, wm_step, wm_s1, wm_s2, wm_make, wm_makeL, wm_cmeth, wm_listO, wm_srcI, wm_srcG, wm_compG, wf_forG, wm_methI, wm_propI, wm_xf, wm_is, wf_skip, wf_for, wm_var, wm_c, wm_frz, wm_frN, wm_nn, wm_un, wm_bin, wm_evs_nil, wm_evs_cons, wm_n, wm_tup, wm_lst, wm_bool, wm_notB, wm_andBZ, wm_orBZ, wm_and, wm_or, wm_if, wm_chain, wm_asInt, wm_noInt, wm_sl, wm_step, wm_srcD, wm_srcN, wm_fmt, wm_js_nil, wm_js_cons, wm_tru, wm_strM, wm_mutL, wm_call, wm_comp, wc, EV.set, EV.kill, EV.kills, EV.put, EV.obj, EV.look, EV.looks, EV.objs, EV.key, EV.puts, argIx, argSl, gets, oD, oR, settled, List.set_cons_zero, List.set_cons_succ, List.getElem?_cons_zero, List.getElem?_cons_succ, List.replicate_succ, List.replicate_zero, List.map_cons, List.map_nil, List.length_cons, List.length_nil, List.nil_append, List.cons_append, Nat.reduceAdd, Nat.reduceSub, Nat.reduceLT, Nat.reduceLeDiff, List.nodup_cons, List.nodup_nil, List.not_mem_nil, not_false_eq_true, not_true_eq_false, and_self, and_true, true_and, and_false, false_and, if_true, if_false, reduceIte, Bool.false_eq_true, decide_eq_true_eq, decide_eq_false_iff_not, Bool.not_true, Bool.not_false, Bool.not_eq_true', Bool.not_eq_false', List.zip_cons_cons, List.zip_nil_right, List.zip_nil_left, List.foldl_cons, List.foldl_nil, tgN, tgT, tgT.go, tgL, mYes, wm_ret, List.headD_cons]
    exact h _
theorem members_any {rs : List Rw} (hl : rs.length ≤ 100) (kd : D) (E : Ko) (h : ∀ ρ', E.rt (.n (nsL (List.range rs.length))) ρ') : wf fb_Kinds_members ⟨[some (.val (KD rs)), some (.val (.tup [.str "any"])), some (.val kd), none, none, none, none, none], []⟩ E := by
  have hr := range_nat (n := rs.length) (by omega)
  have hz : szOk (rangeL 0 rs.length).length := by unfold rangeL szOk; rw [List.length_map, List.length_range]; omega
  have e : rangeL 0 rs.length = (List.range rs.length).map fun k => D.int (k : Nat) := by unfold rangeL; simp
  rw [e] at hr hz
  unfold fb_Kinds_members
  simp (decide := true) only [wf_seqZ, wf_seqL, wf_kill, wf_expr, wf_fret, wf_retN, wf_ifSZ, wf_setN, wf_setV, wf_setT, wf_par, wf_augI, wf_break, wf_cont, wf_thru, wf_raise, wf_tryAs, wf_tryOn, wf_putIx, wm_step, wm_s1, wm_s2, wm_make, wm_makeL, wm_cmeth, wm_listO, wm_srcI, wm_srcG, wm_compG, wf_forG, wm_methI, wm_propI, wm_xf, wm_is, wf_skip, wf_for, wm_var, wm_c, wm_frz, wm_frN, wm_nn, wm_un, wm_bin, wm_evs_nil, wm_evs_cons, wm_n, wm_tup, wm_lst, wm_bool, wm_notB, wm_andBZ, wm_orBZ, wm_and, wm_or, wm_if, wm_chain, wm_asInt, wm_noInt, wm_sl, wm_step, wm_srcD, wm_srcN, wm_fmt, wm_js_nil, wm_js_cons, wm_tru, wm_strM, wm_mutL, wm_call, wm_comp, wc, EV.set, EV.kill, EV.kills, EV.put, EV.obj, EV.look, EV.looks, EV.objs, EV.key, EV.puts, argIx, argSl, gets, oD, oR, settled, List.set_cons_zero, List.set_cons_succ, List.getElem?_cons_zero, List.getElem?_cons_succ, List.replicate_succ, List.replicate_zero, List.map_cons, List.map_nil, List.length_cons, List.length_nil, List.nil_append, List.cons_append, Nat.reduceAdd, Nat.reduceSub, Nat.reduceLT, Nat.reduceLeDiff, List.nodup_cons, List.nodup_nil, List.not_mem_nil, not_false_eq_true, not_true_eq_false, and_self, and_true, true_and, and_false, false_and, if_true, if_false, reduceIte, Bool.false_eq_true, decide_eq_true_eq, decide_eq_false_iff_not, Bool.not_true, Bool.not_false, Bool.not_eq_true', Bool.not_eq_false', List.zip_cons_cons, List.zip_nil_right, List.zip_nil_left, List.foldl_cons, List.foldl_nil, tgN, tgT, tgT.go, tgL, mYes, wm_ret, List.headD_cons, tup0, eq_str, decide_true]
  rw [later_eq]
  simp (decide := true) only [wf_seqZ, wf_seqL, wf_kill, wf_expr, wf_fret, wf_retN, wf_ifSZ, wf_setN, wf_setV, wf_setT, wf_par, wf_augI, wf_break, wf_cont, wf_thru, wf_raise, wf_tryAs, wf_tryOn, wf_putIx, wm_step, wm_s1, wm_s2, wm_make, wm_makeL, wm_cmeth, wm_listO, wm_srcI, wm_srcG, wm_compG, wf_forG, wm_methI, wm_propI, wm_xf, wm_is, wf_skip, wf_for, wm_var, wm_c, wm_frz, wm_frN, wm_nn, wm_un, wm_bin, wm_evs_nil, wm_evs_cons, wm_n, wm_tup, wm_lst, wm_bool, wm_notB, wm_andBZ, wm_orBZ, wm_and, wm_or, wm_if, wm_chain, wm_asInt, wm_noInt, wm_sl, wm_step, wm_srcD, wm_srcN, wm_fmt, wm_js_nil, wm_js_cons, wm_tru, wm_strM, wm_mutL, wm_call, wm_comp, wc, EV.set, EV.kill, EV.kills, EV.put, EV.obj, EV.look, EV.looks, EV.objs, EV.key, EV.puts, argIx, argSl, gets, oD, oR, settled, List.set_cons_zero, List.set_cons_succ, List.getElem?_cons_zero, List.getElem?_cons_succ, List.replicate_succ, List.replicate_zero, List.map_cons, List.map_nil, List.length_cons, List.length_nil, List.nil_append, List.cons_append, Nat.reduceAdd, Nat.reduceSub, Nat.reduceLT, Nat.reduceLeDiff, List.nodup_cons, List.nodup_nil, List.not_mem_nil, not_false_eq_true, not_true_eq_false, and_self, and_true, true_and, and_false, false_and, if_true, if_false, reduceIte, Bool.false_eq_true, decide_eq_true_eq, decide_eq_false_iff_not, Bool.not_true, Bool.not_false, Bool.not_eq_true', Bool.not_eq_false', List.zip_cons_cons, List.zip_nil_right, List.zip_nil_left, List.foldl_cons, List.foldl_nil, tgN, tgT, tgT.go, tgL, mYes, wm_ret, List.headD_cons, fld_rows, len_lst, List.length_map, wm_rgL, hr]
  refine ⟨by unfold szOk; simp; omega, h _⟩
theorem members_own {rs : List Rw} (hl : rs.length ≤ 100) {k p : Nat} (hk : k < rs.length) (hp : p < 3) (E : Ko) (h : ∀ ρ', E.rt (.n (nsL (grp rs p (fld rs[k] p)))) ρ') :
    wf fb_Kinds_members ⟨[some (.val (KD rs)), some (.val (.tup [.str "own", .str (role p)])), some (.val (.int (k : Nat))), none, none, none, none, none], []⟩ E := by
  unfold fb_Kinds_members
  simp (decide := true) only [wf_seqZ, wf_seqL, wf_kill, wf_expr, wf_fret, wf_retN, wf_ifSZ, wf_setN, wf_setV, wf_setT, wf_par, wf_augI, wf_break, wf_cont, wf_thru, wf_raise, wf_tryAs, wf_tryOn, wf_putIx, wm_step, wm_s1, wm_s2, wm_make, wm_makeL, wm_cmeth, wm_listO, wm_srcI, wm_srcG, wm_compG, wf_forG, wm_methI, wm_propI, wm_xf, wm_is, wf_skip, wf_for, wm_var, wm_c, wm_frz, wm_frN, wm_nn, wm_un, wm_bin, wm_evs_nil, wm_evs_cons, wm_n, wm_tup, wm_lst, wm_bool, wm_notB, wm_andBZ, wm_orBZ, wm_and, wm_or, wm_if, wm_chain, wm_asInt, wm_noInt, wm_sl, wm_step, wm_srcD, wm_srcN, wm_fmt, wm_js_nil, wm_js_cons, wm_tru, wm_strM, wm_mutL, wm_call, wm_comp, wc, EV.set, EV.kill, EV.kills, EV.put, EV.obj, EV.look, EV.looks, EV.objs, EV.key, EV.puts, argIx, argSl, gets, oD, oR, settled, List.set_cons_zero, List.set_cons_succ, List.getElem?_cons_zero, List.getElem?_cons_succ, List.replicate_succ, List.replicate_zero, List.map_cons, List.map_nil, List.length_cons, List.length_nil, List.nil_append, List.cons_append, Nat.reduceAdd, Nat.reduceSub, Nat.reduceLT, Nat.reduceLeDiff, List.nodup_cons, List.nodup_nil, List.not_mem_nil, not_false_eq_true, not_true_eq_false, and_self, and_true, true_and, and_false, false_and, if_true, if_false, reduceIte, Bool.false_eq_true, decide_eq_true_eq, decide_eq_false_iff_not, Bool.not_true, Bool.not_false, Bool.not_eq_true', Bool.not_eq_false', List.zip_cons_cons, List.zip_nil_right, List.zip_nil_left, List.foldl_cons, List.foldl_nil, tgN, tgT, tgT.go, tgL, mYes, wm_ret, List.headD_cons, tup0, eq_str]
  rw [later_eq]
  simp (decide := true) only [wf_seqZ, wf_seqL, wf_kill, wf_expr, wf_fret, wf_retN, wf_ifSZ, wf_setN, wf_setV, wf_setT, wf_par, wf_augI, wf_break, wf_cont, wf_thru, wf_raise, wf_tryAs, wf_tryOn, wf_putIx, wm_step, wm_s1, wm_s2, wm_make, wm_makeL, wm_cmeth, wm_listO, wm_srcI, wm_srcG, wm_compG, wf_forG, wm_methI, wm_propI, wm_xf, wm_is, wf_skip, wf_for, wm_var, wm_c, wm_frz, wm_frN, wm_nn, wm_un, wm_bin, wm_evs_nil, wm_evs_cons, wm_n, wm_tup, wm_lst, wm_bool, wm_notB, wm_andBZ, wm_orBZ, wm_and, wm_or, wm_if, wm_chain, wm_asInt, wm_noInt, wm_sl, wm_step, wm_srcD, wm_srcN, wm_fmt, wm_js_nil, wm_js_cons, wm_tru, wm_strM, wm_mutL, wm_call, wm_comp, wc, EV.set, EV.kill, EV.kills, EV.put, EV.obj, EV.look, EV.looks, EV.objs, EV.key, EV.puts, argIx, argSl, gets, oD, oR, settled, List.set_cons_zero, List.set_cons_succ, List.getElem?_cons_zero, List.getElem?_cons_succ, List.replicate_succ, List.replicate_zero, List.map_cons, List.map_nil, List.length_cons, List.length_nil, List.nil_append, List.cons_append, Nat.reduceAdd, Nat.reduceSub, Nat.reduceLT, Nat.reduceLeDiff, List.nodup_cons, List.nodup_nil, List.not_mem_nil, not_false_eq_true, not_true_eq_false, and_self, and_true, true_and, and_false, false_and, if_true, if_false, reduceIte, Bool.false_eq_true, decide_eq_true_eq, decide_eq_false_iff_not, Bool.not_true, Bool.not_false, Bool.not_eq_true', Bool.not_eq_false', List.zip_cons_cons, List.zip_nil_right, List.zip_nil_left, List.foldl_cons, List.foldl_nil, tgN, tgT, tgT.go, tgL, mYes, wm_ret, List.headD_cons]
  rw [later_eq]
  simp (decide := true) only [wf_seqZ, wf_seqL, wf_kill, wf_expr, wf_fret, wf_retN, wf_ifSZ, wf_setN, wf_setV, wf_setT, wf_par, wf_augI, wf_break, wf_cont, wf_thru, wf_raise, wf_tryAs, wf_tryOn, wf_putIx, wm_step, wm_s1, wm_s2, wm_make, wm_makeL, wm_cmeth, wm_listO, wm_srcI, wm_srcG, wm_compG, wf_forG, wm_methI, wm_propI, wm_xf, wm_is, wf_skip, wf_for, wm_var, wm_c, wm_frz, wm_frN, wm_nn, wm_un, wm_bin, wm_evs_nil, wm_evs_cons, wm_n, wm_tup, wm_lst, wm_bool, wm_notB, wm_andBZ, wm_orBZ, wm_and, wm_or, wm_if, wm_chain, wm_asInt, wm_noInt, wm_sl, wm_step, wm_srcD, wm_srcN, wm_fmt, wm_js_nil, wm_js_cons, wm_tru, wm_strM, wm_mutL, wm_call, wm_comp, wc, EV.set, EV.kill, EV.kills, EV.put, EV.obj, EV.look, EV.looks, EV.objs, EV.key, EV.puts, argIx, argSl, gets, oD, oR, settled, List.set_cons_zero, List.set_cons_succ, List.getElem?_cons_zero, List.getElem?_cons_succ, List.replicate_succ, List.replicate_zero, List.map_cons, List.map_nil, List.length_cons, List.length_nil, List.nil_append, List.cons_append, Nat.reduceAdd, Nat.reduceSub, Nat.reduceLT, Nat.reduceLeDiff, List.nodup_cons, List.nodup_nil, List.not_mem_nil, not_false_eq_true, not_true_eq_false, and_self, and_true, true_and, and_false, false_and, if_true, if_false, reduceIte, Bool.false_eq_true, decide_eq_true_eq, decide_eq_false_iff_not, Bool.not_true, Bool.not_false, Bool.not_eq_true', Bool.not_eq_false', List.zip_cons_cons, List.zip_nil_right, List.zip_nil_left, List.foldl_cons, List.foldl_nil, tgN, tgT, tgT.go, tgL, mYes, wm_ret, List.headD_cons, tup0, eq_str, decide_true]
  rw [later_eq]
  simp (decide := true) only [wf_seqZ, wf_seqL, wf_kill, wf_expr, wf_fret, wf_retN, wf_ifSZ, wf_setN, wf_setV, wf_setT, wf_par, wf_augI, wf_break, wf_cont, wf_thru, wf_raise, wf_tryAs, wf_tryOn, wf_putIx, wm_step, wm_s1, wm_s2, wm_make, wm_makeL, wm_cmeth, wm_listO, wm_srcI, wm_srcG, wm_compG, wf_forG, wm_methI, wm_propI, wm_xf, wm_is, wf_skip, wf_for, wm_var, wm_c, wm_frz, wm_frN, wm_nn, wm_un, wm_bin, wm_evs_nil, wm_evs_cons, wm_n, wm_tup, wm_lst, wm_bool, wm_notB, wm_andBZ, wm_orBZ, wm_and, wm_or, wm_if, wm_chain, wm_asInt, wm_noInt, wm_sl, wm_step, wm_srcD, wm_srcN, wm_fmt, wm_js_nil, wm_js_cons, wm_tru, wm_strM, wm_mutL, wm_call, wm_comp, wc, EV.set, EV.kill, EV.kills, EV.put, EV.obj, EV.look, EV.looks, EV.objs, EV.key, EV.puts, argIx, argSl, gets, oD, oR, settled, List.set_cons_zero, List.set_cons_succ, List.getElem?_cons_zero, List.getElem?_cons_succ, List.replicate_succ, List.replicate_zero, List.map_cons, List.map_nil, List.length_cons, List.length_nil, List.nil_append, List.cons_append, Nat.reduceAdd, Nat.reduceSub, Nat.reduceLT, Nat.reduceLeDiff, List.nodup_cons, List.nodup_nil, List.not_mem_nil, not_false_eq_true, not_true_eq_false, and_self, and_true, true_and, and_false, false_and, if_true, if_false, reduceIte, Bool.false_eq_true, decide_eq_true_eq, decide_eq_false_iff_not, Bool.not_true, Bool.not_false, Bool.not_eq_true', Bool.not_eq_false', List.zip_cons_cons, List.zip_nil_right, List.zip_nil_left, List.foldl_cons, List.foldl_nil, tgN, tgT, tgT.go, tgL, mYes, wm_ret, List.headD_cons, tup1, ix_role hp]
  rw [later_eq]
  simp (decide := true) only [wf_seqZ, wf_seqL, wf_kill, wf_expr, wf_fret, wf_retN, wf_ifSZ, wf_setN, wf_setV, wf_setT, wf_par, wf_augI, wf_break, wf_cont, wf_thru, wf_raise, wf_tryAs, wf_tryOn, wf_putIx, wm_step, wm_s1, wm_s2, wm_make, wm_makeL, wm_cmeth, wm_listO, wm_srcI, wm_srcG, wm_compG, wf_forG, wm_methI, wm_propI, wm_xf, wm_is, wf_skip, wf_for, wm_var, wm_c, wm_frz, wm_frN, wm_nn, wm_un, wm_bin, wm_evs_nil, wm_evs_cons, wm_n, wm_tup, wm_lst, wm_bool, wm_notB, wm_andBZ, wm_orBZ, wm_and, wm_or, wm_if, wm_chain, wm_asInt, wm_noInt, wm_sl, wm_step, wm_srcD, wm_srcN, wm_fmt, wm_js_nil, wm_js_cons, wm_tru, wm_strM, wm_mutL, wm_call, wm_comp, wc, EV.set, EV.kill, EV.kills, EV.put, EV.obj, EV.look, EV.looks, EV.objs, EV.key, EV.puts, argIx, argSl, gets, oD, oR, settled, List.set_cons_zero, List.set_cons_succ, List.getElem?_cons_zero, List.getElem?_cons_succ, List.replicate_succ, List.replicate_zero, List.map_cons, List.map_nil, List.length_cons, List.length_nil, List.nil_append, List.cons_append, Nat.reduceAdd, Nat.reduceSub, Nat.reduceLT, Nat.reduceLeDiff, List.nodup_cons, List.nodup_nil, List.not_mem_nil, not_false_eq_true, not_true_eq_false, and_self, and_true, true_and, and_false, false_and, if_true, if_false, reduceIte, Bool.false_eq_true, decide_eq_true_eq, decide_eq_false_iff_not, Bool.not_true, Bool.not_false, Bool.not_eq_true', Bool.not_eq_false', List.zip_cons_cons, List.zip_nil_right, List.zip_nil_left, List.foldl_cons, List.foldl_nil, tgN, tgT, tgT.go, tgL, mYes, wm_ret, List.headD_cons, fld_rows, row_at hk, row_fld _ hp]
  refine members_end hp hl _ _ _ ?_
  rw [if_neg (grp_self hk p)]
  exact h
theorem members_part {rs : List Rw} (hl : rs.length ≤ 100) {p : Nat} (hp : p < 3) (w : Str) (kd : D) (E : Ko)
    (h : if grp rs p w = [] then ∀ ρ', E.ex ⟨"UnknownName", [("name", .str w)]⟩ ρ' else ∀ ρ', E.rt (.n (nsL (grp rs p w))) ρ') :
    wf fb_Kinds_members ⟨[some (.val (KD rs)), some (.val (.tup [.str (role p), .str w])), some (.val kd), none, none, none, none, none], []⟩ E := by
  obtain ⟨n1, n2, _⟩ := role_any hp
  unfold fb_Kinds_members
  simp (decide := true) only [wf_seqZ, wf_seqL, wf_kill, wf_expr, wf_fret, wf_retN, wf_ifSZ, wf_setN, wf_setV, wf_setT, wf_par, wf_augI, wf_break, wf_cont, wf_thru, wf_raise, wf_tryAs, wf_tryOn, wf_putIx, wm_step, wm_s1, wm_s2, wm_make, wm_makeL, wm_cmeth, wm_listO, wm_srcI, wm_srcG, wm_compG, wf_forG, wm_methI, wm_propI, wm_xf, wm_is, wf_skip, wf_for, wm_var, wm_c, wm_frz, wm_frN, wm_nn, wm_un, wm_bin, wm_evs_nil, wm_evs_cons, wm_n, wm_tup, wm_lst, wm_bool, wm_notB, wm_andBZ, wm_orBZ, wm_and, wm_or, wm_if, wm_chain, wm_asInt, wm_noInt, wm_sl, wm_step, wm_srcD, wm_srcN, wm_fmt, wm_js_nil, wm_js_cons, wm_tru, wm_strM, wm_mutL, wm_call, wm_comp, wc, EV.set, EV.kill, EV.kills, EV.put, EV.obj, EV.look, EV.looks, EV.objs, EV.key, EV.puts, argIx, argSl, gets, oD, oR, settled, List.set_cons_zero, List.set_cons_succ, List.getElem?_cons_zero, List.getElem?_cons_succ, List.replicate_succ, List.replicate_zero, List.map_cons, List.map_nil, List.length_cons, List.length_nil, List.nil_append, List.cons_append, Nat.reduceAdd, Nat.reduceSub, Nat.reduceLT, Nat.reduceLeDiff, List.nodup_cons, List.nodup_nil, List.not_mem_nil, not_false_eq_true, not_true_eq_false, and_self, and_true, true_and, and_false, false_and, if_true, if_false, reduceIte, Bool.false_eq_true, decide_eq_true_eq, decide_eq_false_iff_not, Bool.not_true, Bool.not_false, Bool.not_eq_true', Bool.not_eq_false', List.zip_cons_cons, List.zip_nil_right, List.zip_nil_left, List.foldl_cons, List.foldl_nil, tgN, tgT, tgT.go, tgL, mYes, wm_ret, List.headD_cons, tup0, eq_str, n1]
  rw [later_eq]
  simp (decide := true) only [wf_seqZ, wf_seqL, wf_kill, wf_expr, wf_fret, wf_retN, wf_ifSZ, wf_setN, wf_setV, wf_setT, wf_par, wf_augI, wf_break, wf_cont, wf_thru, wf_raise, wf_tryAs, wf_tryOn, wf_putIx, wm_step, wm_s1, wm_s2, wm_make, wm_makeL, wm_cmeth, wm_listO, wm_srcI, wm_srcG, wm_compG, wf_forG, wm_methI, wm_propI, wm_xf, wm_is, wf_skip, wf_for, wm_var, wm_c, wm_frz, wm_frN, wm_nn, wm_un, wm_bin, wm_evs_nil, wm_evs_cons, wm_n, wm_tup, wm_lst, wm_bool, wm_notB, wm_andBZ, wm_orBZ, wm_and, wm_or, wm_if, wm_chain, wm_asInt, wm_noInt, wm_sl, wm_step, wm_srcD, wm_srcN, wm_fmt, wm_js_nil, wm_js_cons, wm_tru, wm_strM, wm_mutL, wm_call, wm_comp, wc, EV.set, EV.kill, EV.kills, EV.put, EV.obj, EV.look, EV.looks, EV.objs, EV.key, EV.puts, argIx, argSl, gets, oD, oR, settled, List.set_cons_zero, List.set_cons_succ, List.getElem?_cons_zero, List.getElem?_cons_succ, List.replicate_succ, List.replicate_zero, List.map_cons, List.map_nil, List.length_cons, List.length_nil, List.nil_append, List.cons_append, Nat.reduceAdd, Nat.reduceSub, Nat.reduceLT, Nat.reduceLeDiff, List.nodup_cons, List.nodup_nil, List.not_mem_nil, not_false_eq_true, not_true_eq_false, and_self, and_true, true_and, and_false, false_and, if_true, if_false, reduceIte, Bool.false_eq_true, decide_eq_true_eq, decide_eq_false_iff_not, Bool.not_true, Bool.not_false, Bool.not_eq_true', Bool.not_eq_false', List.zip_cons_cons, List.zip_nil_right, List.zip_nil_left, List.foldl_cons, List.foldl_nil, tgN, tgT, tgT.go, tgL, mYes, wm_ret, List.headD_cons]
  rw [later_eq]
  simp (decide := true) only [wf_seqZ, wf_seqL, wf_kill, wf_expr, wf_fret, wf_retN, wf_ifSZ, wf_setN, wf_setV, wf_setT, wf_par, wf_augI, wf_break, wf_cont, wf_thru, wf_raise, wf_tryAs, wf_tryOn, wf_putIx, wm_step, wm_s1, wm_s2, wm_make, wm_makeL, wm_cmeth, wm_listO, wm_srcI, wm_srcG, wm_compG, wf_forG, wm_methI, wm_propI, wm_xf, wm_is, wf_skip, wf_for, wm_var, wm_c, wm_frz, wm_frN, wm_nn, wm_un, wm_bin, wm_evs_nil, wm_evs_cons, wm_n, wm_tup, wm_lst, wm_bool, wm_notB, wm_andBZ, wm_orBZ, wm_and, wm_or, wm_if, wm_chain, wm_asInt, wm_noInt, wm_sl, wm_step, wm_srcD, wm_srcN, wm_fmt, wm_js_nil, wm_js_cons, wm_tru, wm_strM, wm_mutL, wm_call, wm_comp, wc, EV.set, EV.kill, EV.kills, EV.put, EV.obj, EV.look, EV.looks, EV.objs, EV.key, EV.puts, argIx, argSl, gets, oD, oR, settled, List.set_cons_zero, List.set_cons_succ, List.getElem?_cons_zero, List.getElem?_cons_succ, List.replicate_succ, List.replicate_zero, List.map_cons, List.map_nil, List.length_cons, List.length_nil, List.nil_append, List.cons_append, Nat.reduceAdd, Nat.reduceSub, Nat.reduceLT, Nat.reduceLeDiff, List.nodup_cons, List.nodup_nil, List.not_mem_nil, not_false_eq_true, not_true_eq_false, and_self, and_true, true_and, and_false, false_and, if_true, if_false, reduceIte, Bool.false_eq_true, decide_eq_true_eq, decide_eq_false_iff_not, Bool.not_true, Bool.not_false, Bool.not_eq_true', Bool.not_eq_false', List.zip_cons_cons, List.zip_nil_right, List.zip_nil_left, List.foldl_cons, List.foldl_nil, tgN, tgT, tgT.go, tgL, mYes, wm_ret, List.headD_cons, tup0, eq_str, n2]
  rw [later_eq]
  simp (decide := true) only [wf_seqZ, wf_seqL, wf_kill, wf_expr, wf_fret, wf_retN, wf_ifSZ, wf_setN, wf_setV, wf_setT, wf_par, wf_augI, wf_break, wf_cont, wf_thru, wf_raise, wf_tryAs, wf_tryOn, wf_putIx, wm_step, wm_s1, wm_s2, wm_make, wm_makeL, wm_cmeth, wm_listO, wm_srcI, wm_srcG, wm_compG, wf_forG, wm_methI, wm_propI, wm_xf, wm_is, wf_skip, wf_for, wm_var, wm_c, wm_frz, wm_frN, wm_nn, wm_un, wm_bin, wm_evs_nil, wm_evs_cons, wm_n, wm_tup, wm_lst, wm_bool, wm_notB, wm_andBZ, wm_orBZ, wm_and, wm_or, wm_if, wm_chain, wm_asInt, wm_noInt, wm_sl, wm_step, wm_srcD, wm_srcN, wm_fmt, wm_js_nil, wm_js_cons, wm_tru, wm_strM, wm_mutL, wm_call, wm_comp, wc, EV.set, EV.kill, EV.kills, EV.put, EV.obj, EV.look, EV.looks, EV.objs, EV.key, EV.puts, argIx, argSl, gets, oD, oR, settled, List.set_cons_zero, List.set_cons_succ, List.getElem?_cons_zero, List.getElem?_cons_succ, List.replicate_succ, List.replicate_zero, List.map_cons, List.map_nil, List.length_cons, List.length_nil, List.nil_append, List.cons_append, Nat.reduceAdd, Nat.reduceSub, Nat.reduceLT, Nat.reduceLeDiff, List.nodup_cons, List.nodup_nil, List.not_mem_nil, not_false_eq_true, not_true_eq_false, and_self, and_true, true_and, and_false, false_and, if_true, if_false, reduceIte, Bool.false_eq_true, decide_eq_true_eq, decide_eq_false_iff_not, Bool.not_true, Bool.not_false, Bool.not_eq_true', Bool.not_eq_false', List.zip_cons_cons, List.zip_nil_right, List.zip_nil_left, List.foldl_cons, List.foldl_nil, tgN, tgT, tgT.go, tgL, mYes, wm_ret, List.headD_cons, tup0, ix_role hp]
  rw [later_eq]
  simp (decide := true) only [wf_seqZ, wf_seqL, wf_kill, wf_expr, wf_fret, wf_retN, wf_ifSZ, wf_setN, wf_setV, wf_setT, wf_par, wf_augI, wf_break, wf_cont, wf_thru, wf_raise, wf_tryAs, wf_tryOn, wf_putIx, wm_step, wm_s1, wm_s2, wm_make, wm_makeL, wm_cmeth, wm_listO, wm_srcI, wm_srcG, wm_compG, wf_forG, wm_methI, wm_propI, wm_xf, wm_is, wf_skip, wf_for, wm_var, wm_c, wm_frz, wm_frN, wm_nn, wm_un, wm_bin, wm_evs_nil, wm_evs_cons, wm_n, wm_tup, wm_lst, wm_bool, wm_notB, wm_andBZ, wm_orBZ, wm_and, wm_or, wm_if, wm_chain, wm_asInt, wm_noInt, wm_sl, wm_step, wm_srcD, wm_srcN, wm_fmt, wm_js_nil, wm_js_cons, wm_tru, wm_strM, wm_mutL, wm_call, wm_comp, wc, EV.set, EV.kill, EV.kills, EV.put, EV.obj, EV.look, EV.looks, EV.objs, EV.key, EV.puts, argIx, argSl, gets, oD, oR, settled, List.set_cons_zero, List.set_cons_succ, List.getElem?_cons_zero, List.getElem?_cons_succ, List.replicate_succ, List.replicate_zero, List.map_cons, List.map_nil, List.length_cons, List.length_nil, List.nil_append, List.cons_append, Nat.reduceAdd, Nat.reduceSub, Nat.reduceLT, Nat.reduceLeDiff, List.nodup_cons, List.nodup_nil, List.not_mem_nil, not_false_eq_true, not_true_eq_false, and_self, and_true, true_and, and_false, false_and, if_true, if_false, reduceIte, Bool.false_eq_true, decide_eq_true_eq, decide_eq_false_iff_not, Bool.not_true, Bool.not_false, Bool.not_eq_true', Bool.not_eq_false', List.zip_cons_cons, List.zip_nil_right, List.zip_nil_left, List.foldl_cons, List.foldl_nil, tgN, tgT, tgT.go, tgL, mYes, wm_ret, List.headD_cons, tup1]
  exact members_end hp hl _ _ _ h
/-! ### told groups -/
theorem atI_nsL {l : List Nat} {k : Nat} (hk : k < l.length) : atI (l.map fun k => D.int (k : Nat)) (k : Int) = some (.int ((l[k] : Nat) : Int)) := atI_map (f := fun k : Nat => D.int (k : Nat)) hk
theorem right_val {l : List Nat} (hl : l.length ≤ 1000) (E : Ko) (hE : ∀ ρ', E.rt (.v (.bl true)) ρ') : wf fb__law_right_group ⟨[some (.val (nsL l)), some (.val (nsL l)), none], []⟩ E := by
  have hc := range_nat (n := l.length) (by omega)
  unfold fb__law_right_group
  simp (decide := true) only [wf_seq, wf_seqL, wf_kill, wf_expr, wf_fret, wf_retN, wf_ifS, wf_setN, wf_setV, wf_setT, wf_par, wf_augI, wf_break, wf_cont, wf_thru, wf_raise, wf_tryAs, wf_tryOn, wf_putIx, wm_step, wm_s1, wm_s2, wm_make, wm_makeL, wm_cmeth, wm_listO, wm_srcI, wm_srcG, wm_compG, wf_forG, wm_methI, wm_propI, wm_xf, wm_is, wf_skip, wf_for, wm_var, wm_c, wm_frz, wm_frN, wm_nn, wm_un, wm_bin, wm_evs_nil, wm_evs_cons, wm_n, wm_tup, wm_lst, wm_bool, wm_notB, wm_andB, wm_orB, wm_and, wm_or, wm_if, wm_chain, wm_asInt, wm_noInt, wm_sl, wm_step, wm_srcD, wm_srcN, wm_fmt, wm_js_nil, wm_js_cons, wm_tru, wm_strM, wm_mutL, wm_call, wm_comp, wc, EV.set, EV.kill, EV.kills, EV.put, EV.obj, EV.look, EV.looks, EV.objs, EV.key, EV.puts, argIx, argSl, gets, oD, oR, settled, List.set_cons_zero, List.set_cons_succ, List.getElem?_cons_zero, List.getElem?_cons_succ, List.replicate_succ, List.replicate_zero, List.map_cons, List.map_nil, List.length_cons, List.length_nil, List.nil_append, List.cons_append, Nat.reduceAdd, Nat.reduceSub, Nat.reduceLT, Nat.reduceLeDiff, List.nodup_cons, List.nodup_nil, List.not_mem_nil, not_false_eq_true, not_true_eq_false, and_self, and_true, true_and, and_false, false_and, if_true, if_false, reduceIte, Bool.false_eq_true, decide_eq_true_eq, decide_eq_false_iff_not, Bool.not_true, Bool.not_false, Bool.not_eq_true', Bool.not_eq_false', List.zip_cons_cons, List.zip_nil_right, List.zip_nil_left, List.foldl_cons, List.foldl_nil, tgN, tgT, tgT.go, tgL, mYes, wm_ret, List.headD_cons, nsL, isi_lst, len_lst, ne_int, eq_self, decide_true, List.length_map, hc]
  refine wf_range (fun _ ρ => ρ = ⟨[some (.val (nsL l)), some (.val (nsL l)), none], []⟩) ?_ ?_ rfl
  · rintro k ρ hk rfl
    refine ⟨_, rfl, ?_⟩
    unfold lb__law_right_group_1
    simp (decide := true) only [wf_seq, wf_seqL, wf_kill, wf_expr, wf_fret, wf_retN, wf_ifS, wf_setN, wf_setV, wf_setT, wf_par, wf_augI, wf_break, wf_cont, wf_thru, wf_raise, wf_tryAs, wf_tryOn, wf_putIx, wm_step, wm_s1, wm_s2, wm_make, wm_makeL, wm_cmeth, wm_listO, wm_srcI, wm_srcG, wm_compG, wf_forG, wm_methI, wm_propI, wm_xf, wm_is, wf_skip, wf_for, wm_var, wm_c, wm_frz, wm_frN, wm_nn, wm_un, wm_bin, wm_evs_nil, wm_evs_cons, wm_n, wm_tup, wm_lst, wm_bool, wm_notB, wm_andB, wm_orB, wm_and, wm_or, wm_if, wm_chain, wm_asInt, wm_noInt, wm_sl, wm_step, wm_srcD, wm_srcN, wm_fmt, wm_js_nil, wm_js_cons, wm_tru, wm_strM, wm_mutL, wm_call, wm_comp, wc, EV.set, EV.kill, EV.kills, EV.put, EV.obj, EV.look, EV.looks, EV.objs, EV.key, EV.puts, argIx, argSl, gets, oD, oR, settled, List.set_cons_zero, List.set_cons_succ, List.getElem?_cons_zero, List.getElem?_cons_succ, List.replicate_succ, List.replicate_zero, List.map_cons, List.map_nil, List.length_cons, List.length_nil, List.nil_append, List.cons_append, Nat.reduceAdd, Nat.reduceSub, Nat.reduceLT, Nat.reduceLeDiff, List.nodup_cons, List.nodup_nil, List.not_mem_nil, not_false_eq_true, not_true_eq_false, and_self, and_true, true_and, and_false, false_and, if_true, if_false, reduceIte, Bool.false_eq_true, decide_eq_true_eq, decide_eq_false_iff_not, Bool.not_true, Bool.not_false, Bool.not_eq_true', Bool.not_eq_false', List.zip_cons_cons, List.zip_nil_right, List.zip_nil_left, List.foldl_cons, List.foldl_nil, tgN, tgT, tgT.go, tgL, mYes, wm_ret, List.headD_cons, nsL, ix_lst, atI_nsL hk, isi_int, isi_intb, ne_int, eq_self, decide_true]
  · rintro ρ rfl
    unfold later rb__law_right_group_1
    simp (decide := true) only [wf_seq, wf_seqL, wf_kill, wf_expr, wf_fret, wf_retN, wf_ifS, wf_setN, wf_setV, wf_setT, wf_par, wf_augI, wf_break, wf_cont, wf_thru, wf_raise, wf_tryAs, wf_tryOn, wf_putIx, wm_step, wm_s1, wm_s2, wm_make, wm_makeL, wm_cmeth, wm_listO, wm_srcI, wm_srcG, wm_compG, wf_forG, wm_methI, wm_propI, wm_xf, wm_is, wf_skip, wf_for, wm_var, wm_c, wm_frz, wm_frN, wm_nn, wm_un, wm_bin, wm_evs_nil, wm_evs_cons, wm_n, wm_tup, wm_lst, wm_bool, wm_notB, wm_andB, wm_orB, wm_and, wm_or, wm_if, wm_chain, wm_asInt, wm_noInt, wm_sl, wm_step, wm_srcD, wm_srcN, wm_fmt, wm_js_nil, wm_js_cons, wm_tru, wm_strM, wm_mutL, wm_call, wm_comp, wc, EV.set, EV.kill, EV.kills, EV.put, EV.obj, EV.look, EV.looks, EV.objs, EV.key, EV.puts, argIx, argSl, gets, oD, oR, settled, List.set_cons_zero, List.set_cons_succ, List.getElem?_cons_zero, List.getElem?_cons_succ, List.replicate_succ, List.replicate_zero, List.map_cons, List.map_nil, List.length_cons, List.length_nil, List.nil_append, List.cons_append, Nat.reduceAdd, Nat.reduceSub, Nat.reduceLT, Nat.reduceLeDiff, List.nodup_cons, List.nodup_nil, List.not_mem_nil, not_false_eq_true, not_true_eq_false, and_self, and_true, true_and, and_false, false_and, if_true, if_false, reduceIte, Bool.false_eq_true, decide_eq_true_eq, decide_eq_false_iff_not, Bool.not_true, Bool.not_false, Bool.not_eq_true', Bool.not_eq_false', List.zip_cons_cons, List.zip_nil_right, List.zip_nil_left, List.foldl_cons, List.foldl_nil, tgN, tgT, tgT.go, tgL, mYes, wm_ret, List.headD_cons]
    exact hE _
theorem right_par {l : List Nat} (hl : l.length ≤ 1000) (E : Ko) (hE : ∀ ρ', ρ'.ps = [nsL l] → E.rt (.v (.bl true)) ρ') : wf fb__law_right_group ⟨[some (.par 0), some (.val (nsL l)), none], [nsL l]⟩ E := by
  have hc := range_nat (n := l.length) (by omega)
  unfold fb__law_right_group
  simp (decide := true) only [wf_seq, wf_seqL, wf_kill, wf_expr, wf_fret, wf_retN, wf_ifS, wf_setN, wf_setV, wf_setT, wf_par, wf_augI, wf_break, wf_cont, wf_thru, wf_raise, wf_tryAs, wf_tryOn, wf_putIx, wm_step, wm_s1, wm_s2, wm_make, wm_makeL, wm_cmeth, wm_listO, wm_srcI, wm_srcG, wm_compG, wf_forG, wm_methI, wm_propI, wm_xf, wm_is, wf_skip, wf_for, wm_var, wm_c, wm_frz, wm_frN, wm_nn, wm_un, wm_bin, wm_evs_nil, wm_evs_cons, wm_n, wm_tup, wm_lst, wm_bool, wm_notB, wm_andB, wm_orB, wm_and, wm_or, wm_if, wm_chain, wm_asInt, wm_noInt, wm_sl, wm_step, wm_srcD, wm_srcN, wm_fmt, wm_js_nil, wm_js_cons, wm_tru, wm_strM, wm_mutL, wm_call, wm_comp, wc, EV.set, EV.kill, EV.kills, EV.put, EV.obj, EV.look, EV.looks, EV.objs, EV.key, EV.puts, argIx, argSl, gets, oD, oR, settled, List.set_cons_zero, List.set_cons_succ, List.getElem?_cons_zero, List.getElem?_cons_succ, List.replicate_succ, List.replicate_zero, List.map_cons, List.map_nil, List.length_cons, List.length_nil, List.nil_append, List.cons_append, Nat.reduceAdd, Nat.reduceSub, Nat.reduceLT, Nat.reduceLeDiff, List.nodup_cons, List.nodup_nil, List.not_mem_nil, not_false_eq_true, not_true_eq_false, and_self, and_true, true_and, and_false, false_and, if_true, if_false, reduceIte, Bool.false_eq_true, decide_eq_true_eq, decide_eq_false_iff_not, Bool.not_true, Bool.not_false, Bool.not_eq_true', Bool.not_eq_false', List.zip_cons_cons, List.zip_nil_right, List.zip_nil_left, List.foldl_cons, List.foldl_nil, tgN, tgT, tgT.go, tgL, mYes, wm_ret, List.headD_cons, nsL, isi_lst, len_lst, ne_int, eq_self, decide_true, List.length_map, hc]
  refine wf_range (fun _ ρ => ρ = ⟨[some (.par 0), some (.val (nsL l)), none], [nsL l]⟩) ?_ ?_ rfl
  · rintro k ρ hk rfl
    refine ⟨_, rfl, ?_⟩
    unfold lb__law_right_group_1
    simp (decide := true) only [wf_seq, wf_seqL, wf_kill, wf_expr, wf_fret, wf_retN, wf_ifS, wf_setN, wf_setV, wf_setT, wf_par, wf_augI, wf_break, wf_cont, wf_thru, wf_raise, wf_tryAs, wf_tryOn, wf_putIx, wm_step, wm_s1, wm_s2, wm_make, wm_makeL, wm_cmeth, wm_listO, wm_srcI, wm_srcG, wm_compG, wf_forG, wm_methI, wm_propI, wm_xf, wm_is, wf_skip, wf_for, wm_var, wm_c, wm_frz, wm_frN, wm_nn, wm_un, wm_bin, wm_evs_nil, wm_evs_cons, wm_n, wm_tup, wm_lst, wm_bool, wm_notB, wm_andB, wm_orB, wm_and, wm_or, wm_if, wm_chain, wm_asInt, wm_noInt, wm_sl, wm_step, wm_srcD, wm_srcN, wm_fmt, wm_js_nil, wm_js_cons, wm_tru, wm_strM, wm_mutL, wm_call, wm_comp, wc, EV.set, EV.kill, EV.kills, EV.put, EV.obj, EV.look, EV.looks, EV.objs, EV.key, EV.puts, argIx, argSl, gets, oD, oR, settled, List.set_cons_zero, List.set_cons_succ, List.getElem?_cons_zero, List.getElem?_cons_succ, List.replicate_succ, List.replicate_zero, List.map_cons, List.map_nil, List.length_cons, List.length_nil, List.nil_append, List.cons_append, Nat.reduceAdd, Nat.reduceSub, Nat.reduceLT, Nat.reduceLeDiff, List.nodup_cons, List.nodup_nil, List.not_mem_nil, not_false_eq_true, not_true_eq_false, and_self, and_true, true_and, and_false, false_and, if_true, if_false, reduceIte, Bool.false_eq_true, decide_eq_true_eq, decide_eq_false_iff_not, Bool.not_true, Bool.not_false, Bool.not_eq_true', Bool.not_eq_false', List.zip_cons_cons, List.zip_nil_right, List.zip_nil_left, List.foldl_cons, List.foldl_nil, tgN, tgT, tgT.go, tgL, mYes, wm_ret, List.headD_cons, nsL, ix_lst, atI_nsL hk, isi_int, isi_intb, ne_int, eq_self, decide_true]
  · rintro ρ rfl
    unfold later rb__law_right_group_1
    simp (decide := true) only [wf_seq, wf_seqL, wf_kill, wf_expr, wf_fret, wf_retN, wf_ifS, wf_setN, wf_setV, wf_setT, wf_par, wf_augI, wf_break, wf_cont, wf_thru, wf_raise, wf_tryAs, wf_tryOn, wf_putIx, wm_step, wm_s1, wm_s2, wm_make, wm_makeL, wm_cmeth, wm_listO, wm_srcI, wm_srcG, wm_compG, wf_forG, wm_methI, wm_propI, wm_xf, wm_is, wf_skip, wf_for, wm_var, wm_c, wm_frz, wm_frN, wm_nn, wm_un, wm_bin, wm_evs_nil, wm_evs_cons, wm_n, wm_tup, wm_lst, wm_bool, wm_notB, wm_andB, wm_orB, wm_and, wm_or, wm_if, wm_chain, wm_asInt, wm_noInt, wm_sl, wm_step, wm_srcD, wm_srcN, wm_fmt, wm_js_nil, wm_js_cons, wm_tru, wm_strM, wm_mutL, wm_call, wm_comp, wc, EV.set, EV.kill, EV.kills, EV.put, EV.obj, EV.look, EV.looks, EV.objs, EV.key, EV.puts, argIx, argSl, gets, oD, oR, settled, List.set_cons_zero, List.set_cons_succ, List.getElem?_cons_zero, List.getElem?_cons_succ, List.replicate_succ, List.replicate_zero, List.map_cons, List.map_nil, List.length_cons, List.length_nil, List.nil_append, List.cons_append, Nat.reduceAdd, Nat.reduceSub, Nat.reduceLT, Nat.reduceLeDiff, List.nodup_cons, List.nodup_nil, List.not_mem_nil, not_false_eq_true, not_true_eq_false, and_self, and_true, true_and, and_false, false_and, if_true, if_false, reduceIte, Bool.false_eq_true, decide_eq_true_eq, decide_eq_false_iff_not, Bool.not_true, Bool.not_false, Bool.not_eq_true', Bool.not_eq_false', List.zip_cons_cons, List.zip_nil_right, List.zip_nil_left, List.foldl_cons, List.foldl_nil, tgN, tgT, tgT.go, tgL, mYes, wm_ret, List.headD_cons]
    exact hE _ rfl
theorem told_spec {rs : List Rw} {tl : D} {k : Nat} {l : List Nat} (hl : l.length ≤ 1000) (hm : ∀ E : Ko, (∀ ρ', E.rt (.n (nsL l)) ρ') → wf fb_Kinds_members ⟨[some (.val (KD rs)), some (.val tl), some (.val (.int (k : Nat))), none, none, none, none, none], []⟩ E)
    (E : Ko) (hE : ∀ ρ', E.rt (.v (.bl true)) ρ') : wf fb__law_group_told ⟨[some (.val (KD rs)), some (.val tl), some (.val (.int (k : Nat))), some (.val (nsL l)), none], []⟩ E := by
  have hz : szOk ((l.map fun k => D.int (k : Nat)).length + 1) := by rw [List.length_map]; unfold szOk; omega
  unfold fb__law_group_told
  simp (decide := true) only [wf_seqZ, wf_seqL, wf_kill, wf_expr, wf_fret, wf_retN, wf_ifSZ, wf_setN, wf_setV, wf_setT, wf_par, wf_augI, wf_break, wf_cont, wf_thru, wf_raise, wf_tryAs, wf_tryOn, wf_putIx, wm_step, wm_s1, wm_s2, wm_make, wm_makeL, wm_cmeth, wm_listO, wm_srcI, wm_srcG, wm_compG, wf_forG, wm_methI, wm_propI, wm_xf, wm_is, wf_skip, wf_for, wm_var, wm_c, wm_frz, wm_frN, wm_nn, wm_un, wm_bin, wm_evs_nil, wm_evs_cons, wm_n, wm_tup, wm_lst, wm_bool, wm_notB, wm_andBZ, wm_orBZ, wm_and, wm_or, wm_if, wm_chain, wm_asInt, wm_noInt, wm_sl, wm_step, wm_srcD, wm_srcN, wm_fmt, wm_js_nil, wm_js_cons, wm_tru, wm_strM, wm_mutL, wm_call, wm_comp, wc, EV.set, EV.kill, EV.kills, EV.put, EV.obj, EV.look, EV.looks, EV.objs, EV.key, EV.puts, argIx, argSl, gets, oD, oR, settled, List.set_cons_zero, List.set_cons_succ, List.getElem?_cons_zero, List.getElem?_cons_succ, List.replicate_succ, List.replicate_zero, List.map_cons, List.map_nil, List.length_cons, List.length_nil, List.nil_append, List.cons_append, Nat.reduceAdd, Nat.reduceSub, Nat.reduceLT, Nat.reduceLeDiff, List.nodup_cons, List.nodup_nil, List.not_mem_nil, not_false_eq_true, not_true_eq_false, and_self, and_true, true_and, and_false, false_and, if_true, if_false, reduceIte, Bool.false_eq_true, decide_eq_true_eq, decide_eq_false_iff_not, Bool.not_true, Bool.not_false, Bool.not_eq_true', Bool.not_eq_false', List.zip_cons_cons, List.zip_nil_right, List.zip_nil_left, List.foldl_cons, List.foldl_nil, tgN, tgT, tgT.go, tgL, mYes, wm_ret, List.headD_cons, ins_kd, con_rows _ (show ("members" : Str) ≠ "rows" by decide)]
  refine hm _ fun ρ1 => ?_
  simp (decide := true) only [wf_seqZ, wf_seqL, wf_kill, wf_expr, wf_fret, wf_retN, wf_ifSZ, wf_setN, wf_setV, wf_setT, wf_par, wf_augI, wf_break, wf_cont, wf_thru, wf_raise, wf_tryAs, wf_tryOn, wf_putIx, wm_step, wm_s1, wm_s2, wm_make, wm_makeL, wm_cmeth, wm_listO, wm_srcI, wm_srcG, wm_compG, wf_forG, wm_methI, wm_propI, wm_xf, wm_is, wf_skip, wf_for, wm_var, wm_c, wm_frz, wm_frN, wm_nn, wm_un, wm_bin, wm_evs_nil, wm_evs_cons, wm_n, wm_tup, wm_lst, wm_bool, wm_notB, wm_andBZ, wm_orBZ, wm_and, wm_or, wm_if, wm_chain, wm_asInt, wm_noInt, wm_sl, wm_step, wm_srcD, wm_srcN, wm_fmt, wm_js_nil, wm_js_cons, wm_tru, wm_strM, wm_mutL, wm_call, wm_comp, wc, EV.set, EV.kill, EV.kills, EV.put, EV.obj, EV.look, EV.looks, EV.objs, EV.key, EV.puts, argIx, argSl, gets, oD, oR, settled, List.set_cons_zero, List.set_cons_succ, List.getElem?_cons_zero, List.getElem?_cons_succ, List.replicate_succ, List.replicate_zero, List.map_cons, List.map_nil, List.length_cons, List.length_nil, List.nil_append, List.cons_append, Nat.reduceAdd, Nat.reduceSub, Nat.reduceLT, Nat.reduceLeDiff, List.nodup_cons, List.nodup_nil, List.not_mem_nil, not_false_eq_true, not_true_eq_false, and_self, and_true, true_and, and_false, false_and, if_true, if_false, reduceIte, Bool.false_eq_true, decide_eq_true_eq, decide_eq_false_iff_not, Bool.not_true, Bool.not_false, Bool.not_eq_true', Bool.not_eq_false', List.zip_cons_cons, List.zip_nil_right, List.zip_nil_left, List.foldl_cons, List.foldl_nil, tgN, tgT, tgT.go, tgL, mYes, wm_ret, List.headD_cons]
  unfold later rb__law_group_told_2
  simp (decide := true) only [wf_seqZ, wf_seqL, wf_kill, wf_expr, wf_fret, wf_retN, wf_ifSZ, wf_setN, wf_setV, wf_setT, wf_par, wf_augI, wf_break, wf_cont, wf_thru, wf_raise, wf_tryAs, wf_tryOn, wf_putIx, wm_step, wm_s1, wm_s2, wm_make, wm_makeL, wm_cmeth, wm_listO, wm_srcI, wm_srcG, wm_compG, wf_forG, wm_methI, wm_propI, wm_xf, wm_is, wf_skip, wf_for, wm_var, wm_c, wm_frz, wm_frN, wm_nn, wm_un, wm_bin, wm_evs_nil, wm_evs_cons, wm_n, wm_tup, wm_lst, wm_bool, wm_notB, wm_andBZ, wm_orBZ, wm_and, wm_or, wm_if, wm_chain, wm_asInt, wm_noInt, wm_sl, wm_step, wm_srcD, wm_srcN, wm_fmt, wm_js_nil, wm_js_cons, wm_tru, wm_strM, wm_mutL, wm_call, wm_comp, wc, EV.set, EV.kill, EV.kills, EV.put, EV.obj, EV.look, EV.looks, EV.objs, EV.key, EV.puts, argIx, argSl, gets, oD, oR, settled, List.set_cons_zero, List.set_cons_succ, List.getElem?_cons_zero, List.getElem?_cons_succ, List.replicate_succ, List.replicate_zero, List.map_cons, List.map_nil, List.length_cons, List.length_nil, List.nil_append, List.cons_append, Nat.reduceAdd, Nat.reduceSub, Nat.reduceLT, Nat.reduceLeDiff, List.nodup_cons, List.nodup_nil, List.not_mem_nil, not_false_eq_true, not_true_eq_false, and_self, and_true, true_and, and_false, false_and, if_true, if_false, reduceIte, Bool.false_eq_true, decide_eq_true_eq, decide_eq_false_iff_not, Bool.not_true, Bool.not_false, Bool.not_eq_true', Bool.not_eq_false', List.zip_cons_cons, List.zip_nil_right, List.zip_nil_left, List.foldl_cons, List.foldl_nil, tgN, tgT, tgT.go, tgL, mYes, wm_ret, List.headD_cons]
  refine right_par hl _ fun ρ2 hp => ?_
  simp (decide := true) only [wf_seqZ, wf_seqL, wf_kill, wf_expr, wf_fret, wf_retN, wf_ifSZ, wf_setN, wf_setV, wf_setT, wf_par, wf_augI, wf_break, wf_cont, wf_thru, wf_raise, wf_tryAs, wf_tryOn, wf_putIx, wm_step, wm_s1, wm_s2, wm_make, wm_makeL, wm_cmeth, wm_listO, wm_srcI, wm_srcG, wm_compG, wf_forG, wm_methI, wm_propI, wm_xf, wm_is, wf_skip, wf_for, wm_var, wm_c, wm_frz, wm_frN, wm_nn, wm_un, wm_bin, wm_evs_nil, wm_evs_cons, wm_n, wm_tup, wm_lst, wm_bool, wm_notB, wm_andBZ, wm_orBZ, wm_and, wm_or, wm_if, wm_chain, wm_asInt, wm_noInt, wm_sl, wm_step, wm_srcD, wm_srcN, wm_fmt, wm_js_nil, wm_js_cons, wm_tru, wm_strM, wm_mutL, wm_call, wm_comp, wc, EV.set, EV.kill, EV.kills, EV.put, EV.obj, EV.look, EV.looks, EV.objs, EV.key, EV.puts, argIx, argSl, gets, oD, oR, settled, List.set_cons_zero, List.set_cons_succ, List.getElem?_cons_zero, List.getElem?_cons_succ, List.replicate_succ, List.replicate_zero, List.map_cons, List.map_nil, List.length_cons, List.length_nil, List.nil_append, List.cons_append, Nat.reduceAdd, Nat.reduceSub, Nat.reduceLT, Nat.reduceLeDiff, List.nodup_cons, List.nodup_nil, List.not_mem_nil, not_false_eq_true, not_true_eq_false, and_self, and_true, true_and, and_false, false_and, if_true, if_false, reduceIte, Bool.false_eq_true, decide_eq_true_eq, decide_eq_false_iff_not, Bool.not_true, Bool.not_false, Bool.not_eq_true', Bool.not_eq_false', List.zip_cons_cons, List.zip_nil_right, List.zip_nil_left, List.foldl_cons, List.foldl_nil, tgN, tgT, tgT.go, tgL, mYes, wm_ret, List.headD_cons, hp]
  rw [later_eq]
  simp (decide := true) only [wf_seqZ, wf_seqL, wf_kill, wf_expr, wf_fret, wf_retN, wf_ifSZ, wf_setN, wf_setV, wf_setT, wf_par, wf_augI, wf_break, wf_cont, wf_thru, wf_raise, wf_tryAs, wf_tryOn, wf_putIx, wm_step, wm_s1, wm_s2, wm_make, wm_makeL, wm_cmeth, wm_listO, wm_srcI, wm_srcG, wm_compG, wf_forG, wm_methI, wm_propI, wm_xf, wm_is, wf_skip, wf_for, wm_var, wm_c, wm_frz, wm_frN, wm_nn, wm_un, wm_bin, wm_evs_nil, wm_evs_cons, wm_n, wm_tup, wm_lst, wm_bool, wm_notB, wm_andBZ, wm_orBZ, wm_and, wm_or, wm_if, wm_chain, wm_asInt, wm_noInt, wm_sl, wm_step, wm_srcD, wm_srcN, wm_fmt, wm_js_nil, wm_js_cons, wm_tru, wm_strM, wm_mutL, wm_call, wm_comp, wc, EV.set, EV.kill, EV.kills, EV.put, EV.obj, EV.look, EV.looks, EV.objs, EV.key, EV.puts, argIx, argSl, gets, oD, oR, settled, List.set_cons_zero, List.set_cons_succ, List.getElem?_cons_zero, List.getElem?_cons_succ, List.replicate_succ, List.replicate_zero, List.map_cons, List.map_nil, List.length_cons, List.length_nil, List.nil_append, List.cons_append, Nat.reduceAdd, Nat.reduceSub, Nat.reduceLT, Nat.reduceLeDiff, List.nodup_cons, List.nodup_nil, List.not_mem_nil, not_false_eq_true, not_true_eq_false, and_self, and_true, true_and, and_false, false_and, if_true, if_false, reduceIte, Bool.false_eq_true, decide_eq_true_eq, decide_eq_false_iff_not, Bool.not_true, Bool.not_false, Bool.not_eq_true', Bool.not_eq_false', List.zip_cons_cons, List.zip_nil_right, List.zip_nil_left, List.foldl_cons, List.foldl_nil, tgN, tgT, tgT.go, tgL, mYes, wm_ret, List.headD_cons]
  unfold later rb__law_group_told_1
  unfold nsL
  simp (decide := true) only [wf_seqZ, wf_seqL, wf_kill, wf_expr, wf_fret, wf_retN, wf_ifSZ, wf_setN, wf_setV, wf_setT, wf_par, wf_augI, wf_break, wf_cont, wf_thru, wf_raise, wf_tryAs, wf_tryOn, wf_putIx, wm_step, wm_s1, wm_s2, wm_make, wm_makeL, wm_cmeth, wm_listO, wm_srcI, wm_srcG, wm_compG, wf_forG, wm_methI, wm_propI, wm_xf, wm_is, wf_skip, wf_for, wm_var, wm_c, wm_frz, wm_frN, wm_nn, wm_un, wm_bin, wm_evs_nil, wm_evs_cons, wm_n, wm_tup, wm_lst, wm_bool, wm_notB, wm_andBZ, wm_orBZ, wm_and, wm_or, wm_if, wm_chain, wm_asInt, wm_noInt, wm_sl, wm_step, wm_srcD, wm_srcN, wm_fmt, wm_js_nil, wm_js_cons, wm_tru, wm_strM, wm_mutL, wm_call, wm_comp, wc, EV.set, EV.kill, EV.kills, EV.put, EV.obj, EV.look, EV.looks, EV.objs, EV.key, EV.puts, argIx, argSl, gets, oD, oR, settled, List.set_cons_zero, List.set_cons_succ, List.getElem?_cons_zero, List.getElem?_cons_succ, List.replicate_succ, List.replicate_zero, List.map_cons, List.map_nil, List.length_cons, List.length_nil, List.nil_append, List.cons_append, Nat.reduceAdd, Nat.reduceSub, Nat.reduceLT, Nat.reduceLeDiff, List.nodup_cons, List.nodup_nil, List.not_mem_nil, not_false_eq_true, not_true_eq_false, and_self, and_true, true_and, and_false, false_and, if_true, if_false, reduceIte, Bool.false_eq_true, decide_eq_true_eq, decide_eq_false_iff_not, Bool.not_true, Bool.not_false, Bool.not_eq_true', Bool.not_eq_false', List.zip_cons_cons, List.zip_nil_right, List.zip_nil_left, List.foldl_cons, List.foldl_nil, tgN, tgT, tgT.go, tgL, mYes, wm_ret, List.headD_cons, appendM, hz]
  rw [later_eq]
  simp (decide := true) only [wf_seqZ, wf_seqL, wf_kill, wf_expr, wf_fret, wf_retN, wf_ifSZ, wf_setN, wf_setV, wf_setT, wf_par, wf_augI, wf_break, wf_cont, wf_thru, wf_raise, wf_tryAs, wf_tryOn, wf_putIx, wm_step, wm_s1, wm_s2, wm_make, wm_makeL, wm_cmeth, wm_listO, wm_srcI, wm_srcG, wm_compG, wf_forG, wm_methI, wm_propI, wm_xf, wm_is, wf_skip, wf_for, wm_var, wm_c, wm_frz, wm_frN, wm_nn, wm_un, wm_bin, wm_evs_nil, wm_evs_cons, wm_n, wm_tup, wm_lst, wm_bool, wm_notB, wm_andBZ, wm_orBZ, wm_and, wm_or, wm_if, wm_chain, wm_asInt, wm_noInt, wm_sl, wm_step, wm_srcD, wm_srcN, wm_fmt, wm_js_nil, wm_js_cons, wm_tru, wm_strM, wm_mutL, wm_call, wm_comp, wc, EV.set, EV.kill, EV.kills, EV.put, EV.obj, EV.look, EV.looks, EV.objs, EV.key, EV.puts, argIx, argSl, gets, oD, oR, settled, List.set_cons_zero, List.set_cons_succ, List.getElem?_cons_zero, List.getElem?_cons_succ, List.replicate_succ, List.replicate_zero, List.map_cons, List.map_nil, List.length_cons, List.length_nil, List.nil_append, List.cons_append, Nat.reduceAdd, Nat.reduceSub, Nat.reduceLT, Nat.reduceLeDiff, List.nodup_cons, List.nodup_nil, List.not_mem_nil, not_false_eq_true, not_true_eq_false, and_self, and_true, true_and, and_false, false_and, if_true, if_false, reduceIte, Bool.false_eq_true, decide_eq_true_eq, decide_eq_false_iff_not, Bool.not_true, Bool.not_false, Bool.not_eq_true', Bool.not_eq_false', List.zip_cons_cons, List.zip_nil_right, List.zip_nil_left, List.foldl_cons, List.foldl_nil, tgN, tgT, tgT.go, tgL, mYes, wm_ret, List.headD_cons, ins_kd, con_rows _ (show ("members" : Str) ≠ "rows" by decide)]
  refine hm _ fun ρ3 => ?_
  simp (decide := true) only [wf_seqZ, wf_seqL, wf_kill, wf_expr, wf_fret, wf_retN, wf_ifSZ, wf_setN, wf_setV, wf_setT, wf_par, wf_augI, wf_break, wf_cont, wf_thru, wf_raise, wf_tryAs, wf_tryOn, wf_putIx, wm_step, wm_s1, wm_s2, wm_make, wm_makeL, wm_cmeth, wm_listO, wm_srcI, wm_srcG, wm_compG, wf_forG, wm_methI, wm_propI, wm_xf, wm_is, wf_skip, wf_for, wm_var, wm_c, wm_frz, wm_frN, wm_nn, wm_un, wm_bin, wm_evs_nil, wm_evs_cons, wm_n, wm_tup, wm_lst, wm_bool, wm_notB, wm_andBZ, wm_orBZ, wm_and, wm_or, wm_if, wm_chain, wm_asInt, wm_noInt, wm_sl, wm_step, wm_srcD, wm_srcN, wm_fmt, wm_js_nil, wm_js_cons, wm_tru, wm_strM, wm_mutL, wm_call, wm_comp, wc, EV.set, EV.kill, EV.kills, EV.put, EV.obj, EV.look, EV.looks, EV.objs, EV.key, EV.puts, argIx, argSl, gets, oD, oR, settled, List.set_cons_zero, List.set_cons_succ, List.getElem?_cons_zero, List.getElem?_cons_succ, List.replicate_succ, List.replicate_zero, List.map_cons, List.map_nil, List.length_cons, List.length_nil, List.nil_append, List.cons_append, Nat.reduceAdd, Nat.reduceSub, Nat.reduceLT, Nat.reduceLeDiff, List.nodup_cons, List.nodup_nil, List.not_mem_nil, not_false_eq_true, not_true_eq_false, and_self, and_true, true_and, and_false, false_and, if_true, if_false, reduceIte, Bool.false_eq_true, decide_eq_true_eq, decide_eq_false_iff_not, Bool.not_true, Bool.not_false, Bool.not_eq_true', Bool.not_eq_false', List.zip_cons_cons, List.zip_nil_right, List.zip_nil_left, List.foldl_cons, List.foldl_nil, tgN, tgT, tgT.go, tgL, mYes, wm_ret, List.headD_cons]
  refine right_val hl _ fun ρ4 => ?_
  simp (decide := true) only [wf_seqZ, wf_seqL, wf_kill, wf_expr, wf_fret, wf_retN, wf_ifSZ, wf_setN, wf_setV, wf_setT, wf_par, wf_augI, wf_break, wf_cont, wf_thru, wf_raise, wf_tryAs, wf_tryOn, wf_putIx, wm_step, wm_s1, wm_s2, wm_make, wm_makeL, wm_cmeth, wm_listO, wm_srcI, wm_srcG, wm_compG, wf_forG, wm_methI, wm_propI, wm_xf, wm_is, wf_skip, wf_for, wm_var, wm_c, wm_frz, wm_frN, wm_nn, wm_un, wm_bin, wm_evs_nil, wm_evs_cons, wm_n, wm_tup, wm_lst, wm_bool, wm_notB, wm_andBZ, wm_orBZ, wm_and, wm_or, wm_if, wm_chain, wm_asInt, wm_noInt, wm_sl, wm_step, wm_srcD, wm_srcN, wm_fmt, wm_js_nil, wm_js_cons, wm_tru, wm_strM, wm_mutL, wm_call, wm_comp, wc, EV.set, EV.kill, EV.kills, EV.put, EV.obj, EV.look, EV.looks, EV.objs, EV.key, EV.puts, argIx, argSl, gets, oD, oR, settled, List.set_cons_zero, List.set_cons_succ, List.getElem?_cons_zero, List.getElem?_cons_succ, List.replicate_succ, List.replicate_zero, List.map_cons, List.map_nil, List.length_cons, List.length_nil, List.nil_append, List.cons_append, Nat.reduceAdd, Nat.reduceSub, Nat.reduceLT, Nat.reduceLeDiff, List.nodup_cons, List.nodup_nil, List.not_mem_nil, not_false_eq_true, not_true_eq_false, and_self, and_true, true_and, and_false, false_and, if_true, if_false, reduceIte, Bool.false_eq_true, decide_eq_true_eq, decide_eq_false_iff_not, Bool.not_true, Bool.not_false, Bool.not_eq_true', Bool.not_eq_false', List.zip_cons_cons, List.zip_nil_right, List.zip_nil_left, List.foldl_cons, List.foldl_nil, tgN, tgT, tgT.go, tgL, mYes, wm_ret, List.headD_cons]
  exact hE _
theorem unknown_spec {rs : List Rw} (hl : rs.length ≤ 100) {p : Nat} (hp : p < 3) {w : Str} (hg : grp rs p w = []) (kd : D) (E : Ko) (hE : ∀ ρ', E.rt (.v (.bl true)) ρ') :
    wf fb__law_unknown_told ⟨[some (.val (KD rs)), some (.val (.tup [.str (role p), .str w])), some (.val kd), none, none], []⟩ E := by
  unfold fb__law_unknown_told
  simp (decide := true) only [wf_seqZ, wf_seqL, wf_kill, wf_expr, wf_fret, wf_retN, wf_ifSZ, wf_setN, wf_setV, wf_setT, wf_par, wf_augI, wf_break, wf_cont, wf_thru, wf_raise, wf_tryAs, wf_tryOn, wf_putIx, wm_step, wm_s1, wm_s2, wm_make, wm_makeL, wm_cmeth, wm_listO, wm_srcI, wm_srcG, wm_compG, wf_forG, wm_methI, wm_propI, wm_xf, wm_is, wf_skip, wf_for, wm_var, wm_c, wm_frz, wm_frN, wm_nn, wm_un, wm_bin, wm_evs_nil, wm_evs_cons, wm_n, wm_tup, wm_lst, wm_bool, wm_notB, wm_andBZ, wm_orBZ, wm_and, wm_or, wm_if, wm_chain, wm_asInt, wm_noInt, wm_sl, wm_step, wm_srcD, wm_srcN, wm_fmt, wm_js_nil, wm_js_cons, wm_tru, wm_strM, wm_mutL, wm_call, wm_comp, wc, EV.set, EV.kill, EV.kills, EV.put, EV.obj, EV.look, EV.looks, EV.objs, EV.key, EV.puts, argIx, argSl, gets, oD, oR, settled, List.set_cons_zero, List.set_cons_succ, List.getElem?_cons_zero, List.getElem?_cons_succ, List.replicate_succ, List.replicate_zero, List.map_cons, List.map_nil, List.length_cons, List.length_nil, List.nil_append, List.cons_append, Nat.reduceAdd, Nat.reduceSub, Nat.reduceLT, Nat.reduceLeDiff, List.nodup_cons, List.nodup_nil, List.not_mem_nil, not_false_eq_true, not_true_eq_false, and_self, and_true, true_and, and_false, false_and, if_true, if_false, reduceIte, Bool.false_eq_true, decide_eq_true_eq, decide_eq_false_iff_not, Bool.not_true, Bool.not_false, Bool.not_eq_true', Bool.not_eq_false', List.zip_cons_cons, List.zip_nil_right, List.zip_nil_left, List.foldl_cons, List.foldl_nil, tgN, tgT, tgT.go, tgL, mYes, wm_ret, List.headD_cons]
  rw [later_eq]
  simp (decide := true) only [wf_seqZ, wf_seqL, wf_kill, wf_expr, wf_fret, wf_retN, wf_ifSZ, wf_setN, wf_setV, wf_setT, wf_par, wf_augI, wf_break, wf_cont, wf_thru, wf_raise, wf_tryAs, wf_tryOn, wf_putIx, wm_step, wm_s1, wm_s2, wm_make, wm_makeL, wm_cmeth, wm_listO, wm_srcI, wm_srcG, wm_compG, wf_forG, wm_methI, wm_propI, wm_xf, wm_is, wf_skip, wf_for, wm_var, wm_c, wm_frz, wm_frN, wm_nn, wm_un, wm_bin, wm_evs_nil, wm_evs_cons, wm_n, wm_tup, wm_lst, wm_bool, wm_notB, wm_andBZ, wm_orBZ, wm_and, wm_or, wm_if, wm_chain, wm_asInt, wm_noInt, wm_sl, wm_step, wm_srcD, wm_srcN, wm_fmt, wm_js_nil, wm_js_cons, wm_tru, wm_strM, wm_mutL, wm_call, wm_comp, wc, EV.set, EV.kill, EV.kills, EV.put, EV.obj, EV.look, EV.looks, EV.objs, EV.key, EV.puts, argIx, argSl, gets, oD, oR, settled, List.set_cons_zero, List.set_cons_succ, List.getElem?_cons_zero, List.getElem?_cons_succ, List.replicate_succ, List.replicate_zero, List.map_cons, List.map_nil, List.length_cons, List.length_nil, List.nil_append, List.cons_append, Nat.reduceAdd, Nat.reduceSub, Nat.reduceLT, Nat.reduceLeDiff, List.nodup_cons, List.nodup_nil, List.not_mem_nil, not_false_eq_true, not_true_eq_false, and_self, and_true, true_and, and_false, false_and, if_true, if_false, reduceIte, Bool.false_eq_true, decide_eq_true_eq, decide_eq_false_iff_not, Bool.not_true, Bool.not_false, Bool.not_eq_true', Bool.not_eq_false', List.zip_cons_cons, List.zip_nil_right, List.zip_nil_left, List.foldl_cons, List.foldl_nil, tgN, tgT, tgT.go, tgL, mYes, wm_ret, List.headD_cons, ins_kd, con_rows _ (show ("members" : Str) ≠ "rows" by decide)]
  refine members_part hl hp w kd _ ?_
  rw [if_pos hg]
  intro ρ1
  simp (decide := true) only [wf_seqZ, wf_seqL, wf_kill, wf_expr, wf_fret, wf_retN, wf_ifSZ, wf_setN, wf_setV, wf_setT, wf_par, wf_augI, wf_break, wf_cont, wf_thru, wf_raise, wf_tryAs, wf_tryOn, wf_putIx, wm_step, wm_s1, wm_s2, wm_make, wm_makeL, wm_cmeth, wm_listO, wm_srcI, wm_srcG, wm_compG, wf_forG, wm_methI, wm_propI, wm_xf, wm_is, wf_skip, wf_for, wm_var, wm_c, wm_frz, wm_frN, wm_nn, wm_un, wm_bin, wm_evs_nil, wm_evs_cons, wm_n, wm_tup, wm_lst, wm_bool, wm_notB, wm_andBZ, wm_orBZ, wm_and, wm_or, wm_if, wm_chain, wm_asInt, wm_noInt, wm_sl, wm_step, wm_srcD, wm_srcN, wm_fmt, wm_js_nil, wm_js_cons, wm_tru, wm_strM, wm_mutL, wm_call, wm_comp, wc, EV.set, EV.kill, EV.kills, EV.put, EV.obj, EV.look, EV.looks, EV.objs, EV.key, EV.puts, argIx, argSl, gets, oD, oR, settled, List.set_cons_zero, List.set_cons_succ, List.getElem?_cons_zero, List.getElem?_cons_succ, List.replicate_succ, List.replicate_zero, List.map_cons, List.map_nil, List.length_cons, List.length_nil, List.nil_append, List.cons_append, Nat.reduceAdd, Nat.reduceSub, Nat.reduceLT, Nat.reduceLeDiff, List.nodup_cons, List.nodup_nil, List.not_mem_nil, not_false_eq_true, not_true_eq_false, and_self, and_true, true_and, and_false, false_and, if_true, if_false, reduceIte, Bool.false_eq_true, decide_eq_true_eq, decide_eq_false_iff_not, Bool.not_true, Bool.not_false, Bool.not_eq_true', Bool.not_eq_false', List.zip_cons_cons, List.zip_nil_right, List.zip_nil_left, List.foldl_cons, List.foldl_nil, tgN, tgT, tgT.go, tgL, mYes, wm_ret, List.headD_cons, noXn, lk, inL, List.all_cons, List.all_nil, Bool.and_true, Bool.true_and, Bool.and_self, List.lookup_cons, List.lookup_nil, beq_self_eq_true, List.contains_cons, Bool.or_false, Bool.or_true, Bool.true_or, List.isEmpty_cons, List.isEmpty_nil]
  unfold later rb__law_unknown_told_1
  simp (decide := true) only [wf_seqZ, wf_seqL, wf_kill, wf_expr, wf_fret, wf_retN, wf_ifSZ, wf_setN, wf_setV, wf_setT, wf_par, wf_augI, wf_break, wf_cont, wf_thru, wf_raise, wf_tryAs, wf_tryOn, wf_putIx, wm_step, wm_s1, wm_s2, wm_make, wm_makeL, wm_cmeth, wm_listO, wm_srcI, wm_srcG, wm_compG, wf_forG, wm_methI, wm_propI, wm_xf, wm_is, wf_skip, wf_for, wm_var, wm_c, wm_frz, wm_frN, wm_nn, wm_un, wm_bin, wm_evs_nil, wm_evs_cons, wm_n, wm_tup, wm_lst, wm_bool, wm_notB, wm_andBZ, wm_orBZ, wm_and, wm_or, wm_if, wm_chain, wm_asInt, wm_noInt, wm_sl, wm_step, wm_srcD, wm_srcN, wm_fmt, wm_js_nil, wm_js_cons, wm_tru, wm_strM, wm_mutL, wm_call, wm_comp, wc, EV.set, EV.kill, EV.kills, EV.put, EV.obj, EV.look, EV.looks, EV.objs, EV.key, EV.puts, argIx, argSl, gets, oD, oR, settled, List.set_cons_zero, List.set_cons_succ, List.getElem?_cons_zero, List.getElem?_cons_succ, List.replicate_succ, List.replicate_zero, List.map_cons, List.map_nil, List.length_cons, List.length_nil, List.nil_append, List.cons_append, Nat.reduceAdd, Nat.reduceSub, Nat.reduceLT, Nat.reduceLeDiff, List.nodup_cons, List.nodup_nil, List.not_mem_nil, not_false_eq_true, not_true_eq_false, and_self, and_true, true_and, and_false, false_and, if_true, if_false, reduceIte, Bool.false_eq_true, decide_eq_true_eq, decide_eq_false_iff_not, Bool.not_true, Bool.not_false, Bool.not_eq_true', Bool.not_eq_false', List.zip_cons_cons, List.zip_nil_right, List.zip_nil_left, List.foldl_cons, List.foldl_nil, tgN, tgT, tgT.go, tgL, mYes, wm_ret, List.headD_cons, isi_str, tup1, eq_str, decide_true]
  exact hE _
abbrev L5 (ns t : List Int) (rs : List Rw) (ws : List Str) (k p due w j : Option DL.Slot) : EV := ⟨[some (.val (.scr (ns.map D.int))), some (.own (iL t)), some (.val (.lst (rs.map Rw.d))), some (.val (KD rs)), some (.val (.lst [.str "kind", .str "hall", .str "make"])), some (.val (.lst (ws.map D.str))), none, k, p, due, w, j], []⟩
theorem roles_at {p : Nat} (hp : p < 3) : atI [D.str "kind", D.str "hall", D.str "make"] (p : Int) = some (.str (role p)) := by
  match p, hp with
  | 0, _ => rfl
  | 1, _ => rfl
  | 2, _ => rfl
section
variable {ns t : List Int} {rs : List Rw} {ws : List Str} {k p : Nat}
theorem word_turn (hl : rs.length ≤ 100) (hk : k < rs.length) (hp : p < 3) (w : Str) (a0 : Option DL.Slot) (E : Ko) (h : ∀ a, E.nx (L5 ns t rs ws (some (.val (.int (k : Nat)))) (some (.val (.int (p : Nat)))) a (some (.val (.str w))) none)) :
    wf lb_law_4 (L5 ns t rs ws (some (.val (.int (k : Nat)))) (some (.val (.int (p : Nat)))) a0 (some (.val (.str w))) none) E := by
  have hr := range_nat (n := rs.length) (by omega)
  unfold lb_law_4 L5
  simp (decide := true) only [wf_seqZ, wf_seqL, wf_kill, wf_expr, wf_fret, wf_retN, wf_ifSZ, wf_setN, wf_setV, wf_setT, wf_par, wf_augI, wf_break, wf_cont, wf_thru, wf_raise, wf_tryAs, wf_tryOn, wf_putIx, wm_step, wm_s1, wm_s2, wm_make, wm_makeL, wm_cmeth, wm_listO, wm_srcI, wm_srcG, wm_compG, wf_forG, wm_methI, wm_propI, wm_xf, wm_is, wf_skip, wf_for, wm_var, wm_c, wm_frz, wm_frN, wm_nn, wm_un, wm_bin, wm_evs_nil, wm_evs_cons, wm_n, wm_tup, wm_lst, wm_bool, wm_notB, wm_andBZ, wm_orBZ, wm_and, wm_or, wm_if, wm_chain, wm_asInt, wm_noInt, wm_sl, wm_step, wm_srcD, wm_srcN, wm_fmt, wm_js_nil, wm_js_cons, wm_tru, wm_strM, wm_mutL, wm_call, wm_comp, wc, EV.set, EV.kill, EV.kills, EV.put, EV.obj, EV.look, EV.looks, EV.objs, EV.key, EV.puts, argIx, argSl, gets, oD, oR, settled, List.set_cons_zero, List.set_cons_succ, List.getElem?_cons_zero, List.getElem?_cons_succ, List.replicate_succ, List.replicate_zero, List.map_cons, List.map_nil, List.length_cons, List.length_nil, List.nil_append, List.cons_append, Nat.reduceAdd, Nat.reduceSub, Nat.reduceLT, Nat.reduceLeDiff, List.nodup_cons, List.nodup_nil, List.not_mem_nil, not_false_eq_true, not_true_eq_false, and_self, and_true, true_and, and_false, false_and, if_true, if_false, reduceIte, Bool.false_eq_true, decide_eq_true_eq, decide_eq_false_iff_not, Bool.not_true, Bool.not_false, Bool.not_eq_true', Bool.not_eq_false', List.zip_cons_cons, List.zip_nil_right, List.zip_nil_left, List.foldl_cons, List.foldl_nil, tgN, tgT, tgT.go, tgL, mYes, wm_ret, List.headD_cons, len_lst, List.length_map, hr]
  unfold rangeL
  refine wm_compF (l := List.range rs.length) (fun ρ' => ρ' = L5 ns t rs ws (some (.val (.int (k : Nat)))) (some (.val (.int (p : Nat)))) a0 (some (.val (.str w))) none) _ (fun j => D.int (j : Nat)) (isF rs p w) (fun j hj ρ' z => ?_) rfl (by rw [List.length_range]; unfold szOk; omega) (fun ρ' z => ?_)
  · subst z
    have hj2 : j < rs.length := List.mem_range.mp hj
    have e2 : isF rs p w j = decide (fld rs[j] p = w) := by unfold isF; rw [List.getElem?_eq_getElem hj2]
    rw [e2, Int.zero_add]
    refine ⟨_, rfl, ?_⟩
    simp (decide := true) only [wf_seq, wf_seqL, wf_kill, wf_expr, wf_fret, wf_retN, wf_ifS, wf_setN, wf_setV, wf_setT, wf_par, wf_augI, wf_break, wf_cont, wf_thru, wf_raise, wf_tryAs, wf_tryOn, wf_putIx, wm_step, wm_s1, wm_s2, wm_make, wm_makeL, wm_cmeth, wm_listO, wm_srcI, wm_srcG, wm_compG, wf_forG, wm_methI, wm_propI, wm_xf, wm_is, wf_skip, wf_for, wm_var, wm_c, wm_frz, wm_frN, wm_nn, wm_un, wm_bin, wm_evs_nil, wm_evs_cons, wm_n, wm_tup, wm_lst, wm_bool, wm_notB, wm_andB, wm_orB, wm_and, wm_or, wm_if, wm_chain, wm_asInt, wm_noInt, wm_sl, wm_step, wm_srcD, wm_srcN, wm_fmt, wm_js_nil, wm_js_cons, wm_tru, wm_strM, wm_mutL, wm_call, wm_comp, wc, EV.set, EV.kill, EV.kills, EV.put, EV.obj, EV.look, EV.looks, EV.objs, EV.key, EV.puts, argIx, argSl, gets, oD, oR, settled, List.set_cons_zero, List.set_cons_succ, List.getElem?_cons_zero, List.getElem?_cons_succ, List.replicate_succ, List.replicate_zero, List.map_cons, List.map_nil, List.length_cons, List.length_nil, List.nil_append, List.cons_append, Nat.reduceAdd, Nat.reduceSub, Nat.reduceLT, Nat.reduceLeDiff, List.nodup_cons, List.nodup_nil, List.not_mem_nil, not_false_eq_true, not_true_eq_false, and_self, and_true, true_and, and_false, false_and, if_true, if_false, reduceIte, Bool.false_eq_true, decide_eq_true_eq, decide_eq_false_iff_not, Bool.not_true, Bool.not_false, Bool.not_eq_true', Bool.not_eq_false', List.zip_cons_cons, List.zip_nil_right, List.zip_nil_left, List.foldl_cons, List.foldl_nil, tgN, tgT, tgT.go, tgL, mYes, wm_ret, List.headD_cons, L5, row_at hj2, row_fld _ hp, eq_str]
    split <;> simp
  · subst z
    have hgl := grp_len rs p w
    have hun := unknown_spec (rs := rs) hl hp (w := w)
    have hm := members_part (rs := rs) hl hp w
    show later rb_law_2 E (L5 ns t rs ws (some (.val (.int (k : Nat)))) (some (.val (.int (p : Nat)))) (some (.val (nsL (grp rs p w)))) (some (.val (.str w))) none)
    have hro := roles_at hp
    have hh := h (some (.val (nsL (grp rs p w))))
    unfold L5 at hh ⊢
    generalize grp rs p w = g at hgl hun hm hh ⊢
    have hln : lenD [nsL g] = some (.v (.int g.length)) := by unfold nsL; rw [len_lst, List.length_map]
    unfold later rb_law_2
    simp (decide := true) only [wf_seqZ, wf_seqL, wf_kill, wf_expr, wf_fret, wf_retN, wf_ifSZ, wf_setN, wf_setV, wf_setT, wf_par, wf_augI, wf_break, wf_cont, wf_thru, wf_raise, wf_tryAs, wf_tryOn, wf_putIx, wm_step, wm_s1, wm_s2, wm_make, wm_makeL, wm_cmeth, wm_listO, wm_srcI, wm_srcG, wm_compG, wf_forG, wm_methI, wm_propI, wm_xf, wm_is, wf_skip, wf_for, wm_var, wm_c, wm_frz, wm_frN, wm_nn, wm_un, wm_bin, wm_evs_nil, wm_evs_cons, wm_n, wm_tup, wm_lst, wm_bool, wm_notB, wm_andBZ, wm_orBZ, wm_and, wm_or, wm_if, wm_chain, wm_asInt, wm_noInt, wm_sl, wm_step, wm_srcD, wm_srcN, wm_fmt, wm_js_nil, wm_js_cons, wm_tru, wm_strM, wm_mutL, wm_call, wm_comp, wc, EV.set, EV.kill, EV.kills, EV.put, EV.obj, EV.look, EV.looks, EV.objs, EV.key, EV.puts, argIx, argSl, gets, oD, oR, settled, List.set_cons_zero, List.set_cons_succ, List.getElem?_cons_zero, List.getElem?_cons_succ, List.replicate_succ, List.replicate_zero, List.map_cons, List.map_nil, List.length_cons, List.length_nil, List.nil_append, List.cons_append, Nat.reduceAdd, Nat.reduceSub, Nat.reduceLT, Nat.reduceLeDiff, List.nodup_cons, List.nodup_nil, List.not_mem_nil, not_false_eq_true, not_true_eq_false, and_self, and_true, true_and, and_false, false_and, if_true, if_false, reduceIte, Bool.false_eq_true, decide_eq_true_eq, decide_eq_false_iff_not, Bool.not_true, Bool.not_false, Bool.not_eq_true', Bool.not_eq_false', List.zip_cons_cons, List.zip_nil_right, List.zip_nil_left, List.foldl_cons, List.foldl_nil, tgN, tgT, tgT.go, tgL, mYes, wm_ret, List.headD_cons, hln, cmpD]
    by_cases h0 : (0 : Int) < (g.length : Nat)
    · have hg : g ≠ [] := fun z => by subst z; simp at h0
      simp (decide := true) only [wf_seqZ, wf_seqL, wf_kill, wf_expr, wf_fret, wf_retN, wf_ifSZ, wf_setN, wf_setV, wf_setT, wf_par, wf_augI, wf_break, wf_cont, wf_thru, wf_raise, wf_tryAs, wf_tryOn, wf_putIx, wm_step, wm_s1, wm_s2, wm_make, wm_makeL, wm_cmeth, wm_listO, wm_srcI, wm_srcG, wm_compG, wf_forG, wm_methI, wm_propI, wm_xf, wm_is, wf_skip, wf_for, wm_var, wm_c, wm_frz, wm_frN, wm_nn, wm_un, wm_bin, wm_evs_nil, wm_evs_cons, wm_n, wm_tup, wm_lst, wm_bool, wm_notB, wm_andBZ, wm_orBZ, wm_and, wm_or, wm_if, wm_chain, wm_asInt, wm_noInt, wm_sl, wm_step, wm_srcD, wm_srcN, wm_fmt, wm_js_nil, wm_js_cons, wm_tru, wm_strM, wm_mutL, wm_call, wm_comp, wc, EV.set, EV.kill, EV.kills, EV.put, EV.obj, EV.look, EV.looks, EV.objs, EV.key, EV.puts, argIx, argSl, gets, oD, oR, settled, List.set_cons_zero, List.set_cons_succ, List.getElem?_cons_zero, List.getElem?_cons_succ, List.replicate_succ, List.replicate_zero, List.map_cons, List.map_nil, List.length_cons, List.length_nil, List.nil_append, List.cons_append, Nat.reduceAdd, Nat.reduceSub, Nat.reduceLT, Nat.reduceLeDiff, List.nodup_cons, List.nodup_nil, List.not_mem_nil, not_false_eq_true, not_true_eq_false, and_self, and_true, true_and, and_false, false_and, if_true, if_false, reduceIte, Bool.false_eq_true, decide_eq_true_eq, decide_eq_false_iff_not, Bool.not_true, Bool.not_false, Bool.not_eq_true', Bool.not_eq_false', List.zip_cons_cons, List.zip_nil_right, List.zip_nil_left, List.foldl_cons, List.foldl_nil, tgN, tgT, tgT.go, tgL, mYes, wm_ret, List.headD_cons, h0]
      rw [laterM_eq]
      simp (decide := true) only [wf_seqZ, wf_seqL, wf_kill, wf_expr, wf_fret, wf_retN, wf_ifSZ, wf_setN, wf_setV, wf_setT, wf_par, wf_augI, wf_break, wf_cont, wf_thru, wf_raise, wf_tryAs, wf_tryOn, wf_putIx, wm_step, wm_s1, wm_s2, wm_make, wm_makeL, wm_cmeth, wm_listO, wm_srcI, wm_srcG, wm_compG, wf_forG, wm_methI, wm_propI, wm_xf, wm_is, wf_skip, wf_for, wm_var, wm_c, wm_frz, wm_frN, wm_nn, wm_un, wm_bin, wm_evs_nil, wm_evs_cons, wm_n, wm_tup, wm_lst, wm_bool, wm_notB, wm_andBZ, wm_orBZ, wm_and, wm_or, wm_if, wm_chain, wm_asInt, wm_noInt, wm_sl, wm_step, wm_srcD, wm_srcN, wm_fmt, wm_js_nil, wm_js_cons, wm_tru, wm_strM, wm_mutL, wm_call, wm_comp, wc, EV.set, EV.kill, EV.kills, EV.put, EV.obj, EV.look, EV.looks, EV.objs, EV.key, EV.puts, argIx, argSl, gets, oD, oR, settled, List.set_cons_zero, List.set_cons_succ, List.getElem?_cons_zero, List.getElem?_cons_succ, List.replicate_succ, List.replicate_zero, List.map_cons, List.map_nil, List.length_cons, List.length_nil, List.nil_append, List.cons_append, Nat.reduceAdd, Nat.reduceSub, Nat.reduceLT, Nat.reduceLeDiff, List.nodup_cons, List.nodup_nil, List.not_mem_nil, not_false_eq_true, not_true_eq_false, and_self, and_true, true_and, and_false, false_and, if_true, if_false, reduceIte, Bool.false_eq_true, decide_eq_true_eq, decide_eq_false_iff_not, Bool.not_true, Bool.not_false, Bool.not_eq_true', Bool.not_eq_false', List.zip_cons_cons, List.zip_nil_right, List.zip_nil_left, List.foldl_cons, List.foldl_nil, tgN, tgT, tgT.go, tgL, mYes, wm_ret, List.headD_cons, ix_lst, hro, szOk]
      refine told_spec (by omega) (fun E' hE' => hm _ E' ?_) _ fun ρ2 => ?_
      · rw [if_neg hg]
        exact hE'
      · simp (decide := true) only [wf_seqZ, wf_seqL, wf_kill, wf_expr, wf_fret, wf_retN, wf_ifSZ, wf_setN, wf_setV, wf_setT, wf_par, wf_augI, wf_break, wf_cont, wf_thru, wf_raise, wf_tryAs, wf_tryOn, wf_putIx, wm_step, wm_s1, wm_s2, wm_make, wm_makeL, wm_cmeth, wm_listO, wm_srcI, wm_srcG, wm_compG, wf_forG, wm_methI, wm_propI, wm_xf, wm_is, wf_skip, wf_for, wm_var, wm_c, wm_frz, wm_frN, wm_nn, wm_un, wm_bin, wm_evs_nil, wm_evs_cons, wm_n, wm_tup, wm_lst, wm_bool, wm_notB, wm_andBZ, wm_orBZ, wm_and, wm_or, wm_if, wm_chain, wm_asInt, wm_noInt, wm_sl, wm_step, wm_srcD, wm_srcN, wm_fmt, wm_js_nil, wm_js_cons, wm_tru, wm_strM, wm_mutL, wm_call, wm_comp, wc, EV.set, EV.kill, EV.kills, EV.put, EV.obj, EV.look, EV.looks, EV.objs, EV.key, EV.puts, argIx, argSl, gets, oD, oR, settled, List.set_cons_zero, List.set_cons_succ, List.getElem?_cons_zero, List.getElem?_cons_succ, List.replicate_succ, List.replicate_zero, List.map_cons, List.map_nil, List.length_cons, List.length_nil, List.nil_append, List.cons_append, Nat.reduceAdd, Nat.reduceSub, Nat.reduceLT, Nat.reduceLeDiff, List.nodup_cons, List.nodup_nil, List.not_mem_nil, not_false_eq_true, not_true_eq_false, and_self, and_true, true_and, and_false, false_and, if_true, if_false, reduceIte, Bool.false_eq_true, decide_eq_true_eq, decide_eq_false_iff_not, Bool.not_true, Bool.not_false, Bool.not_eq_true', Bool.not_eq_false', List.zip_cons_cons, List.zip_nil_right, List.zip_nil_left, List.foldl_cons, List.foldl_nil, tgN, tgT, tgT.go, tgL, mYes, wm_ret, List.headD_cons]
        rw [later_eq]
        simp (decide := true) only [wf_seqZ, wf_seqL, wf_kill, wf_expr, wf_fret, wf_retN, wf_ifSZ, wf_setN, wf_setV, wf_setT, wf_par, wf_augI, wf_break, wf_cont, wf_thru, wf_raise, wf_tryAs, wf_tryOn, wf_putIx, wm_step, wm_s1, wm_s2, wm_make, wm_makeL, wm_cmeth, wm_listO, wm_srcI, wm_srcG, wm_compG, wf_forG, wm_methI, wm_propI, wm_xf, wm_is, wf_skip, wf_for, wm_var, wm_c, wm_frz, wm_frN, wm_nn, wm_un, wm_bin, wm_evs_nil, wm_evs_cons, wm_n, wm_tup, wm_lst, wm_bool, wm_notB, wm_andBZ, wm_orBZ, wm_and, wm_or, wm_if, wm_chain, wm_asInt, wm_noInt, wm_sl, wm_step, wm_srcD, wm_srcN, wm_fmt, wm_js_nil, wm_js_cons, wm_tru, wm_strM, wm_mutL, wm_call, wm_comp, wc, EV.set, EV.kill, EV.kills, EV.put, EV.obj, EV.look, EV.looks, EV.objs, EV.key, EV.puts, argIx, argSl, gets, oD, oR, settled, List.set_cons_zero, List.set_cons_succ, List.getElem?_cons_zero, List.getElem?_cons_succ, List.replicate_succ, List.replicate_zero, List.map_cons, List.map_nil, List.length_cons, List.length_nil, List.nil_append, List.cons_append, Nat.reduceAdd, Nat.reduceSub, Nat.reduceLT, Nat.reduceLeDiff, List.nodup_cons, List.nodup_nil, List.not_mem_nil, not_false_eq_true, not_true_eq_false, and_self, and_true, true_and, and_false, false_and, if_true, if_false, reduceIte, Bool.false_eq_true, decide_eq_true_eq, decide_eq_false_iff_not, Bool.not_true, Bool.not_false, Bool.not_eq_true', Bool.not_eq_false', List.zip_cons_cons, List.zip_nil_right, List.zip_nil_left, List.foldl_cons, List.foldl_nil, tgN, tgT, tgT.go, tgL, mYes, wm_ret, List.headD_cons]
        unfold later rb_law_1
        have h00 : ¬ ((g.length : Nat) : Int) = 0 := by omega
        simp (decide := true) only [wf_seqZ, wf_seqL, wf_kill, wf_expr, wf_fret, wf_retN, wf_ifSZ, wf_setN, wf_setV, wf_setT, wf_par, wf_augI, wf_break, wf_cont, wf_thru, wf_raise, wf_tryAs, wf_tryOn, wf_putIx, wm_step, wm_s1, wm_s2, wm_make, wm_makeL, wm_cmeth, wm_listO, wm_srcI, wm_srcG, wm_compG, wf_forG, wm_methI, wm_propI, wm_xf, wm_is, wf_skip, wf_for, wm_var, wm_c, wm_frz, wm_frN, wm_nn, wm_un, wm_bin, wm_evs_nil, wm_evs_cons, wm_n, wm_tup, wm_lst, wm_bool, wm_notB, wm_andBZ, wm_orBZ, wm_and, wm_or, wm_if, wm_chain, wm_asInt, wm_noInt, wm_sl, wm_step, wm_srcD, wm_srcN, wm_fmt, wm_js_nil, wm_js_cons, wm_tru, wm_strM, wm_mutL, wm_call, wm_comp, wc, EV.set, EV.kill, EV.kills, EV.put, EV.obj, EV.look, EV.looks, EV.objs, EV.key, EV.puts, argIx, argSl, gets, oD, oR, settled, List.set_cons_zero, List.set_cons_succ, List.getElem?_cons_zero, List.getElem?_cons_succ, List.replicate_succ, List.replicate_zero, List.map_cons, List.map_nil, List.length_cons, List.length_nil, List.nil_append, List.cons_append, Nat.reduceAdd, Nat.reduceSub, Nat.reduceLT, Nat.reduceLeDiff, List.nodup_cons, List.nodup_nil, List.not_mem_nil, not_false_eq_true, not_true_eq_false, and_self, and_true, true_and, and_false, false_and, if_true, if_false, reduceIte, Bool.false_eq_true, decide_eq_true_eq, decide_eq_false_iff_not, Bool.not_true, Bool.not_false, Bool.not_eq_true', Bool.not_eq_false', List.zip_cons_cons, List.zip_nil_right, List.zip_nil_left, List.foldl_cons, List.foldl_nil, tgN, tgT, tgT.go, tgL, mYes, wm_ret, List.headD_cons, hln, eq_int, h00]
        rw [later_eq]
        simp (decide := true) only [wf_seqZ, wf_seqL, wf_kill, wf_expr, wf_fret, wf_retN, wf_ifSZ, wf_setN, wf_setV, wf_setT, wf_par, wf_augI, wf_break, wf_cont, wf_thru, wf_raise, wf_tryAs, wf_tryOn, wf_putIx, wm_step, wm_s1, wm_s2, wm_make, wm_makeL, wm_cmeth, wm_listO, wm_srcI, wm_srcG, wm_compG, wf_forG, wm_methI, wm_propI, wm_xf, wm_is, wf_skip, wf_for, wm_var, wm_c, wm_frz, wm_frN, wm_nn, wm_un, wm_bin, wm_evs_nil, wm_evs_cons, wm_n, wm_tup, wm_lst, wm_bool, wm_notB, wm_andBZ, wm_orBZ, wm_and, wm_or, wm_if, wm_chain, wm_asInt, wm_noInt, wm_sl, wm_step, wm_srcD, wm_srcN, wm_fmt, wm_js_nil, wm_js_cons, wm_tru, wm_strM, wm_mutL, wm_call, wm_comp, wc, EV.set, EV.kill, EV.kills, EV.put, EV.obj, EV.look, EV.looks, EV.objs, EV.key, EV.puts, argIx, argSl, gets, oD, oR, settled, List.set_cons_zero, List.set_cons_succ, List.getElem?_cons_zero, List.getElem?_cons_succ, List.replicate_succ, List.replicate_zero, List.map_cons, List.map_nil, List.length_cons, List.length_nil, List.nil_append, List.cons_append, Nat.reduceAdd, Nat.reduceSub, Nat.reduceLT, Nat.reduceLeDiff, List.nodup_cons, List.nodup_nil, List.not_mem_nil, not_false_eq_true, not_true_eq_false, and_self, and_true, true_and, and_false, false_and, if_true, if_false, reduceIte, Bool.false_eq_true, decide_eq_true_eq, decide_eq_false_iff_not, Bool.not_true, Bool.not_false, Bool.not_eq_true', Bool.not_eq_false', List.zip_cons_cons, List.zip_nil_right, List.zip_nil_left, List.foldl_cons, List.foldl_nil, tgN, tgT, tgT.go, tgL, mYes, wm_ret, List.headD_cons]
        exact hh
    · have hg : g = [] := by cases g with
        | nil => rfl
        | cons a l => simp at h0
      simp (decide := true) only [wf_seqZ, wf_seqL, wf_kill, wf_expr, wf_fret, wf_retN, wf_ifSZ, wf_setN, wf_setV, wf_setT, wf_par, wf_augI, wf_break, wf_cont, wf_thru, wf_raise, wf_tryAs, wf_tryOn, wf_putIx, wm_step, wm_s1, wm_s2, wm_make, wm_makeL, wm_cmeth, wm_listO, wm_srcI, wm_srcG, wm_compG, wf_forG, wm_methI, wm_propI, wm_xf, wm_is, wf_skip, wf_for, wm_var, wm_c, wm_frz, wm_frN, wm_nn, wm_un, wm_bin, wm_evs_nil, wm_evs_cons, wm_n, wm_tup, wm_lst, wm_bool, wm_notB, wm_andBZ, wm_orBZ, wm_and, wm_or, wm_if, wm_chain, wm_asInt, wm_noInt, wm_sl, wm_step, wm_srcD, wm_srcN, wm_fmt, wm_js_nil, wm_js_cons, wm_tru, wm_strM, wm_mutL, wm_call, wm_comp, wc, EV.set, EV.kill, EV.kills, EV.put, EV.obj, EV.look, EV.looks, EV.objs, EV.key, EV.puts, argIx, argSl, gets, oD, oR, settled, List.set_cons_zero, List.set_cons_succ, List.getElem?_cons_zero, List.getElem?_cons_succ, List.replicate_succ, List.replicate_zero, List.map_cons, List.map_nil, List.length_cons, List.length_nil, List.nil_append, List.cons_append, Nat.reduceAdd, Nat.reduceSub, Nat.reduceLT, Nat.reduceLeDiff, List.nodup_cons, List.nodup_nil, List.not_mem_nil, not_false_eq_true, not_true_eq_false, and_self, and_true, true_and, and_false, false_and, if_true, if_false, reduceIte, Bool.false_eq_true, decide_eq_true_eq, decide_eq_false_iff_not, Bool.not_true, Bool.not_false, Bool.not_eq_true', Bool.not_eq_false', List.zip_cons_cons, List.zip_nil_right, List.zip_nil_left, List.foldl_cons, List.foldl_nil, tgN, tgT, tgT.go, tgL, mYes, wm_ret, List.headD_cons, h0]
      rw [later_eq]
      simp (decide := true) only [wf_seqZ, wf_seqL, wf_kill, wf_expr, wf_fret, wf_retN, wf_ifSZ, wf_setN, wf_setV, wf_setT, wf_par, wf_augI, wf_break, wf_cont, wf_thru, wf_raise, wf_tryAs, wf_tryOn, wf_putIx, wm_step, wm_s1, wm_s2, wm_make, wm_makeL, wm_cmeth, wm_listO, wm_srcI, wm_srcG, wm_compG, wf_forG, wm_methI, wm_propI, wm_xf, wm_is, wf_skip, wf_for, wm_var, wm_c, wm_frz, wm_frN, wm_nn, wm_un, wm_bin, wm_evs_nil, wm_evs_cons, wm_n, wm_tup, wm_lst, wm_bool, wm_notB, wm_andBZ, wm_orBZ, wm_and, wm_or, wm_if, wm_chain, wm_asInt, wm_noInt, wm_sl, wm_step, wm_srcD, wm_srcN, wm_fmt, wm_js_nil, wm_js_cons, wm_tru, wm_strM, wm_mutL, wm_call, wm_comp, wc, EV.set, EV.kill, EV.kills, EV.put, EV.obj, EV.look, EV.looks, EV.objs, EV.key, EV.puts, argIx, argSl, gets, oD, oR, settled, List.set_cons_zero, List.set_cons_succ, List.getElem?_cons_zero, List.getElem?_cons_succ, List.replicate_succ, List.replicate_zero, List.map_cons, List.map_nil, List.length_cons, List.length_nil, List.nil_append, List.cons_append, Nat.reduceAdd, Nat.reduceSub, Nat.reduceLT, Nat.reduceLeDiff, List.nodup_cons, List.nodup_nil, List.not_mem_nil, not_false_eq_true, not_true_eq_false, and_self, and_true, true_and, and_false, false_and, if_true, if_false, reduceIte, Bool.false_eq_true, decide_eq_true_eq, decide_eq_false_iff_not, Bool.not_true, Bool.not_false, Bool.not_eq_true', Bool.not_eq_false', List.zip_cons_cons, List.zip_nil_right, List.zip_nil_left, List.foldl_cons, List.foldl_nil, tgN, tgT, tgT.go, tgL, mYes, wm_ret, List.headD_cons]
      unfold later rb_law_1
      have h00 : ((g.length : Nat) : Int) = 0 := by rw [hg]; rfl
      simp (decide := true) only [wf_seqZ, wf_seqL, wf_kill, wf_expr, wf_fret, wf_retN, wf_ifSZ, wf_setN, wf_setV, wf_setT, wf_par, wf_augI, wf_break, wf_cont, wf_thru, wf_raise, wf_tryAs, wf_tryOn, wf_putIx, wm_step, wm_s1, wm_s2, wm_make, wm_makeL, wm_cmeth, wm_listO, wm_srcI, wm_srcG, wm_compG, wf_forG, wm_methI, wm_propI, wm_xf, wm_is, wf_skip, wf_for, wm_var, wm_c, wm_frz, wm_frN, wm_nn, wm_un, wm_bin, wm_evs_nil, wm_evs_cons, wm_n, wm_tup, wm_lst, wm_bool, wm_notB, wm_andBZ, wm_orBZ, wm_and, wm_or, wm_if, wm_chain, wm_asInt, wm_noInt, wm_sl, wm_step, wm_srcD, wm_srcN, wm_fmt, wm_js_nil, wm_js_cons, wm_tru, wm_strM, wm_mutL, wm_call, wm_comp, wc, EV.set, EV.kill, EV.kills, EV.put, EV.obj, EV.look, EV.looks, EV.objs, EV.key, EV.puts, argIx, argSl, gets, oD, oR, settled, List.set_cons_zero, List.set_cons_succ, List.getElem?_cons_zero, List.getElem?_cons_succ, List.replicate_succ, List.replicate_zero, List.map_cons, List.map_nil, List.length_cons, List.length_nil, List.nil_append, List.cons_append, Nat.reduceAdd, Nat.reduceSub, Nat.reduceLT, Nat.reduceLeDiff, List.nodup_cons, List.nodup_nil, List.not_mem_nil, not_false_eq_true, not_true_eq_false, and_self, and_true, true_and, and_false, false_and, if_true, if_false, reduceIte, Bool.false_eq_true, decide_eq_true_eq, decide_eq_false_iff_not, Bool.not_true, Bool.not_false, Bool.not_eq_true', Bool.not_eq_false', List.zip_cons_cons, List.zip_nil_right, List.zip_nil_left, List.foldl_cons, List.foldl_nil, tgN, tgT, tgT.go, tgL, mYes, wm_ret, List.headD_cons, hln, eq_int, h00]
      rw [laterM_eq]
      simp (decide := true) only [wf_seqZ, wf_seqL, wf_kill, wf_expr, wf_fret, wf_retN, wf_ifSZ, wf_setN, wf_setV, wf_setT, wf_par, wf_augI, wf_break, wf_cont, wf_thru, wf_raise, wf_tryAs, wf_tryOn, wf_putIx, wm_step, wm_s1, wm_s2, wm_make, wm_makeL, wm_cmeth, wm_listO, wm_srcI, wm_srcG, wm_compG, wf_forG, wm_methI, wm_propI, wm_xf, wm_is, wf_skip, wf_for, wm_var, wm_c, wm_frz, wm_frN, wm_nn, wm_un, wm_bin, wm_evs_nil, wm_evs_cons, wm_n, wm_tup, wm_lst, wm_bool, wm_notB, wm_andBZ, wm_orBZ, wm_and, wm_or, wm_if, wm_chain, wm_asInt, wm_noInt, wm_sl, wm_step, wm_srcD, wm_srcN, wm_fmt, wm_js_nil, wm_js_cons, wm_tru, wm_strM, wm_mutL, wm_call, wm_comp, wc, EV.set, EV.kill, EV.kills, EV.put, EV.obj, EV.look, EV.looks, EV.objs, EV.key, EV.puts, argIx, argSl, gets, oD, oR, settled, List.set_cons_zero, List.set_cons_succ, List.getElem?_cons_zero, List.getElem?_cons_succ, List.replicate_succ, List.replicate_zero, List.map_cons, List.map_nil, List.length_cons, List.length_nil, List.nil_append, List.cons_append, Nat.reduceAdd, Nat.reduceSub, Nat.reduceLT, Nat.reduceLeDiff, List.nodup_cons, List.nodup_nil, List.not_mem_nil, not_false_eq_true, not_true_eq_false, and_self, and_true, true_and, and_false, false_and, if_true, if_false, reduceIte, Bool.false_eq_true, decide_eq_true_eq, decide_eq_false_iff_not, Bool.not_true, Bool.not_false, Bool.not_eq_true', Bool.not_eq_false', List.zip_cons_cons, List.zip_nil_right, List.zip_nil_left, List.foldl_cons, List.foldl_nil, tgN, tgT, tgT.go, tgL, mYes, wm_ret, List.headD_cons, ix_lst, hro, szOk]
      refine hun hg _ _ fun ρ2 => ?_
      simp (decide := true) only [wf_seqZ, wf_seqL, wf_kill, wf_expr, wf_fret, wf_retN, wf_ifSZ, wf_setN, wf_setV, wf_setT, wf_par, wf_augI, wf_break, wf_cont, wf_thru, wf_raise, wf_tryAs, wf_tryOn, wf_putIx, wm_step, wm_s1, wm_s2, wm_make, wm_makeL, wm_cmeth, wm_listO, wm_srcI, wm_srcG, wm_compG, wf_forG, wm_methI, wm_propI, wm_xf, wm_is, wf_skip, wf_for, wm_var, wm_c, wm_frz, wm_frN, wm_nn, wm_un, wm_bin, wm_evs_nil, wm_evs_cons, wm_n, wm_tup, wm_lst, wm_bool, wm_notB, wm_andBZ, wm_orBZ, wm_and, wm_or, wm_if, wm_chain, wm_asInt, wm_noInt, wm_sl, wm_step, wm_srcD, wm_srcN, wm_fmt, wm_js_nil, wm_js_cons, wm_tru, wm_strM, wm_mutL, wm_call, wm_comp, wc, EV.set, EV.kill, EV.kills, EV.put, EV.obj, EV.look, EV.looks, EV.objs, EV.key, EV.puts, argIx, argSl, gets, oD, oR, settled, List.set_cons_zero, List.set_cons_succ, List.getElem?_cons_zero, List.getElem?_cons_succ, List.replicate_succ, List.replicate_zero, List.map_cons, List.map_nil, List.length_cons, List.length_nil, List.nil_append, List.cons_append, Nat.reduceAdd, Nat.reduceSub, Nat.reduceLT, Nat.reduceLeDiff, List.nodup_cons, List.nodup_nil, List.not_mem_nil, not_false_eq_true, not_true_eq_false, and_self, and_true, true_and, and_false, false_and, if_true, if_false, reduceIte, Bool.false_eq_true, decide_eq_true_eq, decide_eq_false_iff_not, Bool.not_true, Bool.not_false, Bool.not_eq_true', Bool.not_eq_false', List.zip_cons_cons, List.zip_nil_right, List.zip_nil_left, List.foldl_cons, List.foldl_nil, tgN, tgT, tgT.go, tgL, mYes, wm_ret, List.headD_cons]
      rw [later_eq]
      simp (decide := true) only [wf_seqZ, wf_seqL, wf_kill, wf_expr, wf_fret, wf_retN, wf_ifSZ, wf_setN, wf_setV, wf_setT, wf_par, wf_augI, wf_break, wf_cont, wf_thru, wf_raise, wf_tryAs, wf_tryOn, wf_putIx, wm_step, wm_s1, wm_s2, wm_make, wm_makeL, wm_cmeth, wm_listO, wm_srcI, wm_srcG, wm_compG, wf_forG, wm_methI, wm_propI, wm_xf, wm_is, wf_skip, wf_for, wm_var, wm_c, wm_frz, wm_frN, wm_nn, wm_un, wm_bin, wm_evs_nil, wm_evs_cons, wm_n, wm_tup, wm_lst, wm_bool, wm_notB, wm_andBZ, wm_orBZ, wm_and, wm_or, wm_if, wm_chain, wm_asInt, wm_noInt, wm_sl, wm_step, wm_srcD, wm_srcN, wm_fmt, wm_js_nil, wm_js_cons, wm_tru, wm_strM, wm_mutL, wm_call, wm_comp, wc, EV.set, EV.kill, EV.kills, EV.put, EV.obj, EV.look, EV.looks, EV.objs, EV.key, EV.puts, argIx, argSl, gets, oD, oR, settled, List.set_cons_zero, List.set_cons_succ, List.getElem?_cons_zero, List.getElem?_cons_succ, List.replicate_succ, List.replicate_zero, List.map_cons, List.map_nil, List.length_cons, List.length_nil, List.nil_append, List.cons_append, Nat.reduceAdd, Nat.reduceSub, Nat.reduceLT, Nat.reduceLeDiff, List.nodup_cons, List.nodup_nil, List.not_mem_nil, not_false_eq_true, not_true_eq_false, and_self, and_true, true_and, and_false, false_and, if_true, if_false, reduceIte, Bool.false_eq_true, decide_eq_true_eq, decide_eq_false_iff_not, Bool.not_true, Bool.not_false, Bool.not_eq_true', Bool.not_eq_false', List.zip_cons_cons, List.zip_nil_right, List.zip_nil_left, List.foldl_cons, List.foldl_nil, tgN, tgT, tgT.go, tgL, mYes, wm_ret, List.headD_cons]
      exact hh
theorem place_turn (hl : rs.length ≤ 100) (hws : ws.length ≤ 1000) (hk : k < rs.length) (hp : p < 3) (E : Ko) (h2 : ∀ a, E.nx (L5 ns t rs ws (some (.val (.int (k : Nat)))) (some (.val (.int (p : Nat)))) a none none)) :
    wf lb_law_3 (L5 ns t rs ws (some (.val (.int (k : Nat)))) (some (.val (.int (p : Nat)))) none none none) E := by
  have hr := range_nat (n := rs.length) (by omega)
  have hgs := grp_self hk p
  have hgl := grp_len rs p (fld rs[k] p)
  unfold lb_law_3 L5
  simp (decide := true) only [wf_seqZ, wf_seqL, wf_kill, wf_expr, wf_fret, wf_retN, wf_ifSZ, wf_setN, wf_setV, wf_setT, wf_par, wf_augI, wf_break, wf_cont, wf_thru, wf_raise, wf_tryAs, wf_tryOn, wf_putIx, wm_step, wm_s1, wm_s2, wm_make, wm_makeL, wm_cmeth, wm_listO, wm_srcI, wm_srcG, wm_compG, wf_forG, wm_methI, wm_propI, wm_xf, wm_is, wf_skip, wf_for, wm_var, wm_c, wm_frz, wm_frN, wm_nn, wm_un, wm_bin, wm_evs_nil, wm_evs_cons, wm_n, wm_tup, wm_lst, wm_bool, wm_notB, wm_andBZ, wm_orBZ, wm_and, wm_or, wm_if, wm_chain, wm_asInt, wm_noInt, wm_sl, wm_step, wm_srcD, wm_srcN, wm_fmt, wm_js_nil, wm_js_cons, wm_tru, wm_strM, wm_mutL, wm_call, wm_comp, wc, EV.set, EV.kill, EV.kills, EV.put, EV.obj, EV.look, EV.looks, EV.objs, EV.key, EV.puts, argIx, argSl, gets, oD, oR, settled, List.set_cons_zero, List.set_cons_succ, List.getElem?_cons_zero, List.getElem?_cons_succ, List.replicate_succ, List.replicate_zero, List.map_cons, List.map_nil, List.length_cons, List.length_nil, List.nil_append, List.cons_append, Nat.reduceAdd, Nat.reduceSub, Nat.reduceLT, Nat.reduceLeDiff, List.nodup_cons, List.nodup_nil, List.not_mem_nil, not_false_eq_true, not_true_eq_false, and_self, and_true, true_and, and_false, false_and, if_true, if_false, reduceIte, Bool.false_eq_true, decide_eq_true_eq, decide_eq_false_iff_not, Bool.not_true, Bool.not_false, Bool.not_eq_true', Bool.not_eq_false', List.zip_cons_cons, List.zip_nil_right, List.zip_nil_left, List.foldl_cons, List.foldl_nil, tgN, tgT, tgT.go, tgL, mYes, wm_ret, List.headD_cons, len_lst, List.length_map, hr]
  unfold rangeL
  refine wm_compF (l := List.range rs.length) (fun ρ' => ρ' = L5 ns t rs ws (some (.val (.int (k : Nat)))) (some (.val (.int (p : Nat)))) none none none) _ (fun j => D.int (j : Nat)) (isF rs p (fld rs[k] p)) (fun j hj ρ' z => ?_) rfl (by rw [List.length_range]; unfold szOk; omega) (fun ρ' z => ?_)
  · subst z
    have hj2 : j < rs.length := List.mem_range.mp hj
    have e2 : isF rs p (fld rs[k] p) j = decide (fld rs[j] p = fld rs[k] p) := by unfold isF; rw [List.getElem?_eq_getElem hj2]
    rw [e2, Int.zero_add]
    refine ⟨_, rfl, ?_⟩
    simp (decide := true) only [wf_seq, wf_seqL, wf_kill, wf_expr, wf_fret, wf_retN, wf_ifS, wf_setN, wf_setV, wf_setT, wf_par, wf_augI, wf_break, wf_cont, wf_thru, wf_raise, wf_tryAs, wf_tryOn, wf_putIx, wm_step, wm_s1, wm_s2, wm_make, wm_makeL, wm_cmeth, wm_listO, wm_srcI, wm_srcG, wm_compG, wf_forG, wm_methI, wm_propI, wm_xf, wm_is, wf_skip, wf_for, wm_var, wm_c, wm_frz, wm_frN, wm_nn, wm_un, wm_bin, wm_evs_nil, wm_evs_cons, wm_n, wm_tup, wm_lst, wm_bool, wm_notB, wm_andB, wm_orB, wm_and, wm_or, wm_if, wm_chain, wm_asInt, wm_noInt, wm_sl, wm_step, wm_srcD, wm_srcN, wm_fmt, wm_js_nil, wm_js_cons, wm_tru, wm_strM, wm_mutL, wm_call, wm_comp, wc, EV.set, EV.kill, EV.kills, EV.put, EV.obj, EV.look, EV.looks, EV.objs, EV.key, EV.puts, argIx, argSl, gets, oD, oR, settled, List.set_cons_zero, List.set_cons_succ, List.getElem?_cons_zero, List.getElem?_cons_succ, List.replicate_succ, List.replicate_zero, List.map_cons, List.map_nil, List.length_cons, List.length_nil, List.nil_append, List.cons_append, Nat.reduceAdd, Nat.reduceSub, Nat.reduceLT, Nat.reduceLeDiff, List.nodup_cons, List.nodup_nil, List.not_mem_nil, not_false_eq_true, not_true_eq_false, and_self, and_true, true_and, and_false, false_and, if_true, if_false, reduceIte, Bool.false_eq_true, decide_eq_true_eq, decide_eq_false_iff_not, Bool.not_true, Bool.not_false, Bool.not_eq_true', Bool.not_eq_false', List.zip_cons_cons, List.zip_nil_right, List.zip_nil_left, List.foldl_cons, List.foldl_nil, tgN, tgT, tgT.go, tgL, mYes, wm_ret, List.headD_cons, L5, row_at hj2, row_at hk, row_fld _ hp, eq_str]
    split <;> simp
  · subst z
    show later rb_law_4 E (L5 ns t rs ws (some (.val (.int (k : Nat)))) (some (.val (.int (p : Nat)))) (some (.val (nsL (grp rs p (fld rs[k] p))))) none none)
    have hro := roles_at hp
    have hm := members_own (rs := rs) hl hk hp
    generalize grp rs p (fld rs[k] p) = g at hgl hm
    unfold later rb_law_4 L5
    simp (decide := true) only [wf_seqZ, wf_seqL, wf_kill, wf_expr, wf_fret, wf_retN, wf_ifSZ, wf_setN, wf_setV, wf_setT, wf_par, wf_augI, wf_break, wf_cont, wf_thru, wf_raise, wf_tryAs, wf_tryOn, wf_putIx, wm_step, wm_s1, wm_s2, wm_make, wm_makeL, wm_cmeth, wm_listO, wm_srcI, wm_srcG, wm_compG, wf_forG, wm_methI, wm_propI, wm_xf, wm_is, wf_skip, wf_for, wm_var, wm_c, wm_frz, wm_frN, wm_nn, wm_un, wm_bin, wm_evs_nil, wm_evs_cons, wm_n, wm_tup, wm_lst, wm_bool, wm_notB, wm_andBZ, wm_orBZ, wm_and, wm_or, wm_if, wm_chain, wm_asInt, wm_noInt, wm_sl, wm_step, wm_srcD, wm_srcN, wm_fmt, wm_js_nil, wm_js_cons, wm_tru, wm_strM, wm_mutL, wm_call, wm_comp, wc, EV.set, EV.kill, EV.kills, EV.put, EV.obj, EV.look, EV.looks, EV.objs, EV.key, EV.puts, argIx, argSl, gets, oD, oR, settled, List.set_cons_zero, List.set_cons_succ, List.getElem?_cons_zero, List.getElem?_cons_succ, List.replicate_succ, List.replicate_zero, List.map_cons, List.map_nil, List.length_cons, List.length_nil, List.nil_append, List.cons_append, Nat.reduceAdd, Nat.reduceSub, Nat.reduceLT, Nat.reduceLeDiff, List.nodup_cons, List.nodup_nil, List.not_mem_nil, not_false_eq_true, not_true_eq_false, and_self, and_true, true_and, and_false, false_and, if_true, if_false, reduceIte, Bool.false_eq_true, decide_eq_true_eq, decide_eq_false_iff_not, Bool.not_true, Bool.not_false, Bool.not_eq_true', Bool.not_eq_false', List.zip_cons_cons, List.zip_nil_right, List.zip_nil_left, List.foldl_cons, List.foldl_nil, tgN, tgT, tgT.go, tgL, mYes, wm_ret, List.headD_cons, ix_lst, hro, szOk]
    refine told_spec (by omega) (fun E' hE' => hm E' hE') _ fun ρ2 => ?_
    simp (decide := true) only [wf_seqZ, wf_seqL, wf_kill, wf_expr, wf_fret, wf_retN, wf_ifSZ, wf_setN, wf_setV, wf_setT, wf_par, wf_augI, wf_break, wf_cont, wf_thru, wf_raise, wf_tryAs, wf_tryOn, wf_putIx, wm_step, wm_s1, wm_s2, wm_make, wm_makeL, wm_cmeth, wm_listO, wm_srcI, wm_srcG, wm_compG, wf_forG, wm_methI, wm_propI, wm_xf, wm_is, wf_skip, wf_for, wm_var, wm_c, wm_frz, wm_frN, wm_nn, wm_un, wm_bin, wm_evs_nil, wm_evs_cons, wm_n, wm_tup, wm_lst, wm_bool, wm_notB, wm_andBZ, wm_orBZ, wm_and, wm_or, wm_if, wm_chain, wm_asInt, wm_noInt, wm_sl, wm_step, wm_srcD, wm_srcN, wm_fmt, wm_js_nil, wm_js_cons, wm_tru, wm_strM, wm_mutL, wm_call, wm_comp, wc, EV.set, EV.kill, EV.kills, EV.put, EV.obj, EV.look, EV.looks, EV.objs, EV.key, EV.puts, argIx, argSl, gets, oD, oR, settled, List.set_cons_zero, List.set_cons_succ, List.getElem?_cons_zero, List.getElem?_cons_succ, List.replicate_succ, List.replicate_zero, List.map_cons, List.map_nil, List.length_cons, List.length_nil, List.nil_append, List.cons_append, Nat.reduceAdd, Nat.reduceSub, Nat.reduceLT, Nat.reduceLeDiff, List.nodup_cons, List.nodup_nil, List.not_mem_nil, not_false_eq_true, not_true_eq_false, and_self, and_true, true_and, and_false, false_and, if_true, if_false, reduceIte, Bool.false_eq_true, decide_eq_true_eq, decide_eq_false_iff_not, Bool.not_true, Bool.not_false, Bool.not_eq_true', Bool.not_eq_false', List.zip_cons_cons, List.zip_nil_right, List.zip_nil_left, List.foldl_cons, List.foldl_nil, tgN, tgT, tgT.go, tgL, mYes, wm_ret, List.headD_cons]
    rw [later_eq]
    simp (decide := true) only [wf_seqZ, wf_seqL, wf_kill, wf_expr, wf_fret, wf_retN, wf_ifSZ, wf_setN, wf_setV, wf_setT, wf_par, wf_augI, wf_break, wf_cont, wf_thru, wf_raise, wf_tryAs, wf_tryOn, wf_putIx, wm_step, wm_s1, wm_s2, wm_make, wm_makeL, wm_cmeth, wm_listO, wm_srcI, wm_srcG, wm_compG, wf_forG, wm_methI, wm_propI, wm_xf, wm_is, wf_skip, wf_for, wm_var, wm_c, wm_frz, wm_frN, wm_nn, wm_un, wm_bin, wm_evs_nil, wm_evs_cons, wm_n, wm_tup, wm_lst, wm_bool, wm_notB, wm_andBZ, wm_orBZ, wm_and, wm_or, wm_if, wm_chain, wm_asInt, wm_noInt, wm_sl, wm_step, wm_srcD, wm_srcN, wm_fmt, wm_js_nil, wm_js_cons, wm_tru, wm_strM, wm_mutL, wm_call, wm_comp, wc, EV.set, EV.kill, EV.kills, EV.put, EV.obj, EV.look, EV.looks, EV.objs, EV.key, EV.puts, argIx, argSl, gets, oD, oR, settled, List.set_cons_zero, List.set_cons_succ, List.getElem?_cons_zero, List.getElem?_cons_succ, List.replicate_succ, List.replicate_zero, List.map_cons, List.map_nil, List.length_cons, List.length_nil, List.nil_append, List.cons_append, Nat.reduceAdd, Nat.reduceSub, Nat.reduceLT, Nat.reduceLeDiff, List.nodup_cons, List.nodup_nil, List.not_mem_nil, not_false_eq_true, not_true_eq_false, and_self, and_true, true_and, and_false, false_and, if_true, if_false, reduceIte, Bool.false_eq_true, decide_eq_true_eq, decide_eq_false_iff_not, Bool.not_true, Bool.not_false, Bool.not_eq_true', Bool.not_eq_false', List.zip_cons_cons, List.zip_nil_right, List.zip_nil_left, List.foldl_cons, List.foldl_nil, tgN, tgT, tgT.go, tgL, mYes, wm_ret, List.headD_cons]
    unfold later rb_law_3
    simp (decide := true) only [wf_seqZ, wf_seqL, wf_kill, wf_expr, wf_fret, wf_retN, wf_ifSZ, wf_setN, wf_setV, wf_setT, wf_par, wf_augI, wf_break, wf_cont, wf_thru, wf_raise, wf_tryAs, wf_tryOn, wf_putIx, wm_step, wm_s1, wm_s2, wm_make, wm_makeL, wm_cmeth, wm_listO, wm_srcI, wm_srcG, wm_compG, wf_forG, wm_methI, wm_propI, wm_xf, wm_is, wf_skip, wf_for, wm_var, wm_c, wm_frz, wm_frN, wm_nn, wm_un, wm_bin, wm_evs_nil, wm_evs_cons, wm_n, wm_tup, wm_lst, wm_bool, wm_notB, wm_andBZ, wm_orBZ, wm_and, wm_or, wm_if, wm_chain, wm_asInt, wm_noInt, wm_sl, wm_step, wm_srcD, wm_srcN, wm_fmt, wm_js_nil, wm_js_cons, wm_tru, wm_strM, wm_mutL, wm_call, wm_comp, wc, EV.set, EV.kill, EV.kills, EV.put, EV.obj, EV.look, EV.looks, EV.objs, EV.key, EV.puts, argIx, argSl, gets, oD, oR, settled, List.set_cons_zero, List.set_cons_succ, List.getElem?_cons_zero, List.getElem?_cons_succ, List.replicate_succ, List.replicate_zero, List.map_cons, List.map_nil, List.length_cons, List.length_nil, List.nil_append, List.cons_append, Nat.reduceAdd, Nat.reduceSub, Nat.reduceLT, Nat.reduceLeDiff, List.nodup_cons, List.nodup_nil, List.not_mem_nil, not_false_eq_true, not_true_eq_false, and_self, and_true, true_and, and_false, false_and, if_true, if_false, reduceIte, Bool.false_eq_true, decide_eq_true_eq, decide_eq_false_iff_not, Bool.not_true, Bool.not_false, Bool.not_eq_true', Bool.not_eq_false', List.zip_cons_cons, List.zip_nil_right, List.zip_nil_left, List.foldl_cons, List.foldl_nil, tgN, tgT, tgT.go, tgL, mYes, wm_ret, List.headD_cons, itemsD]
    refine wf_lst (l := ws) (f := D.str) (fun _ ρ => ∃ a, ρ = L5 ns t rs ws (some (.val (.int (k : Nat)))) (some (.val (.int (p : Nat)))) a none none) ?_ ?_ ⟨_, rfl⟩
    · rintro i hi ρ ⟨a, rfl⟩
      refine ⟨_, rfl, ?_⟩
      refine word_turn (ns := ns) (t := t) (ws := ws) hl hk hp ws[i] a _ fun a' => ?_
      exact ⟨none, rfl⟩
    · rintro ρ ⟨a, rfl⟩
      simp (decide := true) only [wf_seqZ, wf_seqL, wf_kill, wf_expr, wf_fret, wf_retN, wf_ifSZ, wf_setN, wf_setV, wf_setT, wf_par, wf_augI, wf_break, wf_cont, wf_thru, wf_raise, wf_tryAs, wf_tryOn, wf_putIx, wm_step, wm_s1, wm_s2, wm_make, wm_makeL, wm_cmeth, wm_listO, wm_srcI, wm_srcG, wm_compG, wf_forG, wm_methI, wm_propI, wm_xf, wm_is, wf_skip, wf_for, wm_var, wm_c, wm_frz, wm_frN, wm_nn, wm_un, wm_bin, wm_evs_nil, wm_evs_cons, wm_n, wm_tup, wm_lst, wm_bool, wm_notB, wm_andBZ, wm_orBZ, wm_and, wm_or, wm_if, wm_chain, wm_asInt, wm_noInt, wm_sl, wm_step, wm_srcD, wm_srcN, wm_fmt, wm_js_nil, wm_js_cons, wm_tru, wm_strM, wm_mutL, wm_call, wm_comp, wc, EV.set, EV.kill, EV.kills, EV.put, EV.obj, EV.look, EV.looks, EV.objs, EV.key, EV.puts, argIx, argSl, gets, oD, oR, settled, List.set_cons_zero, List.set_cons_succ, List.getElem?_cons_zero, List.getElem?_cons_succ, List.replicate_succ, List.replicate_zero, List.map_cons, List.map_nil, List.length_cons, List.length_nil, List.nil_append, List.cons_append, Nat.reduceAdd, Nat.reduceSub, Nat.reduceLT, Nat.reduceLeDiff, List.nodup_cons, List.nodup_nil, List.not_mem_nil, not_false_eq_true, not_true_eq_false, and_self, and_true, true_and, and_false, false_and, if_true, if_false, reduceIte, Bool.false_eq_true, decide_eq_true_eq, decide_eq_false_iff_not, Bool.not_true, Bool.not_false, Bool.not_eq_true', Bool.not_eq_false', List.zip_cons_cons, List.zip_nil_right, List.zip_nil_left, List.foldl_cons, List.foldl_nil, tgN, tgT, tgT.go, tgL, mYes, wm_ret, List.headD_cons, L5]
      exact h2 _
theorem kind_turn (hl : rs.length ≤ 100) (hws : ws.length ≤ 1000) (hk : k < rs.length) (E : Ko)
    (h2 : ∀ a b c, E.nx (L5 ns t rs ws (some (.val (.int (k : Nat)))) a b c none)) :
    wf lb_law_2 (L5 ns t rs ws (some (.val (.int (k : Nat)))) none none none none) E := by
  have hr := range_nat (n := rs.length) (by omega)
  have e : rangeL 0 rs.length = (List.range rs.length).map fun k => D.int (k : Nat) := by unfold rangeL; simp
  have hm := members_any (rs := rs) hl
  unfold lb_law_2 L5
  simp (decide := true) only [wf_seqZ, wf_seqL, wf_kill, wf_expr, wf_fret, wf_retN, wf_ifSZ, wf_setN, wf_setV, wf_setT, wf_par, wf_augI, wf_break, wf_cont, wf_thru, wf_raise, wf_tryAs, wf_tryOn, wf_putIx, wm_step, wm_s1, wm_s2, wm_make, wm_makeL, wm_cmeth, wm_listO, wm_srcI, wm_srcG, wm_compG, wf_forG, wm_methI, wm_propI, wm_xf, wm_is, wf_skip, wf_for, wm_var, wm_c, wm_frz, wm_frN, wm_nn, wm_un, wm_bin, wm_evs_nil, wm_evs_cons, wm_n, wm_tup, wm_lst, wm_bool, wm_notB, wm_andBZ, wm_orBZ, wm_and, wm_or, wm_if, wm_chain, wm_asInt, wm_noInt, wm_sl, wm_step, wm_srcD, wm_srcN, wm_fmt, wm_js_nil, wm_js_cons, wm_tru, wm_strM, wm_mutL, wm_call, wm_comp, wc, EV.set, EV.kill, EV.kills, EV.put, EV.obj, EV.look, EV.looks, EV.objs, EV.key, EV.puts, argIx, argSl, gets, oD, oR, settled, List.set_cons_zero, List.set_cons_succ, List.getElem?_cons_zero, List.getElem?_cons_succ, List.replicate_succ, List.replicate_zero, List.map_cons, List.map_nil, List.length_cons, List.length_nil, List.nil_append, List.cons_append, Nat.reduceAdd, Nat.reduceSub, Nat.reduceLT, Nat.reduceLeDiff, List.nodup_cons, List.nodup_nil, List.not_mem_nil, not_false_eq_true, not_true_eq_false, and_self, and_true, true_and, and_false, false_and, if_true, if_false, reduceIte, Bool.false_eq_true, decide_eq_true_eq, decide_eq_false_iff_not, Bool.not_true, Bool.not_false, Bool.not_eq_true', Bool.not_eq_false', List.zip_cons_cons, List.zip_nil_right, List.zip_nil_left, List.foldl_cons, List.foldl_nil, tgN, tgT, tgT.go, tgL, mYes, wm_ret, List.headD_cons, len_lst, List.length_map, wm_rgL, hr, szOk]
  refine ⟨by unfold rangeL; rw [List.length_map, List.length_range]; omega, ?_⟩
  rw [e]
  refine told_spec (by rw [List.length_range]; omega) (fun E' hE' => hm _ E' hE') _ fun ρ2 => ?_
  simp (decide := true) only [wf_seqZ, wf_seqL, wf_kill, wf_expr, wf_fret, wf_retN, wf_ifSZ, wf_setN, wf_setV, wf_setT, wf_par, wf_augI, wf_break, wf_cont, wf_thru, wf_raise, wf_tryAs, wf_tryOn, wf_putIx, wm_step, wm_s1, wm_s2, wm_make, wm_makeL, wm_cmeth, wm_listO, wm_srcI, wm_srcG, wm_compG, wf_forG, wm_methI, wm_propI, wm_xf, wm_is, wf_skip, wf_for, wm_var, wm_c, wm_frz, wm_frN, wm_nn, wm_un, wm_bin, wm_evs_nil, wm_evs_cons, wm_n, wm_tup, wm_lst, wm_bool, wm_notB, wm_andBZ, wm_orBZ, wm_and, wm_or, wm_if, wm_chain, wm_asInt, wm_noInt, wm_sl, wm_step, wm_srcD, wm_srcN, wm_fmt, wm_js_nil, wm_js_cons, wm_tru, wm_strM, wm_mutL, wm_call, wm_comp, wc, EV.set, EV.kill, EV.kills, EV.put, EV.obj, EV.look, EV.looks, EV.objs, EV.key, EV.puts, argIx, argSl, gets, oD, oR, settled, List.set_cons_zero, List.set_cons_succ, List.getElem?_cons_zero, List.getElem?_cons_succ, List.replicate_succ, List.replicate_zero, List.map_cons, List.map_nil, List.length_cons, List.length_nil, List.nil_append, List.cons_append, Nat.reduceAdd, Nat.reduceSub, Nat.reduceLT, Nat.reduceLeDiff, List.nodup_cons, List.nodup_nil, List.not_mem_nil, not_false_eq_true, not_true_eq_false, and_self, and_true, true_and, and_false, false_and, if_true, if_false, reduceIte, Bool.false_eq_true, decide_eq_true_eq, decide_eq_false_iff_not, Bool.not_true, Bool.not_false, Bool.not_eq_true', Bool.not_eq_false', List.zip_cons_cons, List.zip_nil_right, List.zip_nil_left, List.foldl_cons, List.foldl_nil, tgN, tgT, tgT.go, tgL, mYes, wm_ret, List.headD_cons]
  rw [later_eq]
  simp (decide := true) only [wf_seqZ, wf_seqL, wf_kill, wf_expr, wf_fret, wf_retN, wf_ifSZ, wf_setN, wf_setV, wf_setT, wf_par, wf_augI, wf_break, wf_cont, wf_thru, wf_raise, wf_tryAs, wf_tryOn, wf_putIx, wm_step, wm_s1, wm_s2, wm_make, wm_makeL, wm_cmeth, wm_listO, wm_srcI, wm_srcG, wm_compG, wf_forG, wm_methI, wm_propI, wm_xf, wm_is, wf_skip, wf_for, wm_var, wm_c, wm_frz, wm_frN, wm_nn, wm_un, wm_bin, wm_evs_nil, wm_evs_cons, wm_n, wm_tup, wm_lst, wm_bool, wm_notB, wm_andBZ, wm_orBZ, wm_and, wm_or, wm_if, wm_chain, wm_asInt, wm_noInt, wm_sl, wm_step, wm_srcD, wm_srcN, wm_fmt, wm_js_nil, wm_js_cons, wm_tru, wm_strM, wm_mutL, wm_call, wm_comp, wc, EV.set, EV.kill, EV.kills, EV.put, EV.obj, EV.look, EV.looks, EV.objs, EV.key, EV.puts, argIx, argSl, gets, oD, oR, settled, List.set_cons_zero, List.set_cons_succ, List.getElem?_cons_zero, List.getElem?_cons_succ, List.replicate_succ, List.replicate_zero, List.map_cons, List.map_nil, List.length_cons, List.length_nil, List.nil_append, List.cons_append, Nat.reduceAdd, Nat.reduceSub, Nat.reduceLT, Nat.reduceLeDiff, List.nodup_cons, List.nodup_nil, List.not_mem_nil, not_false_eq_true, not_true_eq_false, and_self, and_true, true_and, and_false, false_and, if_true, if_false, reduceIte, Bool.false_eq_true, decide_eq_true_eq, decide_eq_false_iff_not, Bool.not_true, Bool.not_false, Bool.not_eq_true', Bool.not_eq_false', List.zip_cons_cons, List.zip_nil_right, List.zip_nil_left, List.foldl_cons, List.foldl_nil, tgN, tgT, tgT.go, tgL, mYes, wm_ret, List.headD_cons]
  unfold later rb_law_5
  have h3 := range_nat (n := 3) (by omega)
  have h3' : rangeD1 [.int 3] = some (rangeL 0 3) := h3
  simp (decide := true) only [wf_seqZ, wf_seqL, wf_kill, wf_expr, wf_fret, wf_retN, wf_ifSZ, wf_setN, wf_setV, wf_setT, wf_par, wf_augI, wf_break, wf_cont, wf_thru, wf_raise, wf_tryAs, wf_tryOn, wf_putIx, wm_step, wm_s1, wm_s2, wm_make, wm_makeL, wm_cmeth, wm_listO, wm_srcI, wm_srcG, wm_compG, wf_forG, wm_methI, wm_propI, wm_xf, wm_is, wf_skip, wf_for, wm_var, wm_c, wm_frz, wm_frN, wm_nn, wm_un, wm_bin, wm_evs_nil, wm_evs_cons, wm_n, wm_tup, wm_lst, wm_bool, wm_notB, wm_andBZ, wm_orBZ, wm_and, wm_or, wm_if, wm_chain, wm_asInt, wm_noInt, wm_sl, wm_step, wm_srcD, wm_srcN, wm_fmt, wm_js_nil, wm_js_cons, wm_tru, wm_strM, wm_mutL, wm_call, wm_comp, wc, EV.set, EV.kill, EV.kills, EV.put, EV.obj, EV.look, EV.looks, EV.objs, EV.key, EV.puts, argIx, argSl, gets, oD, oR, settled, List.set_cons_zero, List.set_cons_succ, List.getElem?_cons_zero, List.getElem?_cons_succ, List.replicate_succ, List.replicate_zero, List.map_cons, List.map_nil, List.length_cons, List.length_nil, List.nil_append, List.cons_append, Nat.reduceAdd, Nat.reduceSub, Nat.reduceLT, Nat.reduceLeDiff, List.nodup_cons, List.nodup_nil, List.not_mem_nil, not_false_eq_true, not_true_eq_false, and_self, and_true, true_and, and_false, false_and, if_true, if_false, reduceIte, Bool.false_eq_true, decide_eq_true_eq, decide_eq_false_iff_not, Bool.not_true, Bool.not_false, Bool.not_eq_true', Bool.not_eq_false', List.zip_cons_cons, List.zip_nil_right, List.zip_nil_left, List.foldl_cons, List.foldl_nil, tgN, tgT, tgT.go, tgL, mYes, wm_ret, List.headD_cons, h3']
  refine wf_range (n := 3) (fun _ ρ => ρ = L5 ns t rs ws (some (.val (.int (k : Nat)))) none none none none) ?_ ?_ rfl
  · rintro p ρ hp rfl
    refine ⟨_, rfl, ?_⟩
    refine place_turn hl hws hk hp _ fun a => ?_
    rfl
  · rintro ρ rfl
    simp (decide := true) only [wf_seqZ, wf_seqL, wf_kill, wf_expr, wf_fret, wf_retN, wf_ifSZ, wf_setN, wf_setV, wf_setT, wf_par, wf_augI, wf_break, wf_cont, wf_thru, wf_raise, wf_tryAs, wf_tryOn, wf_putIx, wm_step, wm_s1, wm_s2, wm_make, wm_makeL, wm_cmeth, wm_listO, wm_srcI, wm_srcG, wm_compG, wf_forG, wm_methI, wm_propI, wm_xf, wm_is, wf_skip, wf_for, wm_var, wm_c, wm_frz, wm_frN, wm_nn, wm_un, wm_bin, wm_evs_nil, wm_evs_cons, wm_n, wm_tup, wm_lst, wm_bool, wm_notB, wm_andBZ, wm_orBZ, wm_and, wm_or, wm_if, wm_chain, wm_asInt, wm_noInt, wm_sl, wm_step, wm_srcD, wm_srcN, wm_fmt, wm_js_nil, wm_js_cons, wm_tru, wm_strM, wm_mutL, wm_call, wm_comp, wc, EV.set, EV.kill, EV.kills, EV.put, EV.obj, EV.look, EV.looks, EV.objs, EV.key, EV.puts, argIx, argSl, gets, oD, oR, settled, List.set_cons_zero, List.set_cons_succ, List.getElem?_cons_zero, List.getElem?_cons_succ, List.replicate_succ, List.replicate_zero, List.map_cons, List.map_nil, List.length_cons, List.length_nil, List.nil_append, List.cons_append, Nat.reduceAdd, Nat.reduceSub, Nat.reduceLT, Nat.reduceLeDiff, List.nodup_cons, List.nodup_nil, List.not_mem_nil, not_false_eq_true, not_true_eq_false, and_self, and_true, true_and, and_false, false_and, if_true, if_false, reduceIte, Bool.false_eq_true, decide_eq_true_eq, decide_eq_false_iff_not, Bool.not_true, Bool.not_false, Bool.not_eq_true', Bool.not_eq_false', List.zip_cons_cons, List.zip_nil_right, List.zip_nil_left, List.foldl_cons, List.foldl_nil, tgN, tgT, tgT.go, tgL, mYes, wm_ret, List.headD_cons, L5]
    exact h2 _ _ _
end
theorem pure_law (ns : List Int) (hl : ns.length ≤ 63) : ∃ ρ', fb_law ⟨some (.val (.scr (ns.map D.int))) :: List.replicate 11 none, []⟩ = some (.ret (.v (.bl true)) ρ') := by
  refine wf_ret ?_
  unfold fb_law
  simp (decide := true) only [wf_seqZ, wf_seqL, wf_kill, wf_expr, wf_fret, wf_retN, wf_ifSZ, wf_setN, wf_setV, wf_setT, wf_par, wf_augI, wf_break, wf_cont, wf_thru, wf_raise, wf_tryAs, wf_tryOn, wf_putIx, wm_step, wm_s1, wm_s2, wm_make, wm_makeL, wm_cmeth, wm_listO, wm_srcI, wm_srcG, wm_compG, wf_forG, wm_methI, wm_propI, wm_xf, wm_is, wf_skip, wf_for, wm_var, wm_c, wm_frz, wm_frN, wm_nn, wm_un, wm_bin, wm_evs_nil, wm_evs_cons, wm_n, wm_tup, wm_lst, wm_bool, wm_notB, wm_andBZ, wm_orBZ, wm_and, wm_or, wm_if, wm_chain, wm_asInt, wm_noInt, wm_sl, wm_step, wm_srcD, wm_srcN, wm_fmt, wm_js_nil, wm_js_cons, wm_tru, wm_strM, wm_mutL, wm_call, wm_comp, wc, EV.set, EV.kill, EV.kills, EV.put, EV.obj, EV.look, EV.looks, EV.objs, EV.key, EV.puts, argIx, argSl, gets, oD, oR, settled, List.set_cons_zero, List.set_cons_succ, List.getElem?_cons_zero, List.getElem?_cons_succ, List.replicate_succ, List.replicate_zero, List.map_cons, List.map_nil, List.length_cons, List.length_nil, List.nil_append, List.cons_append, Nat.reduceAdd, Nat.reduceSub, Nat.reduceLT, Nat.reduceLeDiff, List.nodup_cons, List.nodup_nil, List.not_mem_nil, not_false_eq_true, not_true_eq_false, and_self, and_true, true_and, and_false, false_and, if_true, if_false, reduceIte, Bool.false_eq_true, decide_eq_true_eq, decide_eq_false_iff_not, Bool.not_true, Bool.not_false, Bool.not_eq_true', Bool.not_eq_false', List.zip_cons_cons, List.zip_nil_right, List.zip_nil_left, List.foldl_cons, List.foldl_nil, tgN, tgT, tgT.go, tgL, mYes, wm_ret, List.headD_cons]
  refine draws_spec ns _ fun xs ρ1 => ?_
  simp (decide := true) only [wf_seqZ, wf_seqL, wf_kill, wf_expr, wf_fret, wf_retN, wf_ifSZ, wf_setN, wf_setV, wf_setT, wf_par, wf_augI, wf_break, wf_cont, wf_thru, wf_raise, wf_tryAs, wf_tryOn, wf_putIx, wm_step, wm_s1, wm_s2, wm_make, wm_makeL, wm_cmeth, wm_listO, wm_srcI, wm_srcG, wm_compG, wf_forG, wm_methI, wm_propI, wm_xf, wm_is, wf_skip, wf_for, wm_var, wm_c, wm_frz, wm_frN, wm_nn, wm_un, wm_bin, wm_evs_nil, wm_evs_cons, wm_n, wm_tup, wm_lst, wm_bool, wm_notB, wm_andBZ, wm_orBZ, wm_and, wm_or, wm_if, wm_chain, wm_asInt, wm_noInt, wm_sl, wm_step, wm_srcD, wm_srcN, wm_fmt, wm_js_nil, wm_js_cons, wm_tru, wm_strM, wm_mutL, wm_call, wm_comp, wc, EV.set, EV.kill, EV.kills, EV.put, EV.obj, EV.look, EV.looks, EV.objs, EV.key, EV.puts, argIx, argSl, gets, oD, oR, settled, List.set_cons_zero, List.set_cons_succ, List.getElem?_cons_zero, List.getElem?_cons_succ, List.replicate_succ, List.replicate_zero, List.map_cons, List.map_nil, List.length_cons, List.length_nil, List.nil_append, List.cons_append, Nat.reduceAdd, Nat.reduceSub, Nat.reduceLT, Nat.reduceLeDiff, List.nodup_cons, List.nodup_nil, List.not_mem_nil, not_false_eq_true, not_true_eq_false, and_self, and_true, true_and, and_false, false_and, if_true, if_false, reduceIte, Bool.false_eq_true, decide_eq_true_eq, decide_eq_false_iff_not, Bool.not_true, Bool.not_false, Bool.not_eq_true', Bool.not_eq_false', List.zip_cons_cons, List.zip_nil_right, List.zip_nil_left, List.foldl_cons, List.foldl_nil, tgN, tgT, tgT.go, tgL, mYes, wm_ret, List.headD_cons]
  unfold later rb_law_10
  simp (decide := true) only [wf_seqZ, wf_seqL, wf_kill, wf_expr, wf_fret, wf_retN, wf_ifSZ, wf_setN, wf_setV, wf_setT, wf_par, wf_augI, wf_break, wf_cont, wf_thru, wf_raise, wf_tryAs, wf_tryOn, wf_putIx, wm_step, wm_s1, wm_s2, wm_make, wm_makeL, wm_cmeth, wm_listO, wm_srcI, wm_srcG, wm_compG, wf_forG, wm_methI, wm_propI, wm_xf, wm_is, wf_skip, wf_for, wm_var, wm_c, wm_frz, wm_frN, wm_nn, wm_un, wm_bin, wm_evs_nil, wm_evs_cons, wm_n, wm_tup, wm_lst, wm_bool, wm_notB, wm_andBZ, wm_orBZ, wm_and, wm_or, wm_if, wm_chain, wm_asInt, wm_noInt, wm_sl, wm_step, wm_srcD, wm_srcN, wm_fmt, wm_js_nil, wm_js_cons, wm_tru, wm_strM, wm_mutL, wm_call, wm_comp, wc, EV.set, EV.kill, EV.kills, EV.put, EV.obj, EV.look, EV.looks, EV.objs, EV.key, EV.puts, argIx, argSl, gets, oD, oR, settled, List.set_cons_zero, List.set_cons_succ, List.getElem?_cons_zero, List.getElem?_cons_succ, List.replicate_succ, List.replicate_zero, List.map_cons, List.map_nil, List.length_cons, List.length_nil, List.nil_append, List.cons_append, Nat.reduceAdd, Nat.reduceSub, Nat.reduceLT, Nat.reduceLeDiff, List.nodup_cons, List.nodup_nil, List.not_mem_nil, not_false_eq_true, not_true_eq_false, and_self, and_true, true_and, and_false, false_and, if_true, if_false, reduceIte, Bool.false_eq_true, decide_eq_true_eq, decide_eq_false_iff_not, Bool.not_true, Bool.not_false, Bool.not_eq_true', Bool.not_eq_false', List.zip_cons_cons, List.zip_nil_right, List.zip_nil_left, List.foldl_cons, List.foldl_nil, tgN, tgT, tgT.go, tgL, mYes, wm_ret, List.headD_cons]
  refine kinds_spec xs _ fun rs t ρ2 hk hp => ?_
  simp (decide := true) only [wf_seqZ, wf_seqL, wf_kill, wf_expr, wf_fret, wf_retN, wf_ifSZ, wf_setN, wf_setV, wf_setT, wf_par, wf_augI, wf_break, wf_cont, wf_thru, wf_raise, wf_tryAs, wf_tryOn, wf_putIx, wm_step, wm_s1, wm_s2, wm_make, wm_makeL, wm_cmeth, wm_listO, wm_srcI, wm_srcG, wm_compG, wf_forG, wm_methI, wm_propI, wm_xf, wm_is, wf_skip, wf_for, wm_var, wm_c, wm_frz, wm_frN, wm_nn, wm_un, wm_bin, wm_evs_nil, wm_evs_cons, wm_n, wm_tup, wm_lst, wm_bool, wm_notB, wm_andBZ, wm_orBZ, wm_and, wm_or, wm_if, wm_chain, wm_asInt, wm_noInt, wm_sl, wm_step, wm_srcD, wm_srcN, wm_fmt, wm_js_nil, wm_js_cons, wm_tru, wm_strM, wm_mutL, wm_call, wm_comp, wc, EV.set, EV.kill, EV.kills, EV.put, EV.obj, EV.look, EV.looks, EV.objs, EV.key, EV.puts, argIx, argSl, gets, oD, oR, settled, List.set_cons_zero, List.set_cons_succ, List.getElem?_cons_zero, List.getElem?_cons_succ, List.replicate_succ, List.replicate_zero, List.map_cons, List.map_nil, List.length_cons, List.length_nil, List.nil_append, List.cons_append, Nat.reduceAdd, Nat.reduceSub, Nat.reduceLT, Nat.reduceLeDiff, List.nodup_cons, List.nodup_nil, List.not_mem_nil, not_false_eq_true, not_true_eq_false, and_self, and_true, true_and, and_false, false_and, if_true, if_false, reduceIte, Bool.false_eq_true, decide_eq_true_eq, decide_eq_false_iff_not, Bool.not_true, Bool.not_false, Bool.not_eq_true', Bool.not_eq_false', List.zip_cons_cons, List.zip_nil_right, List.zip_nil_left, List.foldl_cons, List.foldl_nil, tgN, tgT, tgT.go, tgL, mYes, wm_ret, List.headD_cons, hp]
  unfold later rb_law_9
  have h5 := hk.2.2.2
  have hz : szOk rs.length := by unfold szOk; omega
  have hd : dupOf (rs.map (·.n)) [] = none := dup_none (done := []) hk.1 (fun _ _ => List.not_mem_nil)
  simp (decide := true) only [wf_seqZ, wf_seqL, wf_kill, wf_expr, wf_fret, wf_retN, wf_ifSZ, wf_setN, wf_setV, wf_setT, wf_par, wf_augI, wf_break, wf_cont, wf_thru, wf_raise, wf_tryAs, wf_tryOn, wf_putIx, wm_step, wm_s1, wm_s2, wm_make, wm_makeL, wm_cmeth, wm_listO, wm_srcI, wm_srcG, wm_compG, wf_forG, wm_methI, wm_propI, wm_xf, wm_is, wf_skip, wf_for, wm_var, wm_c, wm_frz, wm_frN, wm_nn, wm_un, wm_bin, wm_evs_nil, wm_evs_cons, wm_n, wm_tup, wm_lst, wm_bool, wm_notB, wm_andBZ, wm_orBZ, wm_and, wm_or, wm_if, wm_chain, wm_asInt, wm_noInt, wm_sl, wm_step, wm_srcD, wm_srcN, wm_fmt, wm_js_nil, wm_js_cons, wm_tru, wm_strM, wm_mutL, wm_call, wm_comp, wc, EV.set, EV.kill, EV.kills, EV.put, EV.obj, EV.look, EV.looks, EV.objs, EV.key, EV.puts, argIx, argSl, gets, oD, oR, settled, List.set_cons_zero, List.set_cons_succ, List.getElem?_cons_zero, List.getElem?_cons_succ, List.replicate_succ, List.replicate_zero, List.map_cons, List.map_nil, List.length_cons, List.length_nil, List.nil_append, List.cons_append, Nat.reduceAdd, Nat.reduceSub, Nat.reduceLT, Nat.reduceLeDiff, List.nodup_cons, List.nodup_nil, List.not_mem_nil, not_false_eq_true, not_true_eq_false, and_self, and_true, true_and, and_false, false_and, if_true, if_false, reduceIte, Bool.false_eq_true, decide_eq_true_eq, decide_eq_false_iff_not, Bool.not_true, Bool.not_false, Bool.not_eq_true', Bool.not_eq_false', List.zip_cons_cons, List.zip_nil_right, List.zip_nil_left, List.foldl_cons, List.foldl_nil, tgN, tgT, tgT.go, tgL, mYes, wm_ret, List.headD_cons, listD]
  unfold fb_Kinds_init
  refine mk_val hz ?_
  simp only [hd]
  simp (decide := true) only [wf_seqZ, wf_seqL, wf_kill, wf_expr, wf_fret, wf_retN, wf_ifSZ, wf_setN, wf_setV, wf_setT, wf_par, wf_augI, wf_break, wf_cont, wf_thru, wf_raise, wf_tryAs, wf_tryOn, wf_putIx, wm_step, wm_s1, wm_s2, wm_make, wm_makeL, wm_cmeth, wm_listO, wm_srcI, wm_srcG, wm_compG, wf_forG, wm_methI, wm_propI, wm_xf, wm_is, wf_skip, wf_for, wm_var, wm_c, wm_frz, wm_frN, wm_nn, wm_un, wm_bin, wm_evs_nil, wm_evs_cons, wm_n, wm_tup, wm_lst, wm_bool, wm_notB, wm_andBZ, wm_orBZ, wm_and, wm_or, wm_if, wm_chain, wm_asInt, wm_noInt, wm_sl, wm_step, wm_srcD, wm_srcN, wm_fmt, wm_js_nil, wm_js_cons, wm_tru, wm_strM, wm_mutL, wm_call, wm_comp, wc, EV.set, EV.kill, EV.kills, EV.put, EV.obj, EV.look, EV.looks, EV.objs, EV.key, EV.puts, argIx, argSl, gets, oD, oR, settled, List.set_cons_zero, List.set_cons_succ, List.getElem?_cons_zero, List.getElem?_cons_succ, List.replicate_succ, List.replicate_zero, List.map_cons, List.map_nil, List.length_cons, List.length_nil, List.nil_append, List.cons_append, Nat.reduceAdd, Nat.reduceSub, Nat.reduceLT, Nat.reduceLeDiff, List.nodup_cons, List.nodup_nil, List.not_mem_nil, not_false_eq_true, not_true_eq_false, and_self, and_true, true_and, and_false, false_and, if_true, if_false, reduceIte, Bool.false_eq_true, decide_eq_true_eq, decide_eq_false_iff_not, Bool.not_true, Bool.not_false, Bool.not_eq_true', Bool.not_eq_false', List.zip_cons_cons, List.zip_nil_right, List.zip_nil_left, List.foldl_cons, List.foldl_nil, tgN, tgT, tgT.go, tgL, mYes, wm_ret, List.headD_cons]
  unfold later rb_law_8
  simp (decide := true) only [wf_seqZ, wf_seqL, wf_kill, wf_expr, wf_fret, wf_retN, wf_ifSZ, wf_setN, wf_setV, wf_setT, wf_par, wf_augI, wf_break, wf_cont, wf_thru, wf_raise, wf_tryAs, wf_tryOn, wf_putIx, wm_step, wm_s1, wm_s2, wm_make, wm_makeL, wm_cmeth, wm_listO, wm_srcI, wm_srcG, wm_compG, wf_forG, wm_methI, wm_propI, wm_xf, wm_is, wf_skip, wf_for, wm_var, wm_c, wm_frz, wm_frN, wm_nn, wm_un, wm_bin, wm_evs_nil, wm_evs_cons, wm_n, wm_tup, wm_lst, wm_bool, wm_notB, wm_andBZ, wm_orBZ, wm_and, wm_or, wm_if, wm_chain, wm_asInt, wm_noInt, wm_sl, wm_step, wm_srcD, wm_srcN, wm_fmt, wm_js_nil, wm_js_cons, wm_tru, wm_strM, wm_mutL, wm_call, wm_comp, wc, EV.set, EV.kill, EV.kills, EV.put, EV.obj, EV.look, EV.looks, EV.objs, EV.key, EV.puts, argIx, argSl, gets, oD, oR, settled, List.set_cons_zero, List.set_cons_succ, List.getElem?_cons_zero, List.getElem?_cons_succ, List.replicate_succ, List.replicate_zero, List.map_cons, List.map_nil, List.length_cons, List.length_nil, List.nil_append, List.cons_append, Nat.reduceAdd, Nat.reduceSub, Nat.reduceLT, Nat.reduceLeDiff, List.nodup_cons, List.nodup_nil, List.not_mem_nil, not_false_eq_true, not_true_eq_false, and_self, and_true, true_and, and_false, false_and, if_true, if_false, reduceIte, Bool.false_eq_true, decide_eq_true_eq, decide_eq_false_iff_not, Bool.not_true, Bool.not_false, Bool.not_eq_true', Bool.not_eq_false', List.zip_cons_cons, List.zip_nil_right, List.zip_nil_left, List.foldl_cons, List.foldl_nil, tgN, tgT, tgT.go, tgL, mYes, wm_ret, List.headD_cons]
  rw [later_eq]
  simp (decide := true) only [wf_seqZ, wf_seqL, wf_kill, wf_expr, wf_fret, wf_retN, wf_ifSZ, wf_setN, wf_setV, wf_setT, wf_par, wf_augI, wf_break, wf_cont, wf_thru, wf_raise, wf_tryAs, wf_tryOn, wf_putIx, wm_step, wm_s1, wm_s2, wm_make, wm_makeL, wm_cmeth, wm_listO, wm_srcI, wm_srcG, wm_compG, wf_forG, wm_methI, wm_propI, wm_xf, wm_is, wf_skip, wf_for, wm_var, wm_c, wm_frz, wm_frN, wm_nn, wm_un, wm_bin, wm_evs_nil, wm_evs_cons, wm_n, wm_tup, wm_lst, wm_bool, wm_notB, wm_andBZ, wm_orBZ, wm_and, wm_or, wm_if, wm_chain, wm_asInt, wm_noInt, wm_sl, wm_step, wm_srcD, wm_srcN, wm_fmt, wm_js_nil, wm_js_cons, wm_tru, wm_strM, wm_mutL, wm_call, wm_comp, wc, EV.set, EV.kill, EV.kills, EV.put, EV.obj, EV.look, EV.looks, EV.objs, EV.key, EV.puts, argIx, argSl, gets, oD, oR, settled, List.set_cons_zero, List.set_cons_succ, List.getElem?_cons_zero, List.getElem?_cons_succ, List.replicate_succ, List.replicate_zero, List.map_cons, List.map_nil, List.length_cons, List.length_nil, List.nil_append, List.cons_append, Nat.reduceAdd, Nat.reduceSub, Nat.reduceLT, Nat.reduceLeDiff, List.nodup_cons, List.nodup_nil, List.not_mem_nil, not_false_eq_true, not_true_eq_false, and_self, and_true, true_and, and_false, false_and, if_true, if_false, reduceIte, Bool.false_eq_true, decide_eq_true_eq, decide_eq_false_iff_not, Bool.not_true, Bool.not_false, Bool.not_eq_true', Bool.not_eq_false', List.zip_cons_cons, List.zip_nil_right, List.zip_nil_left, List.foldl_cons, List.foldl_nil, tgN, tgT, tgT.go, tgL, mYes, wm_ret, List.headD_cons]
  rw [later_eq]
  simp (decide := true) only [wf_seqZ, wf_seqL, wf_kill, wf_expr, wf_fret, wf_retN, wf_ifSZ, wf_setN, wf_setV, wf_setT, wf_par, wf_augI, wf_break, wf_cont, wf_thru, wf_raise, wf_tryAs, wf_tryOn, wf_putIx, wm_step, wm_s1, wm_s2, wm_make, wm_makeL, wm_cmeth, wm_listO, wm_srcI, wm_srcG, wm_compG, wf_forG, wm_methI, wm_propI, wm_xf, wm_is, wf_skip, wf_for, wm_var, wm_c, wm_frz, wm_frN, wm_nn, wm_un, wm_bin, wm_evs_nil, wm_evs_cons, wm_n, wm_tup, wm_lst, wm_bool, wm_notB, wm_andBZ, wm_orBZ, wm_and, wm_or, wm_if, wm_chain, wm_asInt, wm_noInt, wm_sl, wm_step, wm_srcD, wm_srcN, wm_fmt, wm_js_nil, wm_js_cons, wm_tru, wm_strM, wm_mutL, wm_call, wm_comp, wc, EV.set, EV.kill, EV.kills, EV.put, EV.obj, EV.look, EV.looks, EV.objs, EV.key, EV.puts, argIx, argSl, gets, oD, oR, settled, List.set_cons_zero, List.set_cons_succ, List.getElem?_cons_zero, List.getElem?_cons_succ, List.replicate_succ, List.replicate_zero, List.map_cons, List.map_nil, List.length_cons, List.length_nil, List.nil_append, List.cons_append, Nat.reduceAdd, Nat.reduceSub, Nat.reduceLT, Nat.reduceLeDiff, List.nodup_cons, List.nodup_nil, List.not_mem_nil, not_false_eq_true, not_true_eq_false, and_self, and_true, true_and, and_false, false_and, if_true, if_false, reduceIte, Bool.false_eq_true, decide_eq_true_eq, decide_eq_false_iff_not, Bool.not_true, Bool.not_false, Bool.not_eq_true', Bool.not_eq_false', List.zip_cons_cons, List.zip_nil_right, List.zip_nil_left, List.foldl_cons, List.foldl_nil, tgN, tgT, tgT.go, tgL, mYes, wm_ret, List.headD_cons, itemsD]
  refine wf_lst (fun k ρ => ∃ ws : List Str, ws.length = 1 + 3 * k ∧ ρ = L5 ns t rs ws none none none none none) ?_ ?_ ⟨["zzz"], rfl, rfl⟩
  · rintro k hk2 ρ ⟨ws, hw, rfl⟩
    refine ⟨_, rfl, ?_⟩
    have hz3 : szOk ((ws.map D.str).length + (0 + 1 + 1 + 1)) := by rw [List.length_map]; unfold szOk; omega
    unfold lb_law_1 L5
    simp (decide := true) only [wf_seqZ, wf_seqL, wf_kill, wf_expr, wf_fret, wf_retN, wf_ifSZ, wf_setN, wf_setV, wf_setT, wf_par, wf_augI, wf_break, wf_cont, wf_thru, wf_raise, wf_tryAs, wf_tryOn, wf_putIx, wm_step, wm_s1, wm_s2, wm_make, wm_makeL, wm_cmeth, wm_listO, wm_srcI, wm_srcG, wm_compG, wf_forG, wm_methI, wm_propI, wm_xf, wm_is, wf_skip, wf_for, wm_var, wm_c, wm_frz, wm_frN, wm_nn, wm_un, wm_bin, wm_evs_nil, wm_evs_cons, wm_n, wm_tup, wm_lst, wm_bool, wm_notB, wm_andBZ, wm_orBZ, wm_and, wm_or, wm_if, wm_chain, wm_asInt, wm_noInt, wm_sl, wm_step, wm_srcD, wm_srcN, wm_fmt, wm_js_nil, wm_js_cons, wm_tru, wm_strM, wm_mutL, wm_call, wm_comp, wc, EV.set, EV.kill, EV.kills, EV.put, EV.obj, EV.look, EV.looks, EV.objs, EV.key, EV.puts, argIx, argSl, gets, oD, oR, settled, List.set_cons_zero, List.set_cons_succ, List.getElem?_cons_zero, List.getElem?_cons_succ, List.replicate_succ, List.replicate_zero, List.map_cons, List.map_nil, List.length_cons, List.length_nil, List.nil_append, List.cons_append, Nat.reduceAdd, Nat.reduceSub, Nat.reduceLT, Nat.reduceLeDiff, List.nodup_cons, List.nodup_nil, List.not_mem_nil, not_false_eq_true, not_true_eq_false, and_self, and_true, true_and, and_false, false_and, if_true, if_false, reduceIte, Bool.false_eq_true, decide_eq_true_eq, decide_eq_false_iff_not, Bool.not_true, Bool.not_false, Bool.not_eq_true', Bool.not_eq_false', List.zip_cons_cons, List.zip_nil_right, List.zip_nil_left, List.foldl_cons, List.foldl_nil, tgN, tgT, tgT.go, tgL, mYes, wm_ret, List.headD_cons, row_ix0, row_ix1, row_ix2, addD, hz3]
    refine ⟨ws ++ [rs[k].n, rs[k].h, rs[k].m], by rw [List.length_append]; simp; omega, ?_⟩
    rw [List.map_append]
    rfl
  · rintro ρ ⟨ws, hw, rfl⟩
    have hr := range_nat (n := rs.length) (by omega)
    unfold later rb_law_7 L5
    simp (decide := true) only [wf_seqZ, wf_seqL, wf_kill, wf_expr, wf_fret, wf_retN, wf_ifSZ, wf_setN, wf_setV, wf_setT, wf_par, wf_augI, wf_break, wf_cont, wf_thru, wf_raise, wf_tryAs, wf_tryOn, wf_putIx, wm_step, wm_s1, wm_s2, wm_make, wm_makeL, wm_cmeth, wm_listO, wm_srcI, wm_srcG, wm_compG, wf_forG, wm_methI, wm_propI, wm_xf, wm_is, wf_skip, wf_for, wm_var, wm_c, wm_frz, wm_frN, wm_nn, wm_un, wm_bin, wm_evs_nil, wm_evs_cons, wm_n, wm_tup, wm_lst, wm_bool, wm_notB, wm_andBZ, wm_orBZ, wm_and, wm_or, wm_if, wm_chain, wm_asInt, wm_noInt, wm_sl, wm_step, wm_srcD, wm_srcN, wm_fmt, wm_js_nil, wm_js_cons, wm_tru, wm_strM, wm_mutL, wm_call, wm_comp, wc, EV.set, EV.kill, EV.kills, EV.put, EV.obj, EV.look, EV.looks, EV.objs, EV.key, EV.puts, argIx, argSl, gets, oD, oR, settled, List.set_cons_zero, List.set_cons_succ, List.getElem?_cons_zero, List.getElem?_cons_succ, List.replicate_succ, List.replicate_zero, List.map_cons, List.map_nil, List.length_cons, List.length_nil, List.nil_append, List.cons_append, Nat.reduceAdd, Nat.reduceSub, Nat.reduceLT, Nat.reduceLeDiff, List.nodup_cons, List.nodup_nil, List.not_mem_nil, not_false_eq_true, not_true_eq_false, and_self, and_true, true_and, and_false, false_and, if_true, if_false, reduceIte, Bool.false_eq_true, decide_eq_true_eq, decide_eq_false_iff_not, Bool.not_true, Bool.not_false, Bool.not_eq_true', Bool.not_eq_false', List.zip_cons_cons, List.zip_nil_right, List.zip_nil_left, List.foldl_cons, List.foldl_nil, tgN, tgT, tgT.go, tgL, mYes, wm_ret, List.headD_cons, len_lst, List.length_map, hr]
    refine wf_range (fun _ ρ => ρ = L5 ns t rs ws none none none none none) ?_ ?_ rfl
    · rintro k ρ hk2 rfl
      refine ⟨_, rfl, ?_⟩
      refine kind_turn (by omega) (by omega) hk2 _ fun a b c => ?_
      rfl
    · rintro ρ rfl
      unfold later rb_law_6 L5
      simp (decide := true) only [wf_seqZ, wf_seqL, wf_kill, wf_expr, wf_fret, wf_retN, wf_ifSZ, wf_setN, wf_setV, wf_setT, wf_par, wf_augI, wf_break, wf_cont, wf_thru, wf_raise, wf_tryAs, wf_tryOn, wf_putIx, wm_step, wm_s1, wm_s2, wm_make, wm_makeL, wm_cmeth, wm_listO, wm_srcI, wm_srcG, wm_compG, wf_forG, wm_methI, wm_propI, wm_xf, wm_is, wf_skip, wf_for, wm_var, wm_c, wm_frz, wm_frN, wm_nn, wm_un, wm_bin, wm_evs_nil, wm_evs_cons, wm_n, wm_tup, wm_lst, wm_bool, wm_notB, wm_andBZ, wm_orBZ, wm_and, wm_or, wm_if, wm_chain, wm_asInt, wm_noInt, wm_sl, wm_step, wm_srcD, wm_srcN, wm_fmt, wm_js_nil, wm_js_cons, wm_tru, wm_strM, wm_mutL, wm_call, wm_comp, wc, EV.set, EV.kill, EV.kills, EV.put, EV.obj, EV.look, EV.looks, EV.objs, EV.key, EV.puts, argIx, argSl, gets, oD, oR, settled, List.set_cons_zero, List.set_cons_succ, List.getElem?_cons_zero, List.getElem?_cons_succ, List.replicate_succ, List.replicate_zero, List.map_cons, List.map_nil, List.length_cons, List.length_nil, List.nil_append, List.cons_append, Nat.reduceAdd, Nat.reduceSub, Nat.reduceLT, Nat.reduceLeDiff, List.nodup_cons, List.nodup_nil, List.not_mem_nil, not_false_eq_true, not_true_eq_false, and_self, and_true, true_and, and_false, false_and, if_true, if_false, reduceIte, Bool.false_eq_true, decide_eq_true_eq, decide_eq_false_iff_not, Bool.not_true, Bool.not_false, Bool.not_eq_true', Bool.not_eq_false', List.zip_cons_cons, List.zip_nil_right, List.zip_nil_left, List.foldl_cons, List.foldl_nil, tgN, tgT, tgT.go, tgL, mYes, wm_ret, List.headD_cons]
end K05
set_option Elab.async false
set_option linter.all false
set_option maxRecDepth 100000
set_option maxHeartbeats 0
namespace K05
open PySem PySem.Spec PyProof.Rows L2 DL
def d__law_draws : He5.DefA := ⟨fun K => He.ga K "_law_draws", "_law_draws", "_law_draws", defArgs s__law_draws, defBody s__law_draws, defScope s__law_draws, [], []⟩
def d__law_draw : He5.DefA := ⟨fun K => He.ga K "_law_draw", "_law_draw", "_law_draw", defArgs s__law_draw, defBody s__law_draw, defScope s__law_draw, [], []⟩
def d__law_kinds : He5.DefA := ⟨fun K => He.ga K "_law_kinds", "_law_kinds", "_law_kinds", defArgs s__law_kinds, defBody s__law_kinds, defScope s__law_kinds, [], []⟩
def d_Kinds_init : He5.DefA := ⟨fun K => (He.ma K (He.ga K "Kinds") "__init__"), "__init__", "Kinds.__init__", defArgs s_Kinds_init, defBody s_Kinds_init, defScope s_Kinds_init, [], []⟩
def d_Kinds_members : He5.DefA := ⟨fun K => (He.ma K (He.ga K "Kinds") "members"), "members", "Kinds.members", defArgs s_Kinds_members, defBody s_Kinds_members, defScope s_Kinds_members, [], []⟩
def d__law_right_group : He5.DefA := ⟨fun K => He.ga K "_law_right_group", "_law_right_group", "_law_right_group", defArgs s__law_right_group, defBody s__law_right_group, defScope s__law_right_group, [], []⟩
def d__law_group_told : He5.DefA := ⟨fun K => He.ga K "_law_group_told", "_law_group_told", "_law_group_told", defArgs s__law_group_told, defBody s__law_group_told, defScope s__law_group_told, [], []⟩
def d__law_unknown_told : He5.DefA := ⟨fun K => He.ga K "_law_unknown_told", "_law_unknown_told", "_law_unknown_told", defArgs s__law_unknown_told, defBody s__law_unknown_told, defScope s__law_unknown_told, [], []⟩
def d_law : He5.DefA := ⟨fun K => He.ga K "law", "law", "law", defArgs s_law, defBody s_law, defScope s_law, [], []⟩
def fn : List He5.DefA := [d__law_draws, d__law_draw, d__law_kinds, d_Kinds_init, d_Kinds_members, d__law_right_group, d__law_group_told, d__law_unknown_told, d_law]
def fa : List He.Fa := [.glo "_law_draws", .glo "_law_draw", .glo "_law_kinds", .glo "_law_right_group", .glo "_law_group_told", .glo "_law_unknown_told", .glo "law", .glo "PARTS", .free "list", .free "len", .free "range", .free "min", .free "int", .free "tuple", .free "enumerate", .free "isinstance", .free "bool", .free "str", .free "super", .glo "DuplicateName", .glo "UnknownName", .glo "Kinds"]
def ts : List He.Tab := [(fun K => He.ga K "PARTS", ["kind", "hall", "make"])]
def dv_PARTS : List (Str × He.Dv) := [("kind", .int 0), ("hall", .int 1), ("make", .int 2)]
def exs : List (PySem.W.Frag → Bool) := [fun K => He.valsB K (He.ga K "PARTS") dv_PARTS, fun K => (errB "/claim/cut.py" K ⟨"DuplicateName", "name", inClass (top 5) 0, "DuplicateName.__init__"⟩ && excB K (He.ga K "DuplicateName")), fun K => (errB "/claim/cut.py" K ⟨"UnknownName", "name", inClass (top 4) 0, "UnknownName.__init__"⟩ && excB K (He.ga K "UnknownName")), fun K => exmB K "UnknownName" "UnknownName" true, fun K => mkB K "Kinds" "Kinds", fun K => (He.Fa.cls "Kinds").ok K, fun K => (He.Fa.noat "Kinds" "rows").ok K, fun K => methB K "Kinds" "Kinds" "members"]
def ex (K : PySem.W.Frag) : Bool := exs.all fun t => t K
abbrev R : PySem.W.OpenRow := PySem.W.OpenLaw.row PySem.Challenge.rw_keysstayput_k05_groups_of_tallies
def ini_DuplicateName : IniD := ⟨"DuplicateName", "name", inClass (top 5) 0, "DuplicateName.__init__"⟩
def ini_UnknownName : IniD := ⟨"UnknownName", "name", inClass (top 4) 0, "UnknownName.__init__"⟩
def ini : List IniD := [ini_DuplicateName, ini_UnknownName]
abbrev hk : PySem.W.Hook := hookY 8 fa fn ts ex ini
def ob (s : PySem.W.SharedT) : AlY := obsY 8 fa fn ts ex ini (HandSHeadRun.getT s)
theorem ob_eq (s : PySem.W.SharedT) : ob s = hk.obs s.abs := obsY_eq (HandSHeadRun.getT_eq s)
abbrev N_law : List Str := ["_law_script", "_law_draws_here", "_law_rows", "_law_kinds_here", "_law_roles", "_law_words", "_law_row", "_law_kind", "_law_place", "_law_due", "_law_word", "_law_k"]
def loose : List Str := ["_wall", "PlacementError", "BadLine", "UnknownName", "DuplicateName", "LETTERS", "PARTS", "is_name", "read_kind", "Kinds", "_law_draws", "_law_draw", "_law_kinds", "_law_right_group", "_law_group_told", "_law_unknown_told"]
theorem run (w : World) : HandSHeadRun.RunEq R (PySem.W.view R.prog [19]) hk ob 6000 loose w := PySem.W.byRow2 "special-get-raises" (P := fun w => HandSHeadRun.RunEq R (PySem.W.view R.prog [19]) hk ob 6000 loose w) (fun w => by
  intro os
  kernel_rfl) (fun w => by
  intro os
  kernel_rfl) w
theorem facts {w : World} {K : PySem.W.Frag} {h : Heap} {mg : Str → Option Value} {f : Addr} (X : K.In h) (G : h.Ns mainGlobals mg) (hfa : mg ("law" : Str) = some (.ref f)) (c : SaysY fa fn ts ex ini w K) :
    let P := PySem.Challenge.rw_keysstayput_k05_groups_of_tallies.prog
    ∃ fd : FuncData, (∀ (s : Shared) (v : Value), BindsTo s fd ⟨[v], []⟩ [("_law_script", v)]) ∧ ∀ base : Heap, FnOk P w K mg base (L2.CX P w) 5 f fd ["_law_script"] (spD ⟨K, w⟩ ["_law_script"] ["_law_script", "_law_draws_here", "_law_rows", "_law_kinds_here", "_law_roles", "_law_words", "_law_row", "_law_kind", "_law_place", "_law_due", "_law_word", "_law_k"] fb_law) := by
  intro P
  have hx : ∀ (i : Nat) {t : PySem.W.Frag → Bool}, exs[i]? = some t → t K = true := fun i t h => List.all_eq_true.mp (He.ba c.more).1 t (List.mem_of_getElem? h)
  obtain ⟨fd__law_draws, F__law_draws⟩ := saysY_def c 0 (d := d__law_draws) rfl
  obtain ⟨fd__law_draw, F__law_draw⟩ := saysY_def c 1 (d := d__law_draw) rfl
  obtain ⟨fd__law_kinds, F__law_kinds⟩ := saysY_def c 2 (d := d__law_kinds) rfl
  obtain ⟨fd_Kinds_init, F_Kinds_init⟩ := saysY_def c 3 (d := d_Kinds_init) rfl
  obtain ⟨fd_Kinds_members, F_Kinds_members⟩ := saysY_def c 4 (d := d_Kinds_members) rfl
  obtain ⟨fd__law_right_group, F__law_right_group⟩ := saysY_def c 5 (d := d__law_right_group) rfl
  obtain ⟨fd__law_group_told, F__law_group_told⟩ := saysY_def c 6 (d := d__law_group_told) rfl
  obtain ⟨fd__law_unknown_told, F__law_unknown_told⟩ := saysY_def c 7 (d := d__law_unknown_told) rfl
  obtain ⟨fd, F⟩ := saysY_def c 8 (d := d_law) rfl
  have e := hfa.symm.trans (He.glo_ok X G (saysY_fa c (List.mem_of_getElem? (i := 6) (l := fa) rfl : (.glo "law" : He.Fa) ∈ fa)))
  cases e
  have b := FunD.bindsA (ps := ["_law_script"]) F fun _ _ _ _ _ _ us hl => match us, hl with | [_], _ => rfl
  refine ⟨fd, fun s v => b s [v] rfl, fun base => ?_⟩
  have B : Bf P w K mg base := {
    list_ := He.free_ok X G (saysY_fa c (List.mem_of_getElem? (i := 8) (l := fa) rfl : (.free "list" : He.Fa) ∈ fa)),
    len_ := He.free_ok X G (saysY_fa c (List.mem_of_getElem? (i := 9) (l := fa) rfl : (.free "len" : He.Fa) ∈ fa)),
    range_ := He.free_ok X G (saysY_fa c (List.mem_of_getElem? (i := 10) (l := fa) rfl : (.free "range" : He.Fa) ∈ fa)),
    min_ := He.free_ok X G (saysY_fa c (List.mem_of_getElem? (i := 11) (l := fa) rfl : (.free "min" : He.Fa) ∈ fa)),
    int_ := He.free_ok X G (saysY_fa c (List.mem_of_getElem? (i := 12) (l := fa) rfl : (.free "int" : He.Fa) ∈ fa)),
    tuple_ := He.free_ok X G (saysY_fa c (List.mem_of_getElem? (i := 13) (l := fa) rfl : (.free "tuple" : He.Fa) ∈ fa)),
    enumerate_ := He.free_ok X G (saysY_fa c (List.mem_of_getElem? (i := 14) (l := fa) rfl : (.free "enumerate" : He.Fa) ∈ fa)),
    isinstance_ := He.free_ok X G (saysY_fa c (List.mem_of_getElem? (i := 15) (l := fa) rfl : (.free "isinstance" : He.Fa) ∈ fa)),
    bool_ := He.free_ok X G (saysY_fa c (List.mem_of_getElem? (i := 16) (l := fa) rfl : (.free "bool" : He.Fa) ∈ fa)),
    str_ := He.free_ok X G (saysY_fa c (List.mem_of_getElem? (i := 17) (l := fa) rfl : (.free "str" : He.Fa) ∈ fa)),
    cls_Kinds := He.glo_ok X G (saysY_fa c (List.mem_of_getElem? (i := 21) (l := fa) rfl : (.glo "Kinds" : He.Fa) ∈ fa)),
    cls_UnknownName := He.glo_ok X G (saysY_fa c (List.mem_of_getElem? (i := 20) (l := fa) rfl : (.glo "UnknownName" : He.Fa) ∈ fa)),
    PARTS_ := gdict_of (kvs := dv_PARTS) X G (saysY_fa c (List.mem_of_getElem? (i := 7) (l := fa) rfl : (.glo "PARTS" : He.Fa) ∈ fa)) (says_tab c.t 0) (hx 0 (t := fun K => He.valsB K (He.ga K "PARTS") dv_PARTS) rfl) rfl,
    err_DuplicateName := ⟨errOk_of (P := P) (d := ini_DuplicateName) (ar := _) X G (saysY_fa c (List.mem_of_getElem? (i := 19) (l := fa) rfl : (.glo "DuplicateName" : He.Fa) ∈ fa)) (He.free_ok X G (saysY_fa c (List.mem_of_getElem? (i := 18) (l := fa) rfl : (.free "super" : He.Fa) ∈ fa))) (He.ba (hx 1 (t := fun K => (errB "/claim/cut.py" K ⟨"DuplicateName", "name", inClass (top 5) 0, "DuplicateName.__init__"⟩ && excB K (He.ga K "DuplicateName"))) rfl)).1 (saysY_ini c 0 rfl) (by decide +kernel) rfl rfl (NdefX.nscope_by (by decide +kernel)) (by decide +kernel) rfl rfl (fun _ => rfl) (fun _ _ _ _ => rfl) (fun _ _ _ _ _ us hl => match us, hl with | [_, _], _ => rfl) (fun F f A outer s H E e => by subst_eqs; exact pe_var rfl (by unfold Vis; left; show F.scope.names.lookup _ = _; rw [e]; decide +kernel)) (fun F f A outer s H E e => by exact pe_var rfl (by unfold Vis; left; show F.scope.names.lookup _ = _; rw [e]; decide +kernel)) (fun _ => rfl), errB_no (d := ini_DuplicateName) (He.ba (hx 1 (t := fun K => (errB "/claim/cut.py" K ⟨"DuplicateName", "name", inClass (top 5) 0, "DuplicateName.__init__"⟩ && excB K (He.ga K "DuplicateName"))) rfl)).1, excB_ok (He.ba (hx 1 (t := fun K => (errB "/claim/cut.py" K ⟨"DuplicateName", "name", inClass (top 5) 0, "DuplicateName.__init__"⟩ && excB K (He.ga K "DuplicateName"))) rfl)).2⟩,
    err_UnknownName := ⟨errOk_of (P := P) (d := ini_UnknownName) (ar := _) X G (saysY_fa c (List.mem_of_getElem? (i := 20) (l := fa) rfl : (.glo "UnknownName" : He.Fa) ∈ fa)) (He.free_ok X G (saysY_fa c (List.mem_of_getElem? (i := 18) (l := fa) rfl : (.free "super" : He.Fa) ∈ fa))) (He.ba (hx 2 (t := fun K => (errB "/claim/cut.py" K ⟨"UnknownName", "name", inClass (top 4) 0, "UnknownName.__init__"⟩ && excB K (He.ga K "UnknownName"))) rfl)).1 (saysY_ini c 1 rfl) (by decide +kernel) rfl rfl (NdefX.nscope_by (by decide +kernel)) (by decide +kernel) rfl rfl (fun _ => rfl) (fun _ _ _ _ => rfl) (fun _ _ _ _ _ us hl => match us, hl with | [_, _], _ => rfl) (fun F f A outer s H E e => by subst_eqs; exact pe_var rfl (by unfold Vis; left; show F.scope.names.lookup _ = _; rw [e]; decide +kernel)) (fun F f A outer s H E e => by exact pe_var rfl (by unfold Vis; left; show F.scope.names.lookup _ = _; rw [e]; decide +kernel)) (fun _ => rfl), errB_no (d := ini_UnknownName) (He.ba (hx 2 (t := fun K => (errB "/claim/cut.py" K ⟨"UnknownName", "name", inClass (top 4) 0, "UnknownName.__init__"⟩ && excB K (He.ga K "UnknownName"))) rfl)).1, excB_ok (He.ba (hx 2 (t := fun K => (errB "/claim/cut.py" K ⟨"UnknownName", "name", inClass (top 4) 0, "UnknownName.__init__"⟩ && excB K (He.ga K "UnknownName"))) rfl)).2⟩,
    exm_UnknownName_UnknownName := of_decide_eq_true (hx 3 (t := fun K => exmB K "UnknownName" "UnknownName" true) rfl),
    mk_Kinds := mk_b (hx 4 (t := fun K => mkB K "Kinds" "Kinds") rfl),
    ck_Kinds := He.cls_ok (hx 5 (t := fun K => (He.Fa.cls "Kinds").ok K) rfl),
    noat_Kinds_rows := He.noat_ok (hx 6 (t := fun K => (He.Fa.noat "Kinds" "rows").ok K) rfl),
    meth_Kinds_members := meth_b (hx 7 (t := fun K => methB K "Kinds" "Kinds" "members") rfl) }
  have h__law_draws := ok__law_draws (P := P) (base := base) B  ⟨_, _, He.glo_ok X G (saysY_fa c (List.mem_of_getElem? (i := 0) (l := fa) rfl : (.glo "_law_draws" : He.Fa) ∈ fa)), F__law_draws⟩
  have h__law_draw := ok__law_draw (P := P) (base := base) B  ⟨_, _, He.glo_ok X G (saysY_fa c (List.mem_of_getElem? (i := 1) (l := fa) rfl : (.glo "_law_draw" : He.Fa) ∈ fa)), F__law_draw⟩
  have h__law_kinds := ok__law_kinds (P := P) (base := base) B h__law_draw ⟨_, _, He.glo_ok X G (saysY_fa c (List.mem_of_getElem? (i := 2) (l := fa) rfl : (.glo "_law_kinds" : He.Fa) ∈ fa)), F__law_kinds⟩
  have h_Kinds_init := ok_Kinds_init (P := P) (base := base) B  F_Kinds_init
  have h_Kinds_members := ok_Kinds_members (P := P) (base := base) B  F_Kinds_members
  have h__law_right_group := ok__law_right_group (P := P) (base := base) B  ⟨_, _, He.glo_ok X G (saysY_fa c (List.mem_of_getElem? (i := 3) (l := fa) rfl : (.glo "_law_right_group" : He.Fa) ∈ fa)), F__law_right_group⟩
  have h__law_group_told := ok__law_group_told (P := P) (base := base) B h_Kinds_members h__law_right_group ⟨_, _, He.glo_ok X G (saysY_fa c (List.mem_of_getElem? (i := 4) (l := fa) rfl : (.glo "_law_group_told" : He.Fa) ∈ fa)), F__law_group_told⟩
  have h__law_unknown_told := ok__law_unknown_told (P := P) (base := base) B h_Kinds_members ⟨_, _, He.glo_ok X G (saysY_fa c (List.mem_of_getElem? (i := 5) (l := fa) rfl : (.glo "_law_unknown_told" : He.Fa) ∈ fa)), F__law_unknown_told⟩
  exact ok_law B h__law_draws h__law_kinds h_Kinds_init h__law_group_told h__law_unknown_told F
end K05
open PySem PySem.W PySem.Calls PyProof.Rows
theorem PySem.Challenge.cw_keysstayput_k05_groups_of_tallies_holds : PySem.Challenge.rw_keysstayput_k05_groups_of_tallies.Holds := by
  w_on; o_law
  refine HandSHeadRun.head_any (r := OpenLaw.row PySem.Challenge.rw_keysstayput_k05_groups_of_tallies) (q := view (OpenLaw.row PySem.Challenge.rw_keysstayput_k05_groups_of_tallies).prog [19]) (H := K05.hk) (ob := K05.ob) (M := 6000) (loose := K05.loose) (d := HandSHeadRun.topDef (OpenLaw.row PySem.Challenge.rw_keysstayput_k05_groups_of_tallies).prog 19) (kwd := []) K05.ob_eq
    (by kernel_rfl) (fun s => by kernel_rfl) K05.run (by kernel_rfl) (by kernel_rfl) (by kernel_rfl) (by rfl) (by first | assumption | decide +kernel) (by decide +kernel) ⟨rfl, rfl, rfl, rfl, rfl, by decide +kernel⟩ ?hw ?hc
  case hw => w_witness2
  case hc =>
    refine L2.walk_ofE (l := PySem.Challenge.rw_keysstayput_k05_groups_of_tallies) (n := 63) (k := 5) (x := "_law_script") (CX := L2.CX0) rfl (by decide) (by kernel_rfl) ⟨rfl, by decide, by decide⟩ ?F (fun _ _ _ _ z => z)
    intro w mg fa h Y G hmg0
    obtain ⟨K, KX, c⟩ := Y
    have hmg : mg ("law" : PySem.Str) = some (.ref fa) := by
      have e : (HandSHeadRun.topDef (OpenLaw.row PySem.Challenge.rw_keysstayput_k05_groups_of_tallies).prog 19).name = ("law" : PySem.Str) := by kernel_rfl
      rw [← e]
      exact hmg0
    obtain ⟨fd, hb, hF⟩ := K05.facts (w := w) KX G hmg c
    exact ⟨K, fd, fun vs H Q _ => DL.spD ⟨K, w⟩ ["_law_script"] K05.N_law K05.fb_law vs H Q L2.E0, KX, hb, fun H a ns hl _ hS => DL.law_sp (N := K05.N_law) (fb := K05.fb_law) rfl hS (K05.pure_law ns hl), fun base _ _ => DL.fnOk_quiet (hF base)⟩
